import PyProof.Rows.All
import Wide.All
import OpenK.AllK
import Wide.FinOn
import HandS.ForMost
import HandS.ForExc
import HandS.Wide
import HandS.StrMore
import HandS.StrSplit
import HandS.IsInst
import HandS.WrittenGet
import HandS.Walk
import HandS.Codes
import HandS.ExcInit
import HandS.Exc
import HandS.ExcOwn
import HandS.ExcField
import HandS.WordsExc
import HandS.NoneIn
import HandS.RevRange
import HandS.Zip
import HandS.HotCalls
import HandS.ExcInitHot
import HandS.Lambda
import HandS.EndTab
import KE.KExcIs
import KE.KNestM
import HandS.Conv
import HandS.TupLe
import HandS.SetFor
import PySem.Challenge.RW_whoeverwins_k31_bills_and_hidden_seasons
set_option Elab.async false
set_option linter.all false
set_option maxRecDepth 100000
set_option maxHeartbeats 4000000
set_option Elab.async false
set_option linter.all false
set_option maxRecDepth 100000
set_option maxHeartbeats 4000000
namespace Rl
open PySem PySem.Spec PyProof.Rows L2

section
variable {X : Cx}
/-- xs[i] of a list, for an augmented store -/
theorem get_list : PGet X (rIxL X.K) := by
  intro pins s σ H x y v u Q I rx ry h
  obtain ⟨p, xs, i, z, rfl, rfl, hq, he, q⟩ := h
  cases rx
  obtain ⟨t, rfl⟩ := ry
  obtain ⟨its, r, pl, hz⟩ := I.list hq
  obtain ⟨j, h1, h2, h3, h4, h5⟩ := atI_get he
  obtain ⟨w, ew, rw'⟩ := r.get h2
  have hl := r.length
  have hn := line63
  have fin : EP X pins σ Q w s := ⟨z, H, I, rw', q⟩
  by_cases h0 : 0 ≤ i
  · have hj : i.toNat = j := by
      rw [seqIndex_of h0 h5] at h1
      exact Option.some.inj h1
    exact wpAny_getItem_list pl.isList h0 (by omega) (by rw [hj]; simpa using ew) fin
  · have hj : (i + (its.toArray.size : Int)).toNat = j := by
      rw [seqIndex_neg (by omega) h4] at h1
      rw [List.size_toArray, ← hl]
      exact Option.some.inj h1
    exact wpAny_getItem_list_neg pl.isList (by omega) (by rw [List.size_toArray] <;> omega) (by omega) (by rw [hj]; simpa using ew) fin
end

/-! enumerate of a text -/
def ItS (x : Str) : It :=
  ⟨fun i _ => i < x.cps.size, fun i H v H' => ∃ T c, v = .ref T ∧ H T = none ∧ H' = upd H T (.tup [.int (i : Nat), .str ⟨#[c]⟩]) ∧ x.cps[i]? = some c, fun i _ => x.cps.size ≤ i⟩
theorem drawsS {P : Program} {w : World} {A : Around} (hh : A.handled = none) (it : Addr) (x : Str) (t : Tok) :
    PySem.Draws P w A it [it] x.cps.size (fun i v => ∃ c u, x.cps[i]? = some c ∧ v = .str ⟨#[c]⟩ u) (fun i h => h.IsStrIter it (strIterType x) x t i) := by
  unfold strIterType
  cases x.cps.all (· < 128)
  · exact Draws.strWide hh it x t
  · exact Draws.strAscii hh it x t
theorem turn_enumS {P : Program} {w : World} {K : PySem.W.Frag} {elts : List Expr} {kk : Nat} {tpos : Pos} (x : Str) (t : Tok) (e it : Addr) :
    Turn P w K (.Tuple elts kk tpos) (ItS x) [e, it] e (fun i h => (∃ old, IsEnum h e it ((i : Nat) : Int) old) ∧ h.IsStrIter it (strIterType x) x t i ∧ e ≠ it ∧ i ≤ x.cps.size) where
  mem := by simp
  obj := fun i h st b hb => by
    obtain ⟨⟨old, he⟩, ⟨o, ho, hc, hd⟩, _, _⟩ := st
    have e' : b = e ∨ b = it := by simpa using hb
    rcases e' with z | z
    · rw [z]; exact ⟨_, he, fun v q => nomatch q⟩
    · rw [z]; exact ⟨o, ho, fun v q => by rw [hd] at q; cases q⟩
  keep := fun i h h' st k => let ⟨⟨old, he⟩, hi, hne⟩ := st; ⟨⟨old, k e (by simp) _ he⟩, let ⟨o, ho, r⟩ := hi; ⟨o, k it (by simp) o ho, r⟩, hne⟩
  item := by
    intro X hP hw hK hc i pins s σ H E I hf st hg
    subst hP hw hK
    obtain ⟨⟨old, he⟩, hit, hne, hle⟩ := st
    have hel : e < s.heap.objs.size := Heap.lt_size he
    have hil : it < s.heap.objs.size := by obtain ⟨_, q, _⟩ := hit; exact Heap.lt_size q
    have D := drawsS (P := X.prog) (w := X.w) (A := X.A.in1) (I.ok.hd hc) it x t
    refine wpAny_pyNext_enum_itemD D he hit hg hne (by simpa using hne) fun y h' tk hP ho hit' hT hsz hk => ?_
    obtain ⟨c, u, hcx, rfl⟩ := hP
    refine ⟨_, rfl, wpAny_letOwnedTupleGo_enum (s := { s with heap := h', toks := tk + 1 }) ho fun h'' he' sb => ?_⟩
    have hT2 : h''.get? s.heap.objs.size = some { cls := .type "tuple", data := .seq #[.int i tk, .str ⟨#[c]⟩ u] } := (sb.2 _ (Nat.ne_of_gt hel)).trans hT
    have new : ObjOk X.prog X.w (upd H s.heap.objs.size (.tup [.int (i : Nat), .str ⟨#[c]⟩])) h'' s.heap.objs.size (.tup [.int (i : Nat), .str ⟨#[c]⟩]) :=
      ⟨by show 2 ≤ sizeLine; decide, [.int i tk, .str ⟨#[c]⟩ u], .cons ⟨_, rfl⟩ (.cons ⟨_, rfl⟩ .nil), ⟨_, hT2, rfl, _, rfl⟩⟩
    have I1 : Inv X pins σ (upd H s.heap.objs.size (.tup [.int (i : Nat), .str ⟨#[c]⟩])) { s with heap := h'', toks := tk + 1 } :=
      I.turnedNew (ch := [e, it]) (fun b ob hb q => (sb.2 b (fun z => hb (by simp [z]))).trans (hk b ob (fun z => hb (by simp [z])) (fun z => hb (by simp [z])) q)) hf (Nat.le_refl _) new
    refine ⟨.ref s.heap.objs.size, _, I1, rfl, ⟨_, c, rfl, I.hok.fresh (Nat.le_refl _), rfl, hcx⟩, ⟨⟨.str ⟨#[c]⟩ u, ?_⟩, ?_, hne, hg⟩, fun b hb => ?_⟩
    · have e1 : ((i + 1 : Nat) : Int) = (i : Int) + 1 := by omega
      rw [e1]; exact he'
    · obtain ⟨o, ho', r⟩ := hit'
      exact ⟨o, (sb.2 it (Ne.symm hne)).trans ho', r⟩
    · have hb' : b < s.heap.objs.size := by
        have e' : b = e ∨ b = it := by simpa using hb
        rcases e' with z | z
        · rw [z]; exact hel
        · rw [z]; exact hil
      rw [upd_ne (Nat.ne_of_lt hb')]
      exact (hf b hb).1
  done := by
    intro X hP hw hK hc i pins s σ H E I hf st hg
    subst hP hw hK
    obtain ⟨⟨old, he⟩, hit, hne, hle⟩ := st
    obtain ⟨f0, f1, f2, f3, f4, f5⟩ := hf it (by simp)
    have D := drawsS (P := X.prog) (w := X.w) (A := X.A.in1) (I.ok.hd hc) it x t
    have hge : x.cps.size ≤ i := hg
    have e1 : i = x.cps.size := Nat.le_antisymm hle hge
    subst e1
    exact wpAny_pyNext_enum_endD D he hit fun h' eb => ⟨rfl, I.turned (t' := s.toks) (fun b o hb q => eb b o hb q) f0 f1 f3 f4 f5⟩
  self := fun A i s Q E st h => let ⟨⟨_, he⟩, _⟩ := st; wpAny_pyIter_enum he h
def iEnumS (ta : TA) : TI := fun σ H R => ta σ H fun vs H1 => ∃ x, vs = [.str x] ∧ R (ItS x) H1
theorem pi_enumS {X : Cx} {e : Expr} {ta : TA} {p pos tpos : Pos} {elts : List Expr} {kk : Nat} (hg : Gl X "enumerate") (hm : X.mg "enumerate" = none) (ha : PA X [e] ta) (hs : starEach [e] X.env = [(false, eval e X.env)] := by rfl) :
    PI X (.Tuple elts kk tpos) (.Call (.Name "enumerate" p) [e] [] pos) (iEnumS ta) := by
  refine ⟨fun pins s σ H R I h => ?_⟩
  refine Call_ (ld_blt I hg hm boot_enumerate (PyProof.Rows.callWith_type1 (thn (ha.run pos pins s σ H _ I h) fun us s1 ⟨vs, H1, I1, r1, q1⟩ => ?_) hs rfl))
  obtain ⟨x, ex, q⟩ := q1
  subst ex
  cases r1 with
  | cons r rr =>
    cases rr
    obtain ⟨t, rfl⟩ := r
    refine call_enumerate_str fun h' he hit hsz hk => wpAny_pyIter_enum he ?_
    have I2 : Inv X pins σ H1 { s1 with heap := h' } := I1.kept (t' := s1.toks) hk
    refine ⟨s1.heap.objs.size + 1, [s1.heap.objs.size + 1, s1.heap.objs.size], _, _, H1, rfl, I2, turn_enumS x t (s1.heap.objs.size + 1) s1.heap.objs.size, ⟨⟨.none, he⟩, hit, Nat.succ_ne_self _, Nat.zero_le _⟩, fun b hb => ?_, q⟩
    have e' : b = s1.heap.objs.size + 1 ∨ b = s1.heap.objs.size := by simpa using hb
    have hle : s1.heap.objs.size ≤ b := by
      rcases e' with z | z
      · rw [z]; exact Nat.le_add_right _ _
      · rw [z]; exact Nat.le_refl _
    exact I1.fpOk hle (I1.hok.fresh hle)
end Rl

set_option Elab.async false
set_option linter.all false
set_option maxRecDepth 100000
set_option maxHeartbeats 4000000
namespace Eg
open PySem PySem.Spec PyProof.Rows L2 Rl

/-! operators by values, every kind that the texts use -/
def uAdd (K : PySem.W.Frag) : R2 := fun x y H Q => rI0 (fun i j => .int (i + j)) x y H Q ∨ (∃ i j, x = .str i ∧ y = .str j ∧ i.length + j.length ≤ sizeLine ∧ Q (.str (i ++ j)) H) ∨ rCat x y H Q ∨ rCatT K x y H Q
def uMul : R2 := rI (fun i j => CMul i j ∨ CMulW i j) fun i j => .int (i * j)
def uDiv : R2 := rI (fun i j => CDiv i j ∨ CDivW i j) fun i j => .int (i / j)
def uEq (K : PySem.W.Frag) : R2 := fun x y H Q => rEq x y H Q ∨ rEqD K x y H Q
def uNe (K : PySem.W.Frag) : R2 := fun x y H Q => rNe x y H Q ∨ rNeD K x y H Q
def uIn (K : PySem.W.Frag) : R2 := fun x y H Q => (∃ (c : Nat) (z : Str), x = .str ⟨#[c]⟩ ∧ y = .str z ∧ Q (.bl (decide (c ∈ z.cps.toList))) H) ∨ rIn K false x y H Q
def uNotIn (K : PySem.W.Frag) : R2 := fun x y H Q => (∃ (c : Nat) (z : Str), x = .str ⟨#[c]⟩ ∧ y = .str z ∧ Q (.bl (!decide (c ∈ z.cps.toList))) H) ∨ rIn K true x y H Q
def uLen (K : PySem.W.Frag) : List V → Hp → VK → Prop := fun xs H Q => ∃ x n, xs = [x] ∧ LenV K x H n ∧ Q (.int n) H
section
variable {X : Cx}
theorem op_uAdd : OpR X (binaryOp .Add) (uAdd X.K) := op_add.or (op_add_str.or (op_cat.or op_catT))
theorem op_uMul : OpR X (binaryOp .Mult) uMul := by
  intro pins s σ H x y v u Q I rx ry h
  obtain ⟨i, j, e1, e2, hc, q⟩ := h
  rcases hc with hc | hc
  · exact op_mul pins s σ H x y v u Q I rx ry ⟨i, j, e1, e2, hc, q⟩
  · exact op_mulW pins s σ H x y v u Q I rx ry ⟨i, j, e1, e2, hc, q⟩
theorem op_uDiv : OpR X (binaryOp .FloorDiv) uDiv := by
  intro pins s σ H x y v u Q I rx ry h
  obtain ⟨i, j, e1, e2, hc, q⟩ := h
  rcases hc with hc | hc
  · exact op_fdiv pins s σ H x y v u Q I rx ry ⟨i, j, e1, e2, hc, q⟩
  · exact op_fdivW pins s σ H x y v u Q I rx ry ⟨i, j, e1, e2, hc, q⟩
theorem op_uEq (hu : X.A.units + 64 < cLine) : OpR X (compareOp .Eq) (uEq X.K) := op_eq.or (op_eqD hu)
theorem op_uNe (hu : X.A.units + 64 < cLine) : OpR X (compareOp .NotEq) (uNe X.K) := op_ne.or (op_neD hu)
theorem op_uIn : OpR X (compareOp .In) (uIn X.K) := op_in_sign.or op_in_seq
theorem op_uNotIn : OpR X (compareOp .NotIn) (uNotIn X.K) := op_notIn_sign.or op_notIn_seq
theorem call_uLen : CallR X (.builtin "len") (uLen X.K) := call_len
def uInt : List V → Hp → VK → Prop := fun xs H Q => ((∃ i, xs = [.int i] ∧ Q (.int i) H) ∨ ∃ k, xs = [.bl k] ∧ Q (.int (if k then 1 else 0)) H) ∨ ∃ a n, xs = [.str a] ∧ PySem.intText? a = some n ∧ a.length ≤ 640 ∧ Q (.int n) H
theorem call_uInt : CallR X (.type "int") uInt := call_int1.or call_int_str
def uSl (K : PySem.W.Frag) : V → Option Int → Option Int → Hp → VK → Prop := fun x lo hi H Q => rSlL K x lo hi H Q ∨ rSlT K x lo hi H Q ∨ rSlS x lo hi H Q
theorem sl_u : SlR X (uSl X.K) := sl_list.or (sl_tup.or sl_str)
def uTru (K : PySem.W.Frag) (t : TE) : TT := fun σ H Q => t σ H fun x H1 => ∃ k, TruV K x H1 k ∧ Q k H1
end

/-! a def of the text, called by its name; a method -/
structure Dfn (P : Program) (w : World) (K : PySem.W.Frag) (mg : Str → Option Value) (base : Heap) (k : Nat) (x : Str) (ps : List Str) (sp : Sp) : Prop where
  ex : ∃ (f : Addr) (fd : FuncData), FnOk P w K mg base CX0 k f fd ps sp ∧ mg x = some (.ref f) ∧ PySem.W.keepIn K (.ref f) = true ∧ Binds K fd ps []
structure Mth (P : Program) (w : World) (K : PySem.W.Frag) (mg : Str → Option Value) (base : Heap) (k : Nat) (C : Addr) (x : Str) (ps : List Str) (sp : Sp) : Prop where
  ex : ∃ (f : Addr) (fd : FuncData), FnOk P w K mg base CX0 k f fd ps sp ∧ Meth K C x f ∧ Binds K fd ps []
  cl : Cls K C
structure Ini (P : Program) (w : World) (K : PySem.W.Frag) (mg : Str → Option Value) (base : Heap) (k : Nat) (x : Str) (C : Addr) (ps : List Str) (sp : Sp) : Prop where
  ex : ∃ (f : Addr) (fd : FuncData), FnOk P w K mg base CX0 k f fd ps sp ∧ Mk K C f ∧ mg x = some (.ref C) ∧ Binds K fd ps []
section
variable {X : Cx} {k : Nat} {x : Str} {ps : List Str} {sp : Sp} {p pos : Pos} {e : Expr} {es : List Expr} {t : TA} {C : Addr}
theorem pe_dfn (D : Dfn X.prog X.w X.K X.mg X.base k x ps sp) (hr : Room k X.A) (hg : Gl X x) (ha : PA X (e :: es) t)
    (hdb : (x == ("__debug__" : Str)) = false := by decide) (he : starEach (e :: es) X.env = (false, eval e X.env) :: starEach es X.env := by rfl) (hpl : (backTo pos (starEach es X.env)).any (·.1) = false := by rfl) :
    PE X (.Call (.Name x p) (e :: es) [] pos) (tCall sp [] E0 t) := by
  obtain ⟨f, fd, F, hm, hk, hb⟩ := D.ex
  exact pe_call F hr hg hm hk hb .nil pass0 ha hdb he hpl
theorem pe_dfn0 (D : Dfn X.prog X.w X.K X.mg X.base k x ps sp) (hr : Room k X.A) (hg : Gl X x)
    (hdb : (x == ("__debug__" : Str)) = false := by decide) :
    PE X (.Call (.Name x p) [] [] pos) (tCall sp [] E0 tNil) := by
  obtain ⟨f, fd, F, hm, hk, hb⟩ := D.ex
  exact pe_call0 F hr hg hm hk hb .nil pass0 hdb
variable {o : Expr} {apos : Pos} {m : Str} {ta : TE}
theorem pe_mth (D : Mth X.prog X.w X.K X.mg X.base k C m ps sp) (hr : Room k X.A) {pl : Sem Bool} (he : PE X o ta) (ha : PA X (e :: es) t)
    (hst : starEach (e :: es) X.env = (false, eval e X.env) :: starEach es X.env := by rfl) (hpl : (backTo pos (starEach es X.env)).any (·.1) = false := by rfl)
    (ht : eval (.Call (.Attribute o m apos) (e :: es) [] pos) X.env = (do
      let ov ← eval o X.env
      standAt apos.atName
      let (f, first) ← holding [ov] (getMethod ov m pl)
      callWith pos f first (backTo pos (starEach (e :: es) X.env)) (backToKw pos (keywordEach [] X.env))) := by rfl) :
    PE X (.Call (.Attribute o m apos) (e :: es) [] pos) (tMeth C m sp [] E0 ta t) := by
  obtain ⟨f, fd, F, hm, hb⟩ := D.ex
  exact pe_meth he D.cl hm F hr hb .nil pass0 ha hst hpl ht
theorem pe_mth0 (D : Mth X.prog X.w X.K X.mg X.base k C m ps sp) (hr : Room k X.A) {pl : Sem Bool} (he : PE X o ta)
    (ht : eval (.Call (.Attribute o m apos) [] [] pos) X.env = (do
      let ov ← eval o X.env
      standAt apos.atName
      let (f, first) ← holding [ov] (getMethod ov m pl)
      callWith pos f first (backTo pos (starEach [] X.env)) (backToKw pos (keywordEach [] X.env))) := by rfl) :
    PE X (.Call (.Attribute o m apos) [] [] pos) (tMeth C m sp [] E0 ta tNil) := by
  obtain ⟨f, fd, F, hm, hb⟩ := D.ex
  exact pe_meth0 he D.cl hm F hr hb .nil pass0 ht
theorem pe_ini (D : Ini X.prog X.w X.K X.mg X.base k x C ps sp) (hr : Room (k + 1) X.A) (hg : Gl X x) (ha : PA X (e :: es) t)
    (hdb : (x == ("__debug__" : Str)) = false := by decide) (he : starEach (e :: es) X.env = (false, eval e X.env) :: starEach es X.env := by rfl) (hpl : (backTo pos (starEach es X.env)).any (·.1) = false := by rfl) :
    PE X (.Call (.Name x p) (e :: es) [] pos) (tMake C sp [] E0 t) := by
  obtain ⟨f, fd, F, M, hm, hb⟩ := D.ex
  exact pe_make M F hr hg hm hb .nil pass0 ha hdb he hpl
/-- a module's constant -/
theorem pe_gi {n : Int} (h : ∃ t, X.mg x = some (.int n t)) (hg : Gl X x := by rfl) (hd : (x == ("__debug__" : Str)) = false := by decide) : PE X (.Name x p) (tC (.int n)) := by
  obtain ⟨t, h⟩ := h
  exact pe_glob (v := .int n) hg h ⟨_, rfl⟩ hd
theorem pe_gs {z : Str} (h : ∃ t, X.mg x = some (.str z t)) (hg : Gl X x := by rfl) (hd : (x == ("__debug__" : Str)) = false := by decide) : PE X (.Name x p) (tC (.str z)) := by
  obtain ⟨t, h⟩ := h
  exact pe_glob (v := .str z) hg h ⟨_, rfl⟩ hd
theorem pe_gr {a : Addr} (h : X.mg x = some (.ref a)) (hg : Gl X x := by rfl) (hd : (x == ("__debug__" : Str)) = false := by decide) : PE X (.Name x p) (tC (.ref a)) := pe_glob (v := .ref a) hg h rfl hd
theorem pt_u (ha : PE X o ta) (he : ∀ whole, isTrue o X.env whole = (do let v ← whole; standAt o.pos; holding [v] (truthy v)) := by intro _; rfl) : PT X o (uTru X.K ta) := pt_truth ha he
end

/-! stepping through a reading -/
section
variable {K : PySem.W.Frag} {σ : L2.St} {H : Hp} {ta tb te tl th : TE} {t u : TT} {x y z v : V} {D : Ends} {tu tw tz : TS} {tr : TA} {Q : VK} {E : XK} {r : R2} {i j : Nat} {g : TG}
theorem i_var (h : σ[i]? = some (some v)) (k : Q v H) : tVar i σ H Q := ⟨v, h, k⟩
theorem i_c (k : Q v H) : tC v σ H Q := k
theorem i_op (k : ta σ H fun x H1 => tb σ H1 fun y H2 => r x y H2 Q) : tOp r ta tb σ H Q := k
theorem i_un {r : V → Hp → VK → Prop} (k : ta σ H fun x H1 => r x H1 Q) : tUn r ta σ H Q := k
theorem i_nil {Q : List V → Hp → Prop} (k : Q [] H) : tNil σ H Q := k
theorem i_cons {Q : List V → Hp → Prop} (k : te σ H fun x H1 => tr σ H1 fun xs H2 => Q (x :: xs) H2) : tCons te tr σ H Q := k
theorem i_tup (k : tr σ H fun xs H1 => xs.length ≤ sizeLine ∧ ∀ p, H1 p = none → Q (.ref p) (upd H1 p (.tup xs))) : tTup tr σ H Q := k
theorem i_lst (k : tr σ H fun xs H1 => xs.length ≤ sizeLine ∧ ∀ p, H1 p = none → Q (.ref p) (upd H1 p (.lst xs))) : tLst tr σ H Q := k
theorem i_cb {r : List V → Hp → VK → Prop} (k : tr σ H fun vs H1 => r vs H1 Q) : tCB r tr σ H Q := k
theorem i_call {sp : Sp} (k : tr σ H fun vs H1 => sp vs H1 Q E) : tCall sp [] E tr σ H Q := by
  unfold tCall
  simp only [List.append_nil]
  exact k
def gMeth (C : Addr) (m : Str) (sp : Sp) (E : XK) (t : TA) (x : V) (σ : L2.St) (H : Hp) (Q : VK) : Prop := ∃ a dx fs, x = .ref a ∧ H a = some (.ins C dx fs) ∧ fs.lookup m = none ∧ t σ H fun vs H2 => sp (x :: vs) H2 Q E
theorem i_meth {C : Addr} {m : Str} {sp : Sp} (k : te σ H fun x H1 => gMeth C m sp E tr x σ H1 Q) : tMeth C m sp [] E te tr σ H Q := by
  unfold tMeth
  simp only [List.append_nil]
  exact k
theorem g_meth {C dx a : Addr} {m : Str} {sp : Sp} {fs : List (Str × V)} (h : H a = some (.ins C dx fs)) (l : fs.lookup m = none) (k : tr σ H fun vs H2 => sp (.ref a :: vs) H2 Q E) : gMeth C m sp E tr (.ref a) σ H Q := ⟨a, dx, fs, rfl, h, l, k⟩
def gFld (K : PySem.W.Frag) (f : Str) (x : V) (H : Hp) (Q : VK) : Prop := ∃ a C dx fs v, x = .ref a ∧ H a = some (.ins C dx fs) ∧ Cls K C ∧ NoAttr K C f ∧ fs.lookup f = some v ∧ Q v H
theorem i_fld {f : Str} (k : te σ H fun x H1 => gFld K f x H1 Q) : tFld K te f σ H Q := k
theorem g_fld {C dx a : Addr} {f : Str} {fs : List (Str × V)} (h : H a = some (.ins C dx fs)) (c : Cls K C) (n : NoAttr K C f) (l : fs.lookup f = some v) (k : Q v H) : gFld K f (.ref a) H Q := ⟨a, C, dx, fs, v, rfl, h, c, n, l, k⟩
theorem i_make {C : Addr} {sp : Sp} (k : tr σ H fun vs H1 => ∀ x dx, H1 x = none → H1 dx = none → dx ≠ x → sp (.ref x :: vs) (upd (upd H1 dx (.own x)) x (.ins C dx [])) (fun v H2 => v = .non ∧ Q (.ref x) H2) E) : tMake C sp [] E tr σ H Q := by
  unfold tMake
  simp only [List.append_nil]
  exact k
theorem i_if (k : t σ H fun c H1 => if c = true then ta σ H1 Q else tb σ H1 Q) : tIf t ta tb σ H Q := k
theorem i_sl {r : V → Option Int → Option Int → Hp → VK → Prop} {tl th : TO} (k : te σ H fun x H1 => tl σ H1 fun l H2 => th σ H2 fun u H3 => r x l u H3 Q) : tSl r te tl th σ H Q := k
theorem i_nopart {Q : Option Int → Hp → Prop} (k : Q none H) : tNoPart σ H Q := k
def gPart (x : V) (H : Hp) (Q : Option Int → Hp → Prop) : Prop := ∃ i, x = .int i ∧ Q (some i) H
theorem i_part {Q : Option Int → Hp → Prop} (k : te σ H fun x H1 => gPart x H1 Q) : tPart te σ H Q := k
theorem g_part {n : Int} {Q : Option Int → Hp → Prop} (k : Q (some n) H) : gPart (.int n) H Q := ⟨n, rfl, k⟩
/- tests -/
def gB (x : V) (H : Hp) (Q : Bool → Hp → Prop) : Prop := ∃ k, x = .bl k ∧ Q k H
theorem i_test {Q : Bool → Hp → Prop} (k : te σ H fun x H1 => gB x H1 Q) : tTest te σ H Q := k
theorem i_tB {Q : Bool → Hp → Prop} (k : te σ H fun x H1 => gB x H1 Q) : tB te σ H Q := k
theorem g_b {b : Bool} {Q : Bool → Hp → Prop} (k : Q b H) : gB (.bl b) H Q := ⟨b, rfl, k⟩
def gTru (K : PySem.W.Frag) (x : V) (H : Hp) (Q : Bool → Hp → Prop) : Prop := ∃ k, TruV K x H k ∧ Q k H
theorem i_tru {Q : Bool → Hp → Prop} (k : te σ H fun x H1 => gTru K x H1 Q) : uTru K te σ H Q := k
theorem g_truB {b : Bool} {Q : Bool → Hp → Prop} (k : Q b H) : gTru K (.bl b) H Q := ⟨b, rfl, k⟩
theorem i_and {Q : Bool → Hp → Prop} (k : t σ H fun c H1 => if c = true then u σ H1 Q else Q false H1) : tAnd t u σ H Q := k
theorem i_or {Q : Bool → Hp → Prop} (k : t σ H fun c H1 => if c = true then Q true H1 else u σ H1 Q) : tOr t u σ H Q := k
theorem i_not {Q : Bool → Hp → Prop} (k : t σ H fun c H1 => Q (!c) H1) : tNot t σ H Q := k
def gAndV (tb : TE) (x : V) (σ : L2.St) (H : Hp) (Q : VK) : Prop := ∃ c, x = .bl c ∧ if c = true then tb σ H Q else Q (.bl false) H
def gOrV (tb : TE) (x : V) (σ : L2.St) (H : Hp) (Q : VK) : Prop := ∃ c, x = .bl c ∧ if c = true then Q (.bl true) H else tb σ H Q
def gNotV (x : V) (H : Hp) (Q : VK) : Prop := ∃ c, x = .bl c ∧ Q (.bl (!c)) H
theorem i_andV (k : ta σ H fun x H1 => gAndV tb x σ H1 Q) : tAndV ta tb σ H Q := k
theorem i_orV (k : ta σ H fun x H1 => gOrV tb x σ H1 Q) : tOrV ta tb σ H Q := k
theorem i_notV (k : ta σ H fun x H1 => gNotV x H1 Q) : tNotV ta σ H Q := k
theorem g_andV {c : Bool} (k : if c = true then tb σ H Q else Q (.bl false) H) : gAndV tb (.bl c) σ H Q := ⟨c, rfl, k⟩
theorem g_orV {c : Bool} (k : if c = true then Q (.bl true) H else tb σ H Q) : gOrV tb (.bl c) σ H Q := ⟨c, rfl, k⟩
theorem g_notV {c : Bool} (k : Q (.bl (!c)) H) : gNotV (.bl c) H Q := ⟨c, rfl, k⟩
/- statements -/
theorem i_next (k : D.nx σ H) : tNext D σ H := k
theorem i_seq {a c d : L2.St → Hp → Prop} {b : VK} (k : tu ⟨tz ⟨a, b, c, d⟩, b, c, d⟩ σ H) : tSeq tu tz ⟨a, b, c, d⟩ σ H := k
theorem i_seqN {a c d : L2.St → Hp → Prop} {b : VK} (k : ∀ N : L2.St → Hp → Prop, (∀ σ' H', tz ⟨a, b, c, d⟩ σ' H' → N σ' H') → tu ⟨N, b, c, d⟩ σ H) : tSeq tu tz ⟨a, b, c, d⟩ σ H := k _ fun _ _ h => h
theorem t_nx {N M : L2.St → Hp → Prop} (h : ∀ σ' H', M σ' H' → N σ' H') (k : M σ H) : N σ H := h _ _ k
theorem i_asg (k : te σ H fun x H1 => g x σ H1 D.nx) : tAsg te g D σ H := k
theorem i_name {Q : L2.St → Hp → Prop} {σ' : L2.St} (e : σ.set i (some v) = σ') (k : Q σ' H) : gName i v σ H Q := by
  subst e
  exact k
theorem i_drop (k : te σ H fun _ H1 => D.nx σ H1) : tDrop te D σ H := k
theorem i_ret (k : te σ H D.rt) : tRet te D σ H := k
theorem i_retN (k : D.rt .non H) : tRetN D σ H := k
theorem i_ifS (k : t σ H fun b H1 => if b = true then tu D σ H1 else tw D σ H1) : tIfS t tu tw D σ H := k
theorem i_aug {ti : TIp} (h : σ[i]? = some (some x)) (k : te σ H fun y H1 => ti x y H1 fun z H2 => D.nx (σ.set i (some z)) H2) : tAug i te ti D σ H := ⟨x, h, k⟩
theorem g_ipI {f : Int → Int → Int} {m n : Int} (k : Q (.int (f m n)) H) : ipI f (.int m) (.int n) H Q := ⟨m, n, rfl, rfl, k⟩
theorem i_augS {to ti : TE} {tget : V → V → Hp → VK → Prop} {tip : TIp} {tset : TSet} (k : to σ H fun o H1 => ti σ H1 fun i H2 => tget o i H2 fun x H3 => te σ H3 fun y H4 => tip x y H4 fun z H5 => tset o i z H5 fun H6 => D.nx σ H6) : tAugS to ti te tget tip tset D σ H := k
def gSfld (K : PySem.W.Frag) (f : Str) (x y : V) (H : Hp) (Q : Hp → Prop) : Prop := ∃ a C dx fs, x = .ref a ∧ H a = some (.ins C dx fs) ∧ Cls K C ∧ NoAttr K C f ∧ fs.length < 1000 ∧ Q (upd H a (.ins C dx (putF f y fs)))
theorem i_sub {to ti : TE} {t : TSet} {Q : L2.St → Hp → Prop} (k : to σ H fun o H1 => ti σ H1 fun i H2 => t o i v H2 fun H3 => Q σ H3) : gSub to ti t v σ H Q := k
theorem p_nx {a c d : L2.St → Hp → Prop} {b : VK} (k : a σ H) : Ends.nx ⟨a, b, c, d⟩ σ H := k
theorem p_bk {a c d : L2.St → Hp → Prop} {b : VK} (k : c σ H) : Ends.bk ⟨a, b, c, d⟩ σ H := k
theorem p_ct {a c d : L2.St → Hp → Prop} {b : VK} (k : d σ H) : Ends.ct ⟨a, b, c, d⟩ σ H := k
theorem p_rt {a c d : L2.St → Hp → Prop} {b : VK} (k : b v H) : Ends.rt ⟨a, b, c, d⟩ v H := k
/- operators -/
theorem g_I0 {g : Int → Int → V} {m n : Int} (k : Q (g m n) H) : rI0 g (.int m) (.int n) H Q := ⟨m, n, rfl, rfl, k⟩
theorem g_I {C : Int → Int → Prop} {g : Int → Int → V} {m n : Int} (c : C m n) (k : Q (g m n) H) : rI C g (.int m) (.int n) H Q := ⟨m, n, rfl, rfl, c, k⟩
theorem g_neg {m : Int} (k : Q (.int (-m)) H) : rU (fun i => .int (-i)) (.int m) H Q := ⟨m, rfl, k⟩
theorem g_addI {m n : Int} (k : Q (.int (m + n)) H) : uAdd K (.int m) (.int n) H Q := .inl ⟨m, n, rfl, rfl, k⟩
theorem g_addS {m n : Str} (c : m.length + n.length ≤ sizeLine) (k : Q (.str (m ++ n)) H) : uAdd K (.str m) (.str n) H Q := .inr (.inl ⟨m, n, rfl, rfl, c, k⟩)
theorem g_addL {a b : Addr} {xs ys : List V} (ha : H a = some (.lst xs)) (hb : H b = some (.lst ys)) (c : xs.length + ys.length ≤ sizeLine) (k : ∀ p, H p = none → Q (.ref p) (upd H p (.lst (xs ++ ys)))) : uAdd K (.ref a) (.ref b) H Q := .inr (.inr (.inl ⟨a, b, xs, ys, rfl, rfl, ha, hb, c, k⟩))
theorem g_mul {m n : Int} (c : CMul m n ∨ CMulW m n) (k : Q (.int (m * n)) H) : uMul (.int m) (.int n) H Q := ⟨m, n, rfl, rfl, c, k⟩
theorem g_div {m n : Int} (c : CDiv m n ∨ CDivW m n) (k : Q (.int (m / n)) H) : uDiv (.int m) (.int n) H Q := ⟨m, n, rfl, rfl, c, k⟩
theorem dec_I {m n : Int} : decide (V.int m = V.int n) = decide (m = n) := by
  by_cases h : m = n
  · subst h; simp
  · rw [decide_eq_false h, decide_eq_false (fun q => h (V.int.inj q))]
theorem dec_S {m n : Str} : decide (V.str m = V.str n) = decide (m = n) := by
  by_cases h : m = n
  · subst h; simp
  · rw [decide_eq_false h, decide_eq_false (fun q => h (V.str.inj q))]
theorem g_eqI {m n : Int} (k : Q (.bl (decide (m = n))) H) : uEq K (.int m) (.int n) H Q := .inl ⟨rfl, by rw [dec_I]; exact k⟩
theorem g_neI {m n : Int} (k : Q (.bl (!decide (m = n))) H) : uNe K (.int m) (.int n) H Q := .inl ⟨rfl, by rw [dec_I]; exact k⟩
theorem g_eqS {m n : Str} (k : Q (.bl (decide (m = n))) H) : uEq K (.str m) (.str n) H Q := .inl ⟨rfl, by rw [dec_S]; exact k⟩
theorem g_neS {m n : Str} (k : Q (.bl (!decide (m = n))) H) : uNe K (.str m) (.str n) H Q := .inl ⟨rfl, by rw [dec_S]; exact k⟩
theorem g_isN (k : Q (.bl (decide (x = .non))) H) : (fun (x y : V) (H : Hp) (Q : VK) => y = .non ∧ Q (.bl (decide (x = .non))) H) x .non H Q := ⟨rfl, k⟩
theorem g_ixL {p : Addr} {xs : List V} {n : Int} (h : SqL K H p xs) (a : atI xs n = some v) (k : Q v H) : rIx K (.ref p) (.int n) H Q := .inl ⟨p, xs, n, v, rfl, rfl, h, a, k⟩
theorem g_ixT {p : Addr} {xs : List V} {n : Int} (h : SqT K H p xs) (a : atI xs n = some v) (k : Q v H) : rIx K (.ref p) (.int n) H Q := .inr (.inl ⟨p, xs, n, v, rfl, rfl, h, a, k⟩)
theorem g_ixS {w : Str} {n : Int} {c : Nat} (h : w.length ≤ sizeLine) (a : atI w.cps.toList n = some c) (k : Q (.str ⟨#[c]⟩) H) : rIx K (.str w) (.int n) H Q := .inr (.inr ⟨w, n, c, rfl, rfl, h, a, k⟩)
theorem g_ixLg {p : Addr} {xs : List V} {n : Int} (h : SqL K H p xs) (a : atI xs n = some v) (k : Q v H) : rIxL K (.ref p) (.int n) H Q := ⟨p, xs, n, v, rfl, rfl, h, a, k⟩
theorem g_setL {p : Addr} {xs ys : List V} {n : Int} {j : Nat} {Q : Hp → Prop} (h : H p = some (.lst xs)) (a : ixN xs.length n = some j) (e : xs.set j v = ys) (k : Q (upd H p (.lst ys))) : rSetL (.ref p) (.int n) v H Q := ⟨p, xs, n, j, rfl, rfl, h, a, by rw [e]; exact k⟩
theorem g_slS {w : Str} {lo hi : Option Int} (h : w.length ≤ sizeLine) (k : Q (.str (cutS w lo hi)) H) : uSl K (.str w) lo hi H Q := .inr (.inr ⟨w, rfl, h, k⟩)
theorem g_slL {p : Addr} {xs : List V} {lo hi : Option Int} (h : SqL K H p xs) (k : ∀ q, H q = none → Q (.ref q) (upd H q (.lst (cutV xs lo hi)))) : uSl K (.ref p) lo hi H Q := .inl ⟨p, xs, rfl, h, k⟩
theorem g_lenL {p : Addr} {xs : List V} (h : SqL K H p xs) (k : Q (.int xs.length) H) : uLen K [.ref p] H Q := ⟨.ref p, xs.length, rfl, .inl ⟨xs, h, rfl⟩, k⟩
theorem g_lenT {p : Addr} {xs : List V} (h : SqT K H p xs) (k : Q (.int xs.length) H) : uLen K [.ref p] H Q := ⟨.ref p, xs.length, rfl, .inr ⟨xs, h, rfl⟩, k⟩
theorem g_lenS {w : Str} (h : w.length ≤ sizeLine) (k : Q (.int w.length) H) : uLen K [.str w] H Q := ⟨.str w, w.length, rfl, ⟨h, rfl⟩, k⟩
theorem g_uInt {m : Int} (k : Q (.int m) H) : uInt [.int m] H Q := .inl (.inl ⟨m, rfl, k⟩)
theorem g_uIntS {a : Str} {n : Int} (h : PySem.intText? a = some n) (c : a.length ≤ 640) (k : Q (.int n) H) : uInt [.str a] H Q := .inr ⟨a, n, rfl, h, c, k⟩
/- branches -/
theorem br {c A B : Prop} [Decidable c] (h1 : c → A) (h2 : ¬ c → B) : if decide c = true then A else B := by
  by_cases h : c
  · rw [if_pos (decide_eq_true h)]; exact h1 h
  · rw [if_neg (by simp [h])]; exact h2 h
theorem brn {c A B : Prop} [Decidable c] (h1 : ¬ c → A) (h2 : c → B) : if (!decide c) = true then A else B := by
  by_cases h : c
  · rw [if_neg (by simp [h])]; exact h2 h
  · rw [if_pos (by simp [h])]; exact h1 h
theorem brB {b : Bool} {A B : Prop} (h1 : b = true → A) (h2 : b = false → B) : if b = true then A else B := by
  cases b
  · rw [if_neg (by simp)]; exact h2 rfl
  · rw [if_pos rfl]; exact h1 rfl
theorem brT {b : Bool} {A B : Prop} (h : b = true) (k : A) : if b = true then A else B := by rw [if_pos h]; exact k
theorem brF {b : Bool} {A B : Prop} (h : b = false) (k : B) : if b = true then A else B := by rw [if_neg (by simp [h])]; exact k
/- a new object; a changed one -/
def Off (a : Addr) (H H' : Hp) : Prop := ∀ b o, b ≠ a → H b = some o → H' b = some o
theorem n_new {o : HO} (c : ∀ p H', H p = none → Same H H' → H' p = some o → Q (.ref p) H') : ∀ p, H p = none → Q (.ref p) (upd H p o) := fun p hp => c p _ hp (fun b u e => by rw [upd_ne (ne_of_none e hp)]; exact e) upd_same
theorem n_size {xs : List V} {A : Prop} (c : xs.length ≤ sizeLine) (k : A) : xs.length ≤ sizeLine ∧ A := ⟨c, k⟩
end
end Eg

set_option Elab.async false
set_option linter.all false
set_option maxRecDepth 100000
set_option maxHeartbeats 4000000
namespace Eg
open PySem PySem.Spec PyProof.Rows L2 Rl SX

/-! loops -/
def gFor (J : It) (g : TG) (tb : TS) (D : Ends) (σ : L2.St) (H : Hp) : Prop := ∃ W : Nat → Nat → L2.St → Hp → Prop, (∃ m, W 0 m σ H) ∧ ∀ i m σ H, W i m σ H →
  (J.stop i H ∧ D.nx σ H) ∨ (J.go i H ∧ ∃ N : L2.St → Hp → Prop, (∀ σ' H', N σ' H' → ∃ m', m' < m ∧ W (i + 1) m' σ' H') ∧ ∀ x H', J.yld i H x H' → g x σ H' fun σ2 H2 => tb { D with nx := N, ct := N, bk := D.nx } σ2 H2)
def gLc (J : It) (g : TG) (tt : TT) (te : TE) (vs : List Nat) (σ : L2.St) (H1 : Hp) (Q : VK) : Prop := ∀ D, H1 D = none → ∃ W : Nat → Nat → Hp → Prop, (∃ m, W 0 m (upd H1 D (.lst []))) ∧ ∀ i m H, W i m H →
  (J.stop i H ∧ Q (.ref D) H) ∨ (J.go i H ∧ ∃ Nx : Hp → Prop, (∀ H', Nx H' → ∃ m', m' < m ∧ W (i + 1) m' H') ∧ ∀ x H', J.yld i H x H' → g x (wipe σ vs) H' fun σ2 H2 => wipe σ2 vs = wipe σ vs ∧ tt σ2 H2 fun b H3 =>
    if b = true then te σ2 H3 fun y H4 => ∃ acc, H4 D = some (.lst acc) ∧ acc.length < sizeLine ∧ Nx (upd H4 D (.lst (acc ++ [y]))) else Nx H3)
section
variable {K : PySem.W.Frag} {σ : L2.St} {H : Hp} {ta tb te tl th : TE} {t u tt : TT} {x y z v : V} {D : Ends} {tu tw tz : TS} {tr : TA} {Q : VK} {E : XK} {r : R2} {i j n : Nat} {g : TG} {wi : TI} {J : It} {vs : List Nat} {R : It → Hp → Prop}
theorem i_for {a b c : L2.St → Hp → Prop} {d : VK} (k : wi σ H fun J H1 => gFor J g tu ⟨a, d, b, c⟩ σ H1) : tFor wi g tu ⟨a, d, b, c⟩ σ H := k
theorem i_lc (k : wi σ H fun J H1 => gLc J g tt te vs σ H1 Q) : tLc wi g tt te vs σ H Q := k
def gIterL (K : PySem.W.Frag) (x : V) (H : Hp) (R : It → Hp → Prop) : Prop := ∃ a, x = .ref a ∧ (∃ xs, SqL K H a xs) ∧ R (Itl K a) H
def gIterT (K : PySem.W.Frag) (x : V) (H : Hp) (R : It → Hp → Prop) : Prop := ∃ a, x = .ref a ∧ (∃ xs, SqT K H a xs) ∧ R (Itt K a) H
def gRng1 (vs : List V) (H : Hp) (R : It → Hp → Prop) : Prop := ∃ j : Int, vs = [.int j] ∧ -(2 ^ 62) ≤ j ∧ j < 2 ^ 62 ∧ R (Itr 0 j.toNat) H
def gRng2 (vs : List V) (H : Hp) (R : It → Hp → Prop) : Prop := ∃ i j : Int, vs = [.int i, .int j] ∧ (-(2 ^ 62) ≤ i ∧ i < 2 ^ 62 ∧ -(2 ^ 62) ≤ j ∧ j < 2 ^ 62) ∧ R (Itr i (j - i).toNat) H
def gEnum (K : PySem.W.Frag) (vs : List V) (H : Hp) (R : It → Hp → Prop) : Prop := ∃ a xs, vs = [.ref a] ∧ SqL K H a xs ∧ R (Ite K a) H
def gEnumS (vs : List V) (H : Hp) (R : It → Hp → Prop) : Prop := ∃ x, vs = [.str x] ∧ R (ItS x) H
def gIterS (x : V) (H : Hp) (R : It → Hp → Prop) : Prop := ∃ z, x = .str z ∧ R (Its z) H
theorem i_iL (k : te σ H fun x H1 => gIterL K x H1 R) : iList K te σ H R := k
theorem i_iT (k : te σ H fun x H1 => gIterT K x H1 R) : iTup K te σ H R := k
theorem i_r1 (k : tr σ H fun vs H1 => gRng1 vs H1 R) : iRng1 tr σ H R := k
theorem i_r2 (k : tr σ H fun vs H1 => gRng2 vs H1 R) : iRng2 tr σ H R := k
theorem i_en (k : tr σ H fun vs H1 => gEnum K vs H1 R) : iEnum K tr σ H R := k
theorem i_eS (k : tr σ H fun vs H1 => gEnumS vs H1 R) : iEnumS tr σ H R := k
theorem i_iS (k : te σ H fun x H1 => gIterS x H1 R) : iStr te σ H R := k
theorem g_iL {a : Addr} {xs : List V} (h : SqL K H a xs) (k : R (Itl K a) H) : gIterL K (.ref a) H R := ⟨a, rfl, ⟨xs, h⟩, k⟩
theorem g_iT {a : Addr} {xs : List V} (h : SqT K H a xs) (k : R (Itt K a) H) : gIterT K (.ref a) H R := ⟨a, rfl, ⟨xs, h⟩, k⟩
theorem g_r1 {m : Int} (c : -(2 ^ 62) ≤ m ∧ m < 2 ^ 62) (k : R (Itr 0 m.toNat) H) : gRng1 [.int m] H R := ⟨m, rfl, c.1, c.2, k⟩
theorem g_r2 {m l : Int} (c : -(2 ^ 62) ≤ l ∧ l < 2 ^ 62 ∧ -(2 ^ 62) ≤ m ∧ m < 2 ^ 62) (k : R (Itr l (m - l).toNat) H) : gRng2 [.int l, .int m] H R := ⟨l, m, rfl, c, k⟩
theorem g_en {a : Addr} {xs : List V} (h : SqL K H a xs) (k : R (Ite K a) H) : gEnum K [.ref a] H R := ⟨a, xs, rfl, h, k⟩
theorem g_eS {w : Str} (k : R (ItS w) H) : gEnumS [.str w] H R := ⟨w, rfl, k⟩
theorem g_iS {w : Str} (k : R (Its w) H) : gIterS (.str w) H R := ⟨w, rfl, k⟩
theorem walk_enumS {w : Str} : Walk (ItS w) w.cps.size (fun _ => True) (YPair (fun i => some (.int (i : Nat))) (fun i => (w.cps[i]?).map fun c => .str ⟨#[c]⟩)) :=
  ⟨fun _ _ hi _ => hi, fun _ _ => Nat.le_refl _, fun i H v H' _ _ y => by
    obtain ⟨T, c, h1, h2, h3, h4⟩ := y
    exact ⟨T, .int (i : Nat), .str ⟨#[c]⟩, h1, h2, h3, rfl, by show Option.map _ (w.cps[i]?) = _; rw [h4]; rfl⟩⟩
/-- a for over anything that walks -/
theorem f_it {G : Hp → Prop} {Y : Nat → Hp → V → Hp → Prop} {a b c : L2.St → Hp → Prop} {d : VK} (w : Walk J n G Y) (Pv : Nat → L2.St → Hp → Prop) (h0 : Pv 0 σ H) (hG : ∀ i σ H, i ≤ n → Pv i σ H → G H)
    (hs : ∀ i x σ H H', i < n → Pv i σ H → Y i H x H' → g x σ H' fun σ2 H2 => tu ⟨Pv (i + 1), d, a, Pv (i + 1)⟩ σ2 H2) (hd : ∀ σ H, Pv n σ H → a σ H) : gFor J g tu ⟨a, d, b, c⟩ σ H := for_it w Pv h0 hG hs hd
/-- a for over range -/
theorem f_rng {lo : Int} {a b c : L2.St → Hp → Prop} {d : VK} (Pv : Nat → L2.St → Hp → Prop) (h0 : Pv 0 σ H)
    (hs : ∀ i σ H, i < n → Pv i σ H → g (.int (lo + i)) σ H fun σ2 H2 => tu ⟨Pv (i + 1), d, a, Pv (i + 1)⟩ σ2 H2) (hd : ∀ σ H, Pv n σ H → a σ H) : gFor (Itr lo n) g tu ⟨a, d, b, c⟩ σ H :=
  f_it walk_range Pv h0 (fun _ _ _ _ _ => trivial) (fun i x σ H H' hi p y => by obtain ⟨e, e2⟩ := y; subst e e2; exact hs i σ _ hi p) hd
/-- a for over a list that stands still -/
theorem f_lst {l : Addr} {xs : List V} {a b c : L2.St → Hp → Prop} {d : VK} (Pv : Nat → L2.St → Hp → Prop) (h0 : Pv 0 σ H) (hl : ∀ i σ H, i ≤ xs.length → Pv i σ H → SqL K H l xs)
    (hs : ∀ i x σ H, xs[i]? = some x → Pv i σ H → g x σ H fun σ2 H2 => tu ⟨Pv (i + 1), d, a, Pv (i + 1)⟩ σ2 H2) (hd : ∀ σ H, Pv xs.length σ H → a σ H) : gFor (Itl K l) g tu ⟨a, d, b, c⟩ σ H :=
  f_it walk_list Pv h0 hl (fun i x σ H H' hi p y => by obtain ⟨e, e2⟩ := y; subst e; exact hs i x σ _ e2 p) hd
theorem f_tup {l : Addr} {xs : List V} {a b c : L2.St → Hp → Prop} {d : VK} (Pv : Nat → L2.St → Hp → Prop) (h0 : Pv 0 σ H) (hl : ∀ i σ H, i ≤ xs.length → Pv i σ H → SqT K H l xs)
    (hs : ∀ i x σ H, xs[i]? = some x → Pv i σ H → g x σ H fun σ2 H2 => tu ⟨Pv (i + 1), d, a, Pv (i + 1)⟩ σ2 H2) (hd : ∀ σ H, Pv xs.length σ H → a σ H) : gFor (Itt K l) g tu ⟨a, d, b, c⟩ σ H :=
  f_it walk_tup Pv h0 hl (fun i x σ H H' hi p y => by obtain ⟨e, e2⟩ := y; subst e; exact hs i x σ _ e2 p) hd
theorem f_str {w : Str} {a b c : L2.St → Hp → Prop} {d : VK} (Pv : Nat → L2.St → Hp → Prop) (h0 : Pv 0 σ H)
    (hs : ∀ i c σ H, w.cps.toList[i]? = some c → Pv i σ H → g (.str (S [c])) σ H fun σ2 H2 => tu ⟨Pv (i + 1), d, a, Pv (i + 1)⟩ σ2 H2) (hd : ∀ σ H, Pv w.cps.toList.length σ H → a σ H) : gFor (Its w) g tu ⟨a, d, b, c⟩ σ H :=
  f_it walk_str Pv h0 (fun _ _ _ _ _ => trivial) (fun i x σ H H' hi p y => by obtain ⟨e, c, e2, e3⟩ := y; subst e e3; exact hs i c σ _ (by simpa using e2) p) hd
theorem f_enumS {w : Str} {a b c : L2.St → Hp → Prop} {d : VK} (Pv : Nat → L2.St → Hp → Prop) (h0 : Pv 0 σ H)
    (hs : ∀ i c σ H T H', w.cps.toList[i]? = some c → Pv i σ H → H T = none → Same H H' → H' T = some (.tup [.int (i : Nat), .str (S [c])]) → g (.ref T) σ H' fun σ2 H2 => tu ⟨Pv (i + 1), d, a, Pv (i + 1)⟩ σ2 H2) (hd : ∀ σ H, Pv w.cps.toList.length σ H → a σ H) : gFor (ItS w) g tu ⟨a, d, b, c⟩ σ H :=
  f_it walk_enumS Pv h0 (fun _ _ _ _ _ => trivial) (fun i x σ H H' hi p y => by
    obtain ⟨T, x1, y1, e1, e2, e3, e4, e5⟩ := y
    subst e1 e3
    cases e4
    replace e5 : Option.map _ (w.cps[i]?) = _ := e5
    cases ec : w.cps[i]? with
    | none => rw [ec] at e5; cases e5
    | some c =>
      rw [ec] at e5
      cases e5
      exact hs i c σ H T _ (by simpa using ec) p e2 (fun b u e => by rw [upd_ne (ne_of_none e e2)]; exact e) upd_same) hd
theorem f_enum {l : Addr} {xs : List V} {a b c : L2.St → Hp → Prop} {d : VK} (Pv : Nat → L2.St → Hp → Prop) (h0 : Pv 0 σ H) (hl : ∀ i σ H, i ≤ xs.length → Pv i σ H → SqL K H l xs)
    (hs : ∀ i x σ H T H', xs[i]? = some x → Pv i σ H → H T = none → Same H H' → H' T = some (.tup [.int (i : Nat), x]) → g (.ref T) σ H' fun σ2 H2 => tu ⟨Pv (i + 1), d, a, Pv (i + 1)⟩ σ2 H2) (hd : ∀ σ H, Pv xs.length σ H → a σ H) : gFor (Ite K l) g tu ⟨a, d, b, c⟩ σ H :=
  f_it walk_enum Pv h0 hl (fun i x σ H H' hi p y => by
    obtain ⟨T, x1, y1, e1, e2, e3, e4, e5⟩ := y
    subst e1 e3
    cases e4
    exact hs i y1 σ H T _ e5 p e2 (fun b u e => by rw [upd_ne (ne_of_none e e2)]; exact e) upd_same) hd
/-- a comprehension over anything that walks; Pv: the new list's address, the turn, what it holds -/
def gItem (Pv : Addr → Nat → List V → Hp → Prop) (D : Addr) (i : Nat) (y : V) (H4 : Hp) : Prop := ∃ acc, H4 D = some (.lst acc) ∧ acc.length < sizeLine ∧ (∃ acc', (upd H4 D (.lst (acc ++ [y]))) D = some (.lst acc') ∧ acc'.length = i + 1 ∧ Pv D (i + 1) acc' (upd H4 D (.lst (acc ++ [y]))))
theorem g_item {Pv : Addr → Nat → List V → Hp → Prop} {D : Addr} {i : Nat} {acc : List V} (h : H D = some (.lst acc)) (l : acc.length = i) (c : i < sizeLine) (k : Pv D (i + 1) (acc ++ [y]) (upd H D (.lst (acc ++ [y])))) : gItem Pv D i y H :=
  ⟨acc, h, by omega, acc ++ [y], upd_same, by simp [l], k⟩
theorem l_it {G : Hp → Prop} {Y : Nat → Hp → V → Hp → Prop} (w : Walk J n G Y) (Pv : Addr → Nat → List V → Hp → Prop) (h0 : ∀ D, H D = none → Pv D 0 [] (upd H D (.lst []))) (hG : ∀ D i acc H', H D = none → i ≤ n → H' D = some (.lst acc) → Pv D i acc H' → G H')
    (hs : ∀ D i x acc H1 H', H D = none → i < n → H1 D = some (.lst acc) → acc.length = i → Pv D i acc H1 → Y i H1 x H' → g x (wipe σ vs) H' fun σ2 H2 => wipe σ2 vs = wipe σ vs ∧ te σ2 H2 (gItem Pv D i))
    (hd : ∀ D acc H', H D = none → H' D = some (.lst acc) → acc.length = n → Pv D n acc H' → Q (.ref D) H') : gLc J g tYes te vs σ H Q := fun D hD =>
  lc_it w (fun i H' => ∃ acc, H' D = some (.lst acc) ∧ acc.length = i ∧ Pv D i acc H') ⟨[], upd_same, rfl, h0 D hD⟩ (fun i H' hi ⟨acc, e, _, p⟩ => hG D i acc H' hD hi e p)
    (fun i x H1 H' hi ⟨acc, e, l, p⟩ y => hs D i x acc H1 H' hD hi e l p y) (fun H' ⟨acc, e, l, p⟩ => hd D acc H' hD e l p)
end
end Eg

set_option Elab.async false
set_option linter.all false
set_option maxRecDepth 100000
set_option maxHeartbeats 4000000
namespace Eg
open PySem PySem.Spec PyProof.Rows L2 Rl SX

theorem Same.put {H H' : Hp} {p : Addr} {o : HO} (e : Same H H') (h : H p = none) : Same H (upd H' p o) := fun b u q => by
  rw [upd_ne (ne_of_none q h)]
  exact e b u q
theorem off_refl (a : Addr) (H : Hp) : Off a H H := fun _ _ _ e => e
theorem Off.upd {a : Addr} {H H' : Hp} {o : HO} (e : Off a H H') : Off a H (upd H' a o) := fun b u hb q => by
  rw [upd_ne hb]
  exact e b u hb q
theorem Off.same {a : Addr} {H H1 H' : Hp} (e : Off a H H1) (s : Same H1 H') : Off a H H' := fun b u hb q => s b u (e b u hb q)
theorem Off.trans {a : Addr} {H H1 H' : Hp} (e : Off a H H1) (s : Off a H1 H') : Off a H H' := fun b u hb q => s b u hb (e b u hb q)
theorem Same.off {a : Addr} {H H1 H' : Hp} (s : Same H H1) (e : Off a H1 H') : Off a H H' := fun b u hb q => e b u hb (s b u q)
theorem off_of {a : Addr} {H H' : Hp} (s : Same H H') : Off a H H' := fun b u _ q => s b u q
/-- a change at what was not there is none -/
theorem Off.new {a : Addr} {H H' : Hp} (e : Off a H H') (h : H a = none) : Same H H' := fun b u q => e b u (ne_of_none q h) q

section
variable {X : Cx}
def uSplit : V → List V → Hp → VK → Prop := fun x xs H Q => ∃ a b, x = .str a ∧ xs = [.str b] ∧ (b.length == 0) = false ∧ a.length + 2 ≤ sizeLine ∧ rNewStrs (Txt.split a b) H Q
theorem mt_uSplit : MtR X "str.split" uSplit := mt_split
def uSplitM : V → List V → Hp → VK → Prop := fun x xs H Q => ∃ (a b : Str) (k : Int), x = .str a ∧ xs = [.str b, .int k] ∧ (b.length == 0) = false ∧ -(2 ^ 63) ≤ k ∧ k < 2 ^ 63 ∧ a.length + 2 ≤ sizeLine ∧ rNewStrs (Txt.splitMax a b k) H Q
theorem mt_uSplitM : MtR X "str.split" uSplitM := mt_splitMax
def uJoin (K : PySem.W.Frag) : V → List V → Hp → VK → Prop := fun x xs H Q => ∃ a p, ∃ ys : List Str, x = .str a ∧ xs = [.ref p] ∧ (SqL K H p (ys.map V.str) ∨ SqT K H p (ys.map V.str)) ∧ (ys.map (·.length)).sum + ys.length * a.length ≤ 16777216 ∧ Q (.str (Txt.join a ys)) H
theorem mt_uJoin : MtR X "str.join" (uJoin X.K) := mt_join
def uCount : V → List V → Hp → VK → Prop := fun x xs H Q => ∃ a b, x = .str a ∧ xs = [.str b] ∧ Q (.int (Txt.count a b)) H
theorem mt_uCount : MtR X "str.count" uCount := mt_count
def uOrd : List V → Hp → VK → Prop := fun xs H Q => ∃ x, xs = [.str x] ∧ x.length = 1 ∧ Q (.int (x.cps.getD 0 0 : Nat)) H
theorem call_uOrd : CallR X (.builtin "ord") uOrd := call_ord
def uAbs : List V → Hp → VK → Prop := fun xs H Q => ∃ i, xs = [.int i] ∧ Q (.int (if i < 0 then -i else i)) H
theorem call_uAbs : CallR X (.builtin "abs") uAbs := call_abs
def uMax2 : List V → Hp → VK → Prop := fun xs H Q => ∃ i j, xs = [.int i, .int j] ∧ Q (.int (if j > i then j else i)) H
theorem call_uMax2 (hc : X.calm = true) : CallR X (.builtin "max") uMax2 := call_max2 hc
def uMin2 : List V → Hp → VK → Prop := fun xs H Q => ∃ i j, xs = [.int i, .int j] ∧ Q (.int (if j < i then j else i)) H
theorem call_uMin2 (hc : X.calm = true) : CallR X (.builtin "min") uMin2 := call_min2 hc
def uStr : List V → Hp → VK → Prop := fun xs H Q => ∃ i : Int, xs = [.int i] ∧ i.natAbs.log2 < 1920 ∧ Q (.str (toString i)) H
theorem call_uStr : CallR X (.type "str") uStr := call_str_int
def uList (K : PySem.W.Frag) : List V → Hp → VK → Prop := fun xs H Q => ∃ p ys, xs = [.ref p] ∧ (SqL K H p ys ∨ SqT K H p ys) ∧ ∀ l, H l = none → Q (.ref l) (upd H l (.lst ys))
theorem call_uList : CallR X (.type "list") (uList X.K) := call_list_of
def uIsN : R2 := fun x y H Q => y = .non ∧ Q (.bl (decide (x = .non))) H
theorem op_uIsN : OpR X (compareOp .Is) uIsN := op_isN
def uNotN : R2 := fun x y H Q => y = .non ∧ Q (.bl (!decide (x = .non))) H
theorem op_uNotN : OpR X (compareOp .IsNot) uNotN := op_notN
end

section
variable {K : PySem.W.Frag} {w : World} {σ : L2.St} {H : Hp} {ta tb te tl th td ty tx : TE} {t u tt : TT} {x y z v : V} {D : Ends} {tu tw tz : TS} {tr : TA} {Q : VK} {E : XK} {r : R2} {i j n : Nat} {g : TG} {vs : List V}
/- methods of built-in types -/
def gBm (K : PySem.W.Frag) (T : String) (r : V → List V → Hp → VK → Prop) (t : TA) (x : V) (σ : L2.St) (H : Hp) (Q : VK) : Prop := tyV K T x H ∧ t σ H fun xs H2 => r x xs H2 Q
theorem i_bm {T : String} {r : V → List V → Hp → VK → Prop} (k : te σ H fun x H1 => gBm K T r tr x σ H1 Q) : tBM K T r te tr σ H Q := k
theorem i_bm0 {T : String} {r : V → List V → Hp → VK → Prop} (k : te σ H fun x H1 => gBm K T r tNil x σ H1 Q) : tBM0 K T r te σ H Q := k
theorem g_bmL {p : Addr} {xs : List V} {r : V → List V → Hp → VK → Prop} (h : SqL K H p xs) (k : tr σ H fun xs H2 => r (.ref p) xs H2 Q) : gBm K "list" r tr (.ref p) σ H Q := ⟨.inl ⟨rfl, xs, h⟩, k⟩
theorem g_bmS {w : Str} {r : V → List V → Hp → VK → Prop} (k : tr σ H fun xs H2 => r (.str w) xs H2 Q) : gBm K "str" r tr (.str w) σ H Q := ⟨rfl, k⟩
theorem g_app {l : Addr} {xs : List V} (h : H l = some (.lst xs)) (c : xs.length < sizeLine) (k : Q .non (upd H l (.lst (xs ++ [y])))) : rAppend (.ref l) [y] H Q := ⟨l, xs, y, rfl, rfl, h, c, k⟩
theorem g_split {a b : Str} (c : (b.length == 0) = false) (d : a.length + 2 ≤ sizeLine) (k : ∀ p H', H p = none → Same H H' → H' p = some (.lst ((Txt.split a b).map V.str)) → Q (.ref p) H') : uSplit (.str a) [.str b] H Q :=
  ⟨a, b, rfl, rfl, c, d, n_new k⟩
theorem g_splitM {a b : Str} {m : Int} (c : (b.length == 0) = false) (e : -(2 ^ 63) ≤ m ∧ m < 2 ^ 63) (d : a.length + 2 ≤ sizeLine) (k : ∀ p H', H p = none → Same H H' → H' p = some (.lst ((Txt.splitMax a b m).map V.str)) → Q (.ref p) H') : uSplitM (.str a) [.str b, .int m] H Q :=
  ⟨a, b, m, rfl, rfl, c, e.1, e.2, d, n_new k⟩
theorem g_join {a : Str} {p : Addr} {ys : List Str} (h : SqL K H p (ys.map V.str)) (c : (ys.map (·.length)).sum + ys.length * a.length ≤ 16777216) (k : Q (.str (Txt.join a ys)) H) : uJoin K (.str a) [.ref p] H Q := ⟨a, p, ys, rfl, rfl, .inl h, c, k⟩
theorem g_count {a b : Str} (k : Q (.int (Txt.count a b)) H) : uCount (.str a) [.str b] H Q := ⟨a, b, rfl, rfl, k⟩
/- built-ins -/
theorem g_ord {c : Nat} (k : Q (.int (c : Int)) H) : uOrd [.str (S [c])] H Q := ⟨S [c], rfl, rfl, k⟩
theorem g_abs {m : Int} (k : Q (.int (if m < 0 then -m else m)) H) : uAbs [.int m] H Q := ⟨m, rfl, k⟩
theorem g_max2 {m l : Int} (k : Q (.int (if l > m then l else m)) H) : uMax2 [.int m, .int l] H Q := ⟨m, l, rfl, k⟩
theorem g_min2 {m l : Int} (k : Q (.int (if l < m then l else m)) H) : uMin2 [.int m, .int l] H Q := ⟨m, l, rfl, k⟩
theorem log2_small {m : Int} (c : m.natAbs < 2 ^ 64) : m.natAbs.log2 < 1920 := Nat.lt_of_lt_of_le (PySem.Flt.log2_lt_of (by decide) c) (by decide)
theorem g_str {m : Nat} (c : m < 2 ^ 64) (k : Q (.str (S (TL.numL m))) H) : uStr [.int (m : Int)] H Q := ⟨(m : Int), rfl, log2_small (by simpa using c), by have e := num_S m; show Q (.str (Str.ofString (toString (m : Int)))) H; rw [e]; exact k⟩
theorem g_list {p : Addr} {xs : List V} (h : SqL K H p xs) (k : ∀ p H', H p = none → Same H H' → H' p = some (.lst xs) → Q (.ref p) H') : uList K [.ref p] H Q := ⟨p, xs, rfl, .inl h, n_new k⟩
theorem g_sum {p : Addr} {ns : List Int} (h : SqL K H p (ns.map V.int)) (k : Q (.int ns.sum) H) : rSum K [.ref p] H Q := ⟨p, ns, rfl, h, k⟩
theorem g_any {p : Addr} {bs : List Bool} (h : SqL K H p (bs.map V.bl)) (k : Q (.bl (bs.any id)) H) : rAny K [.ref p] H Q := ⟨p, bs, rfl, h, k⟩
theorem g_all {p : Addr} {bs : List Bool} (h : SqL K H p (bs.map V.bl)) (k : Q (.bl (bs.all id)) H) : rAll K [.ref p] H Q := ⟨p, bs, rfl, h, k⟩
theorem g_isi {T tn : String} {b : Bool} (h : TyX K H x (.type tn)) (e : kitB tn T = some b) (k : Q (.bl b) H) : rIsi K [x, .ty T] H Q := ⟨x, .ty T, .type tn, .type T, b, rfl, .ty T, h, kit_ty e, k⟩
theorem g_isNN (k : Q (.bl true) H) : uIsN .non .non H Q := ⟨rfl, k⟩
theorem g_isNx (h : x ≠ .non) (k : Q (.bl false) H) : uIsN x .non H Q := ⟨rfl, by rw [decide_eq_false h]; exact k⟩
theorem g_noNN (k : Q (.bl false) H) : uNotN .non .non H Q := ⟨rfl, k⟩
theorem g_noNx (h : x ≠ .non) (k : Q (.bl true) H) : uNotN x .non H Q := ⟨rfl, by rw [decide_eq_false h]; exact k⟩
theorem g_kd {p : Addr} {z : Str} (h : KDct K w p z v) (k : Q v H) : rIxD K w (.ref p) (.str z) H Q := ⟨p, z, v, rfl, rfl, h, k⟩
/- dicts -/
def gDGet2 (ty tx : TE) (x : V) (σ : L2.St) (H : Hp) (Q : VK) : Prop := ∃ a, x = .ref a ∧ IsD H a ∧ ty σ H fun y H2 => tx σ H2 fun z H3 => ∃ o, DGet H3 a y o ∧ Q (o.getD z) H3
def gDG (a : Addr) (y z : V) (H : Hp) (Q : VK) : Prop := ∃ o, DGet H a y o ∧ Q (o.getD z) H
theorem i_dget2 (k : td σ H fun x H1 => gDGet2 ty tx x σ H1 Q) : tDGet2 td ty tx σ H Q := k
theorem g_dget2 {a : Addr} {kvs : List (Key × V)} (h : Rd H a (.dK kvs)) (k : ty σ H fun y H2 => tx σ H2 fun z H3 => gDG a y z H3 Q) : gDGet2 ty tx (.ref a) σ H Q := ⟨a, rfl, .inl ⟨kvs, h⟩, k⟩
theorem g_dg {a : Addr} {s : Str} {kvs : List (Key × V)} (h : Rd H a (.dK kvs)) (k : Q ((valV kvs (.inr s)).getD z) H) : gDG a (.str s) z H Q := ⟨_, .inl ⟨kvs, .inr s, h, rfl, rfl⟩, k⟩
def gDGet (a y : V) (H : Hp) (Q : VK) : Prop := ∃ p v, a = .ref p ∧ DGet H p y (some v) ∧ Q v H
theorem i_dget (k : td σ H fun x H1 => ty σ H1 fun y H2 => gDGet x y H2 Q) : tDGet td ty σ H Q := k
theorem g_dget {a : Addr} {s : Str} {kvs : List (Key × V)} (h : Rd H a (.dK kvs)) (e : valV kvs (.inr s) = some v) (k : Q v H) : gDGet (.ref a) (.str s) H Q := ⟨a, v, rfl, .inl ⟨kvs, .inr s, h, rfl, e.symm⟩, k⟩
def gDPut (a y v : V) (H : Hp) (Q : Hp → Prop) : Prop := ∃ p H', a = .ref p ∧ DPut H p y v H' ∧ Q H'
theorem i_dput {a b c : L2.St → Hp → Prop} {d : VK} (k : tx σ H fun v H1 => td σ H1 fun x H2 => ty σ H2 fun y H3 => gDPut x y v H3 (a σ)) : sDPut td ty tx ⟨a, d, b, c⟩ σ H := k
theorem g_dput {a : Addr} {s : Str} {kvs : List (Key × V)} {Q : Hp → Prop} (h : H a = some (.dK kvs)) (c : kvs.length < sizeLine) (k : Q (upd H a (.dK (putK kvs (.inr s) v)))) : gDPut (.ref a) (.str s) v H Q := ⟨a, _, rfl, .inl ⟨kvs, .inr s, h, rfl, c, rfl⟩, k⟩
theorem i_dnew (k : ∀ p H', H p = none → Same H H' → H' p = some (.dK []) → Q (.ref p) H') : tDNewK σ H Q := n_new k
/- a new tuple, a new list -/
def gNewT (xs : List V) (H : Hp) (Q : VK) : Prop := xs.length ≤ sizeLine ∧ ∀ p, H p = none → Q (.ref p) (upd H p (.tup xs))
def gNewL (xs : List V) (H : Hp) (Q : VK) : Prop := xs.length ≤ sizeLine ∧ ∀ p, H p = none → Q (.ref p) (upd H p (.lst xs))
theorem i_tupN (k : tr σ H fun xs H1 => gNewT xs H1 Q) : tTup tr σ H Q := k
theorem i_lstN (k : tr σ H fun xs H1 => gNewL xs H1 Q) : tLst tr σ H Q := k
theorem g_newT {xs : List V} (c : xs.length ≤ sizeLine) (k : ∀ p H', H p = none → Same H H' → H' p = some (.tup xs) → Q (.ref p) H') : gNewT xs H Q := ⟨c, n_new k⟩
theorem g_newL {xs : List V} (c : xs.length ≤ sizeLine) (k : ∀ p H', H p = none → Same H H' → H' p = some (.lst xs) → Q (.ref p) H') : gNewL xs H Q := ⟨c, n_new k⟩
theorem g_slL' {p : Addr} {xs : List V} {lo hi : Option Int} (h : SqL K H p xs) (k : ∀ q H', H q = none → Same H H' → H' q = some (.lst (cutV xs lo hi)) → Q (.ref q) H') : uSl K (.ref p) lo hi H Q := g_slL h (n_new k)
theorem g_addL' {a b : Addr} {xs ys : List V} (ha : H a = some (.lst xs)) (hb : H b = some (.lst ys)) (c : xs.length + ys.length ≤ sizeLine) (k : ∀ p H', H p = none → Same H H' → H' p = some (.lst (xs ++ ys)) → Q (.ref p) H') : uAdd K (.ref a) (.ref b) H Q := g_addL ha hb c (n_new k)
theorem i_chain {r r' : R2} (k : ta σ H fun x H1 => tb σ H1 fun y H2 => r x y H2 fun z H3 => ∃ k, z = .bl k ∧ (if k = true then te σ H3 fun w' H4 => r' y w' H4 Q else Q (.bl false) H3)) : tChain r r' ta tb te σ H Q := k
/- two ways that meet again -/
theorem jnE {b : Bool} (R : V → Hp → Prop) (hR : ∀ x H', R x H' → Q x H') (h : ∀ Q' : VK, (∀ x H', R x H' → Q' x H') → if b = true then ta σ H Q' else tb σ H Q') : if b = true then ta σ H Q else tb σ H Q := h Q hR
theorem jnA {b : Bool} (R : V → Hp → Prop) (hR : ∀ x H', R x H' → Q x H') (h : ∀ Q' : VK, (∀ x H', R x H' → Q' x H') → if b = true then tb σ H Q' else Q' (.bl false) H) : if b = true then tb σ H Q else Q (.bl false) H := h Q hR
theorem jnO {b : Bool} (R : V → Hp → Prop) (hR : ∀ x H', R x H' → Q x H') (h : ∀ Q' : VK, (∀ x H', R x H' → Q' x H') → if b = true then Q' (.bl true) H else tb σ H Q') : if b = true then Q (.bl true) H else tb σ H Q := h Q hR
theorem jnS {b : Bool} {a c d : L2.St → Hp → Prop} {e : VK} (R : L2.St → Hp → Prop) (hR : ∀ σ' H', R σ' H' → a σ' H') (h : ∀ N : L2.St → Hp → Prop, (∀ σ' H', R σ' H' → N σ' H') → if b = true then tu ⟨N, e, c, d⟩ σ H else tw ⟨N, e, c, d⟩ σ H) : if b = true then tu ⟨a, e, c, d⟩ σ H else tw ⟨a, e, c, d⟩ σ H := h a hR
/-- and, or of two tests of which the second may be asked in any case -/
theorem and_j {c : Bool} {d : Bool} {Q : Bool → Hp → Prop} (h : c = true → ∀ Q' : Bool → Hp → Prop, (∀ H', Same H H' → Q' d H') → u σ H Q') (k : ∀ H', Same H H' → Q (c && d) H') : if c = true then u σ H Q else Q false H := by
  cases c
  · rw [if_neg (by simp)]; exact k H (Same.refl H)
  · rw [if_pos rfl]; exact h rfl Q k
theorem or_j {c : Bool} {d : Bool} {Q : Bool → Hp → Prop} (h : c = false → ∀ Q' : Bool → Hp → Prop, (∀ H', Same H H' → Q' d H') → u σ H Q') (k : ∀ H', Same H H' → Q (c || d) H') : if c = true then Q true H else u σ H Q := by
  cases c
  · rw [if_neg (by simp)]; exact h rfl Q k
  · rw [if_pos rfl]; exact k H (Same.refl H)
theorem g_pow {m n : Int} (c : 0 ≤ n ∧ n ≤ 1000000 ∧ m.natAbs < 2 ^ 64) (k : Q (.int (m ^ n.toNat)) H) : rI CPow (fun i j => .int (i ^ j.toNat)) (.int m) (.int n) H Q := ⟨m, n, rfl, rfl, c, k⟩
/- fields, tuples as targets -/
theorem i_sfld {f : Str} {a b c : L2.St → Hp → Prop} {d : VK} (k : te σ H fun y H1 => ta σ H1 fun x H2 => gSfld K f x y H2 (a σ)) : sFld K ta te f ⟨a, d, b, c⟩ σ H := k
theorem g_sfld {f : Str} {a C dx : Addr} {fs fs' : List (Str × V)} {Q : Hp → Prop} (h : H a = some (.ins C dx fs)) (c : Cls K C) (n : NoAttr K C f) (l : fs.length < 1000) (e : putF f y fs = fs') (k : Q (upd H a (.ins C dx fs'))) : gSfld K f (.ref a) y H Q := ⟨a, C, dx, fs, rfl, h, c, n, l, by rw [e]; exact k⟩
theorem i_gtup {p : Addr} {xs : List V} {tg : TGs} {Q : L2.St → Hp → Prop} (h : SqT K H p xs) (e : xs.length = n) (k : tg xs σ H Q) : gTup K n tg (.ref p) σ H Q := ⟨p, xs, rfl, h, e, k⟩
theorem i_gcons {tg : TG} {tgs : TGs} {Q : L2.St → Hp → Prop} (k : tg v σ H fun σ' H' => tgs vs σ' H' Q) : gCons tg tgs (v :: vs) σ H Q := ⟨v, vs, rfl, k⟩
theorem i_gnil {Q : L2.St → Hp → Prop} (k : Q σ H) : gNil [] σ H Q := ⟨rfl, k⟩
theorem i_par {a b c : L2.St → Hp → Prop} {d : VK} (k : tr σ H fun vs H1 => ∃ v w, vs = [v, w] ∧ a ((σ.set i (some v)).set j (some w)) H1) : tPar i j tr ⟨a, d, b, c⟩ σ H := k
theorem g_par {P : V → V → Prop} (k : P x y) : ∃ v w, [x, y] = [v, w] ∧ P v w := ⟨x, y, rfl, k⟩
/-- a field of an instance, its list of fields literal -/
theorem fld_hd {f : Str} {fs : List (Str × V)} : List.lookup f ((f, v) :: fs) = some v := by simp [List.lookup]
theorem fld_tl {f g : Str} {fs : List (Str × V)} {o : Option V} (h : (f == g) = false) (k : fs.lookup f = o) : List.lookup f ((g, y) :: fs) = o := by rw [List.lookup, h]; exact k
/-- a list made from a list that stands, item by item, nothing else touched -/
def PvP (H : Hp) (f : Nat → V) (D : Addr) (i : Nat) (acc : List V) (H' : Hp) : Prop := Same H H' ∧ acc = (List.range i).map f
theorem g_itemP {H1 H0 : Hp} {f : Nat → V} {D : Addr} (e : Same H0 H1) (h : H1 D = some (.lst ((List.range i).map f))) (hD : H0 D = none) (hi : i < sizeLine) (hy : y = f i) : gItem (PvP H0 f) D i y H1 :=
  g_item h (by simp) hi ⟨Eg.Same.put e hD, by rw [List.range_succ, List.map_append, hy]; rfl⟩
theorem l_lstP {l : Addr} {xs : List V} {vs : List Nat} (f : Nat → V) (hx : SqL K H l xs) (hw : ∀ x, wipe ((wipe σ vs).set j (some x)) vs = wipe σ vs)
    (hs : ∀ D i x H', xs[i]? = some x → H D = none → Same H H' → H' D = some (.lst ((List.range i).map f)) → te ((wipe σ vs).set j (some x)) H' (gItem (PvP H f) D i))
    (k : ∀ p H', H p = none → Same H H' → H' p = some (.lst ((List.range xs.length).map f)) → Q (.ref p) H') : gLc (Itl K l) (gName j) tYes te vs σ H Q :=
  l_it walk_list (PvP H f) (fun D hD => ⟨Eg.Same.put (Same.refl H) hD, rfl⟩) (fun D i acc H' hD _ _ p => p.1.seq hx)
    (fun D i x acc H1 H' hD hi e l p y => by obtain ⟨e1, e2⟩ := y; subst e1; obtain ⟨p1, p2⟩ := p; subst p2; exact ⟨hw x, hs D i x _ e2 hD p1 e⟩) (fun D acc H' hD e _ p => k D H' hD p.1 (by rw [e, p.2]))
theorem l_rngP {lo : Int} {vs : List Nat} (f : Nat → V) (hw : ∀ x, wipe ((wipe σ vs).set j (some x)) vs = wipe σ vs)
    (hs : ∀ D i H', i < n → H D = none → Same H H' → H' D = some (.lst ((List.range i).map f)) → te ((wipe σ vs).set j (some (.int (lo + i)))) H' (gItem (PvP H f) D i))
    (k : ∀ p H', H p = none → Same H H' → H' p = some (.lst ((List.range n).map f)) → Q (.ref p) H') : gLc (Itr lo n) (gName j) tYes te vs σ H Q :=
  l_it walk_range (PvP H f) (fun D hD => ⟨Eg.Same.put (Same.refl H) hD, rfl⟩) (fun D i acc H' hD _ _ p => trivial)
    (fun D i x acc H1 H' hD hi e l p y => by obtain ⟨e1, e2⟩ := y; subst e1 e2; obtain ⟨p1, p2⟩ := p; subst p2; exact ⟨hw _, hs D i _ hi hD p1 e⟩) (fun D acc H' hD e _ p => k D H' hD p.1 (by rw [e, p.2]))
theorem l_strP {z : Str} {vs : List Nat} (f : Nat → V) (hw : ∀ x, wipe ((wipe σ vs).set j (some x)) vs = wipe σ vs)
    (hs : ∀ D i c H', z.cps.toList[i]? = some c → H D = none → Same H H' → H' D = some (.lst ((List.range i).map f)) → te ((wipe σ vs).set j (some (.str (S [c])))) H' (gItem (PvP H f) D i))
    (k : ∀ p H', H p = none → Same H H' → H' p = some (.lst ((List.range z.cps.toList.length).map f)) → Q (.ref p) H') : gLc (Its z) (gName j) tYes te vs σ H Q :=
  l_it walk_str (PvP H f) (fun D hD => ⟨Eg.Same.put (Same.refl H) hD, rfl⟩) (fun D i acc H' hD _ _ p => trivial)
    (fun D i x acc H1 H' hD hi e l p y => by obtain ⟨e1, c, e2, e3⟩ := y; subst e1 e3; obtain ⟨p1, p2⟩ := p; subst p2; exact ⟨hw _, hs D i c _ (by simpa using e2) hD p1 e⟩) (fun D acc H' hD e _ p => k D H' hD p.1 (by rw [e, p.2]; simp))
theorem l_enumP {l : Addr} {xs : List V} {vs : List Nat} {j' : Nat} (f : Nat → V) (hx : SqL K H l xs) (hw : ∀ x y, wipe (((wipe σ vs).set j (some x)).set j' (some y)) vs = wipe σ vs)
    (hs : ∀ D i x H', xs[i]? = some x → H D = none → Same H H' → H' D = some (.lst ((List.range i).map f)) → te (((wipe σ vs).set j (some (.int (i : Nat)))).set j' (some x)) H' (gItem (PvP H f) D i))
    (k : ∀ p H', H p = none → Same H H' → H' p = some (.lst ((List.range xs.length).map f)) → Q (.ref p) H') : gLc (Ite K l) (gTup K 2 (gCons (gName j) (gCons (gName j') gNil))) tYes te vs σ H Q :=
  l_it walk_enum (PvP H f) (fun D hD => ⟨Eg.Same.put (Same.refl H) hD, rfl⟩) (fun D i acc H' hD _ _ p => p.1.seq hx)
    (fun D i x acc H1 H' hD hi e l p y => by
      obtain ⟨T, x1, y1, e1, e2, e3, e4, e5⟩ := y
      subst e1 e3
      cases e4
      obtain ⟨p1, p2⟩ := p
      subst p2
      have hT : Same H1 (upd H1 T (.tup [.int (i : Nat), y1])) := fun b u q => by rw [upd_ne (ne_of_none q e2)]; exact q
      exact ⟨T, _, rfl, .of upd_same, rfl, _, _, rfl, _, _, rfl, rfl, hw _ _, hs D i y1 _ e5 hD (p1.trans hT) (hT _ _ e)⟩) (fun D acc H' hD e _ p => k D H' hD p.1 (by rw [e, p.2]))
end
/-! the same rules, the written part named: within a comprehension -/
section
variable {X : Cx} {K : PySem.W.Frag} {a b e o : Expr} {es : List Expr} {ta tb te to : TE} {t : TA} {pos apos cpos : Pos} {f name : Str} {T id : String} {r : V → List V → Hp → VK → Prop}
theorem op_uAddK (h : X.K = K) : OpR X (binaryOp .Add) (uAdd K) := by subst h; exact op_uAdd
theorem op_uEqK (h : X.K = K) (hu : X.A.units + 64 < cLine) : OpR X (compareOp .Eq) (uEq K) := by subst h; exact op_uEq hu
theorem op_uNeK (h : X.K = K) (hu : X.A.units + 64 < cLine) : OpR X (compareOp .NotEq) (uNe K) := by subst h; exact op_uNe hu
theorem op_uInK (h : X.K = K) : OpR X (compareOp .In) (uIn K) := by subst h; exact op_uIn
theorem op_uNotInK (h : X.K = K) : OpR X (compareOp .NotIn) (uNotIn K) := by subst h; exact op_uNotIn
theorem call_uLenK (h : X.K = K) : CallR X (.builtin "len") (uLen K) := by subst h; exact call_uLen
theorem call_uListK (h : X.K = K) : CallR X (.type "list") (uList K) := by subst h; exact call_uList
theorem cr_sumK (h : X.K = K) (hc : X.calm = true) : CallR X (.builtin "sum") (rSum K) := by subst h; exact cr_sum hc
theorem sl_uK (h : X.K = K) : SlR X (uSl K) := by subst h; exact sl_u
theorem ix_seqK (h : X.K = K) : IxR X (rIx K) := by subst h; exact ix_seq
theorem pe_fldK (h : X.K = K) (he : PE X e ta) (hb : attributeBase e f X.env (eval e X.env) = eval e X.env) : PE X (.Attribute e f pos) (tFld K ta f) := by subst h; exact pe_fld he hb
theorem pe_bmK (h : X.K = K) (pa : PlainAttrs T) (slot : Slot T name id) (hty : typeOf (.builtin id) = pure (.type "method_descriptor")) (hm : MtR X id r) (ho : PE X o to) (ha : PA X (e :: es) t)
    (hst : starEach (e :: es) X.env = (false, eval e X.env) :: starEach es X.env := by rfl) : True := trivial
theorem pt_uK (h : X.K = K) (ha : PE X o ta) (he : ∀ whole, isTrue o X.env whole = (do let v ← whole; standAt o.pos; holding [v] (truthy v)) := by intro _; rfl) : PT X o (uTru K ta) := by subst h; exact pt_u ha he
end
/-- a written text, by its codes -/
theorem pe_s {X : Cx} {x : Str} {j : Nat} {pos : Pos} (l : List Nat) (e : x = S l) : PE X (.Constant (.str x) j pos) (tC (.str (S l))) := by
  subst e
  exact pe_str
theorem at_ofN {α : Type} {xs : List α} {z : Int} {j : Nat} {v : α} (e : z = (j : Int)) (h : xs[j]? = some v) : atI xs z = some v := by
  subst e
  exact atI_nat h
/-! the built-ins' names -/
theorem bt_len : bootBuiltins "len" = some (.builtin "len") := by decide +kernel
theorem bt_abs : bootBuiltins "abs" = some (.builtin "abs") := by decide +kernel
theorem bt_ord : bootBuiltins "ord" = some (.builtin "ord") := by decide +kernel
theorem bt_chr : bootBuiltins "chr" = some (.builtin "chr") := by decide +kernel
theorem bt_isinstance : bootBuiltins "isinstance" = some (.builtin "isinstance") := by decide +kernel
theorem bt_max : bootBuiltins "max" = some (.builtin "max") := by decide +kernel
theorem bt_min : bootBuiltins "min" = some (.builtin "min") := by decide +kernel
theorem bt_sum : bootBuiltins "sum" = some (.builtin "sum") := by decide +kernel
theorem bt_any : bootBuiltins "any" = some (.builtin "any") := by decide +kernel
theorem bt_all : bootBuiltins "all" = some (.builtin "all") := by decide +kernel
theorem bt_sorted : bootBuiltins "sorted" = some (.builtin "sorted") := by decide +kernel
theorem bt_int : bootBuiltins "int" = some (.type "int") := by decide +kernel
theorem bt_str : bootBuiltins "str" = some (.type "str") := by decide +kernel
theorem bt_list : bootBuiltins "list" = some (.type "list") := by decide +kernel
theorem bt_tuple : bootBuiltins "tuple" = some (.type "tuple") := by decide +kernel
theorem bt_bool : bootBuiltins "bool" = some (.type "bool") := by decide +kernel
theorem bt_dict : bootBuiltins "dict" = some (.type "dict") := by decide +kernel
/-! kinds -/
theorem kb_non (T : String) (h : (T == "bool" || T == "int" || T == "str" || T == "list" || T == "tuple") = true) : kitB "NoneType" T = some false := by
  simp only [Bool.or_eq_true, beq_iff_eq] at h
  rcases h with (((h | h) | h) | h) | h <;> subst h <;> decide +kernel
theorem kb_bool (T : String) (h : (T == "str" || T == "list" || T == "tuple") = true) : kitB "bool" T = some false := by
  simp only [Bool.or_eq_true, beq_iff_eq] at h
  rcases h with (h | h) | h <;> subst h <;> decide +kernel
theorem kb_int (T : String) (h : (T == "bool" || T == "str" || T == "list" || T == "tuple") = true) : kitB "int" T = some false := by
  simp only [Bool.or_eq_true, beq_iff_eq] at h
  rcases h with ((h | h) | h) | h <;> subst h <;> decide +kernel
theorem kb_str (T : String) (h : (T == "bool" || T == "int" || T == "list" || T == "tuple") = true) : kitB "str" T = some false := by
  simp only [Bool.or_eq_true, beq_iff_eq] at h
  rcases h with ((h | h) | h) | h <;> subst h <;> decide +kernel
theorem kb_list (T : String) (h : (T == "bool" || T == "int" || T == "str" || T == "tuple") = true) : kitB "list" T = some false := by
  simp only [Bool.or_eq_true, beq_iff_eq] at h
  rcases h with ((h | h) | h) | h <;> subst h <;> decide +kernel
theorem kb_tuple (T : String) (h : (T == "bool" || T == "int" || T == "str" || T == "list") = true) : kitB "tuple" T = some false := by
  simp only [Bool.or_eq_true, beq_iff_eq] at h
  rcases h with ((h | h) | h) | h <;> subst h <;> decide +kernel
theorem kb_bb : kitB "bool" "bool" = some true := by decide +kernel
theorem kb_ii : kitB "int" "int" = some true := by decide +kernel
theorem kb_ss : kitB "str" "str" = some true := by decide +kernel
theorem kb_ll : kitB "list" "list" = some true := by decide +kernel
theorem kb_tt : kitB "tuple" "tuple" = some true := by decide +kernel
end Eg

set_option Elab.async false
set_option linter.all false
set_option maxRecDepth 100000
set_option maxHeartbeats 4000000
/-! all stands but at these places -/
namespace Eg
open PySem PySem.Spec PyProof.Rows L2 Rl
def Nn (b : Addr) (l : List Addr) : Prop := ∀ a ∈ l, b ≠ a
theorem nn_nil {b : Addr} : Nn b [] := fun _ h => nomatch h
theorem nn_cons {a b : Addr} {l : List Addr} (h : b ≠ a) (k : Nn b l) : Nn b (a :: l) := fun c hc => by
  rcases List.mem_cons.mp hc with e | e
  · rw [e]; exact h
  · exact k c e
def Offs (l : List Addr) (H H' : Hp) : Prop := ∀ b u, Nn b l → H b = some u → H' b = some u
theorem Offs.refl (l : List Addr) (H : Hp) : Offs l H H := fun _ _ _ q => q
theorem Offs.same {l : List Addr} {H H1 H2 : Hp} (h : Offs l H H1) (e : Same H1 H2) : Offs l H H2 := fun b u n q => e b u (h b u n q)
theorem Same.offs {l : List Addr} {H H1 : Hp} (e : Same H H1) : Offs l H H1 := fun b u _ q => e b u q
theorem Offs.trans {l : List Addr} {H H1 H2 : Hp} (h : Offs l H H1) (k : Offs l H1 H2) : Offs l H H2 := fun b u n q => k b u n (h b u n q)
theorem Offs.put {l : List Addr} {H H1 : Hp} {a : Addr} {v : HO} (h : Offs l H H1) (m : a ∈ l) : Offs l H (upd H1 a v) := fun b u n q => by rw [upd_ne (n a m)]; exact h b u n q
theorem Offs.putN {l : List Addr} {H H1 : Hp} {a : Addr} {v : HO} (h : Offs l H H1) (m : H a = none) : Offs l H (upd H1 a v) := fun b u n q => by rw [upd_ne (ne_of_none q m)]; exact h b u n q
theorem Offs.off {l : List Addr} {H H1 H2 : Hp} {a : Addr} (h : Offs l H H1) (m : a ∈ l) (k : Off a H1 H2) : Offs l H H2 := fun b u n q => k b u (n a m) (h b u n q)
theorem Offs.offN {l : List Addr} {H H1 H2 : Hp} {a : Addr} (h : Offs l H H1) (m : H a = none) (k : Off a H1 H2) : Offs l H H2 := fun b u n q => k b u (ne_of_none q m) (h b u n q)
/-- the places changed later are known, or were free -/
theorem Offs.more {l l2 : List Addr} {H H1 H2 : Hp} (h : Offs l H H1) (k : Offs l2 H1 H2) (m : ∀ a ∈ l2, a ∈ l ∨ H a = none) : Offs l H H2 := fun b u n q => k b u (fun a ha => (m a ha).elim (n a) fun z => ne_of_none q z) (h b u n q)
theorem Offs.allN {l2 : List Addr} {H H1 H2 : Hp} (h : Same H H1) (k : Offs l2 H1 H2) (m : ∀ a ∈ l2, H a = none) : Same H H2 := fun b u q => k b u (fun a ha => ne_of_none q (m a ha)) (h b u q)
theorem Off.offs {a : Addr} {H H1 : Hp} (h : Off a H H1) : Offs [a] H H1 := fun b u n q => h b u (n a (by simp)) q
theorem Offs.wk {l l2 : List Addr} {H H1 : Hp} (h : Offs l H H1) (m : ∀ a ∈ l, a ∈ l2 ∨ H a = none) : Offs l2 H H1 := Offs.more (Offs.refl _ _) h m
theorem Offs.free {l : List Addr} {H H1 : Hp} {a : Addr} (h : H1 a = none) (k : Offs l H H1) (n : Nn a l) : H a = none := by
  cases e : H a with
  | none => rfl
  | some u => rw [k a u n e] at h; cases h
/-- in a list of places, or free: word by word -/
theorem mf_nil {P : Addr → Prop} : ∀ a ∈ ([] : List Addr), P a := fun _ h => nomatch h
theorem mf_cons {P : Addr → Prop} {b : Addr} {l : List Addr} (h : P b) (k : ∀ a ∈ l, P a) : ∀ a ∈ b :: l, P a := fun c hc => by
  rcases List.mem_cons.mp hc with e | e
  · rw [e]; exact h
  · exact k c e
theorem Offs.tup {l : List Addr} {K : PySem.W.Frag} {H H1 : Hp} {p : Addr} {xs : List V} (h : Offs l H H1) (n : Nn p l) (t : SqT K H p xs) : SqT K H1 p xs := by
  rcases t with (t | ⟨o, t⟩) | t
  · exact .inl (.inl (h _ _ n t))
  · exact .inl (.inr ⟨o, h _ _ n t⟩)
  · exact .inr t
theorem Same.tup {K : PySem.W.Frag} {H H1 : Hp} {p : Addr} {xs : List V} (h : Same H H1) (t : SqT K H p xs) : SqT K H1 p xs := by
  rcases t with (t | ⟨o, t⟩) | t
  · exact .inl (.inl (h _ _ t))
  · exact .inl (.inr ⟨o, h _ _ t⟩)
  · exact .inr t
theorem same_at {H H' : Hp} {b : Addr} {u : HO} (e : Same H H') (h : H b = some u) : H' b = some u := e b u h
theorem off_at {H H' : Hp} {a b : Addr} {u : HO} (e : Off a H H') (n : b ≠ a) (h : H b = some u) : H' b = some u := e b u n h
theorem offs_at {H H' : Hp} {l : List Addr} {b : Addr} {u : HO} (e : Offs l H H') (n : Nn b l) (h : H b = some u) : H' b = some u := e b u n h
theorem upd_none {H : Hp} {a b : Addr} {v : HO} (h : upd H a v b = none) : H b = none := by
  by_cases e : b = a
  · subst e; rw [upd_same] at h; cases h
  · rw [upd_ne e] at h; exact h
theorem off_free {H H1 : Hp} {a b : Addr} {u : HO} (o : Off a H H1) (ha : H1 a = some u) (h : H1 b = none) : H b = none := by
  cases e : H b with
  | none => rfl
  | some v =>
    by_cases n : b = a
    · subst n; rw [ha] at h; cases h
    · rw [o b v n e] at h; cases h
theorem pf_nil {f : Str} {v : V} : putF f v [] = [(f, v)] := rfl
theorem pf_hd {f : Str} {v x : V} {r : List (Str × V)} : putF f v ((f, x) :: r) = (f, v) :: r := by simp [putF]
theorem pf_tl {f g : Str} {v x : V} {r s : List (Str × V)} (h : decide (g = f) = false) (k : putF f v r = s) : putF f v ((g, x) :: r) = (g, x) :: s := by
  have h' := of_decide_eq_false h
  rw [putF, if_neg h', k]
end Eg

set_option Elab.async false
set_option linter.all false
set_option maxRecDepth 100000
set_option maxHeartbeats 4000000
/-! a dict, key by key, held still -/
namespace Eg
open PySem PySem.Spec PyProof.Rows L2 Rl
theorem i_lock {t : TS} {σ : L2.St} {H : Hp} {a b c : L2.St → Hp → Prop} {r : VK} {d : Addr} {u : HO} (h : H d = some u) (m : Mut (some u))
    (k : ∀ od, t ⟨fun σ' H' => H' d = some (.frz od u) ∧ a σ' (upd H' d u), fun v H' => H' d = some (.frz od u) ∧ r v (upd H' d u), fun σ' H' => H' d = some (.frz od u) ∧ b σ' (upd H' d u), fun σ' H' => H' d = some (.frz od u) ∧ c σ' (upd H' d u)⟩ σ (upd H d (.frz od u))) :
    tLock t ⟨a, r, b, c⟩ σ H := ⟨d, u, h, m, k⟩
def gKeys (x : V) (H : Hp) (R : It → Hp → Prop) : Prop := ∃ d o, x = .ref d ∧ ((∃ kvs, H d = some (.frz o (.dK kvs)) ∧ R (Itk d o kvs) H) ∨ ∃ kvs, H d = some (.frz o (.dT kvs)) ∧ R (Itkt d o kvs) H)
theorem i_keys {td : TE} {σ : L2.St} {H : Hp} {R : It → Hp → Prop} (k : td σ H fun x H1 => gKeys x H1 R) : iKeys td σ H R := k
theorem g_keys {H : Hp} {R : It → Hp → Prop} {d : Addr} {o : Obj} {kvs : List (Key × V)} (h : H d = some (.frz o (.dK kvs))) (k : R (Itk d o kvs) H) : gKeys (.ref d) H R := ⟨d, o, rfl, .inl ⟨kvs, h, k⟩⟩
theorem f_keys {g : TG} {tu : TS} {σ : L2.St} {H : Hp} {l : Addr} {o : Obj} {kvs : List (Key × V)} {a b c : L2.St → Hp → Prop} {d : VK} (Pv : Nat → L2.St → Hp → Prop) (h0 : Pv 0 σ H) (hl : ∀ i σ H, i ≤ kvs.length → Pv i σ H → H l = some (.frz o (.dK kvs)))
    (hs : ∀ i k v σ H, kvs[i]? = some (k, v) → Pv i σ H → g (kV k) σ H fun σ2 H2 => tu ⟨Pv (i + 1), d, a, Pv (i + 1)⟩ σ2 H2) (hd : ∀ σ H, Pv kvs.length σ H → a σ H) : gFor (Itk l o kvs) g tu ⟨a, d, b, c⟩ σ H :=
  f_it walk_keys Pv h0 hl (fun i x σ H H' hi p y => by obtain ⟨e, k, v, e2, e3⟩ := y; subst e e3; exact hs i k v σ _ e2 p) hd
def gMake (C : Addr) (sp : Sp) (E : XK) (vs : List V) (H : Hp) (Q : VK) : Prop := ∀ x dx, H x = none → H dx = none → dx ≠ x → sp (.ref x :: vs) (upd (upd H dx (.own x)) x (.ins C dx [])) (fun v H2 => v = .non ∧ Q (.ref x) H2) E
theorem i_mk {C : Addr} {sp : Sp} {E : XK} {tr : TA} {σ : L2.St} {H : Hp} {Q : VK} (k : tr σ H fun vs H1 => gMake C sp E vs H1 Q) : tMake C sp [] E tr σ H Q := i_make k
theorem pg_tupK {X : Cx} {K : PySem.W.Frag} {es : List Expr} {k : Nat} {t : TGs} {n : Nat} {pos : Pos} (h : X.K = K) (hc : X.calm = true) (h2 : PGs X es t)
    (hn : (assignEach es X.env).length = n := by rfl) (hst : (assignEach es X.env).findIdx? (·.1) = none := by rfl) : PG X (.Tuple es k pos) (gTup K n t) := by
  subst h
  exact pg_tup hc h2 hn hst
theorem iteNT {A B : Prop} (k : B) : if (!true) = true then A else B := k
theorem iteNF {A B : Prop} (k : A) : if (!false) = true then A else B := k
theorem upd_swap {H : Hp} {a b : Addr} {x y : HO} (n : a ≠ b) : upd (upd H a x) b y = upd (upd H b y) a x := by
  funext c
  unfold upd
  by_cases h1 : c = a
  · have : ¬ c = b := fun h2 => n (h1.symm.trans h2)
    rw [if_pos h1, if_neg this, if_pos h1]
  · rw [if_neg h1, if_neg h1]
theorem upd_at {H : Hp} {a : Addr} {o : HO} (h : H a = some o) : upd H a o = H := by
  funext c
  unfold upd
  by_cases e : c = a
  · rw [if_pos e, e, h]
  · rw [if_neg e]
/-! the same rules, the ends written out -/
section
variable {σ : L2.St} {H : Hp} {te to ti : TE} {tr : TA} {g : TG} {a b c : L2.St → Hp → Prop} {r : VK} {i : Nat} {x : V}
theorem j_next (k : a σ H) : tNext ⟨a, r, b, c⟩ σ H := k
theorem j_asg (k : te σ H fun x H1 => g x σ H1 a) : tAsg te g ⟨a, r, b, c⟩ σ H := k
theorem j_drop (k : te σ H fun _ H1 => a σ H1) : tDrop te ⟨a, r, b, c⟩ σ H := k
theorem j_ret (k : te σ H r) : tRet te ⟨a, r, b, c⟩ σ H := k
theorem j_retN (k : r .non H) : tRetN ⟨a, r, b, c⟩ σ H := k
theorem j_aug {ti : TIp} (h : σ[i]? = some (some x)) (k : te σ H fun y H1 => ti x y H1 fun z H2 => a (σ.set i (some z)) H2) : tAug i te ti ⟨a, r, b, c⟩ σ H := ⟨x, h, k⟩
theorem j_augS {tget : V → V → Hp → VK → Prop} {tip : TIp} {tset : TSet} (k : to σ H fun o H1 => ti σ H1 fun i H2 => tget o i H2 fun x H3 => te σ H3 fun y H4 => tip x y H4 fun z H5 => tset o i z H5 fun H6 => a σ H6) : tAugS to ti te tget tip tset ⟨a, r, b, c⟩ σ H := k
end
end Eg

set_option Elab.async false
set_option linter.all false
set_option maxRecDepth 100000
set_option maxHeartbeats 4000000
/-! an own exception class whose base is an own one too: the base's name, its first method -/
namespace Eg
open PySem PySem.Spec PyProof.Rows L2 Rl
section
variable {X : Cx} {W : Addr} {x : Str} {mc : Value} {e : Expr} {es : List Expr} {ta : TA} {p1 p2 pos : Pos}
theorem pe_winit {pl : Sem Bool} (hg : Gl X x) (hm : X.mg x = some (.ref W)) (hgw : PySem.W.specialIn X.K (.ref W) "__getattribute__" = some (some (.builtin "type.__getattribute__"))) (hr : PySem.W.readsIn X.K W mc = true) (vV : PySem.W.findCls X.K (.ref W) mc "__init__" = some (.val (.builtin "ValueError.__init__"))) (ha : PA X (e :: es) ta)
    (hdb : (x == ("__debug__" : Str)) = false := by decide)
    (hc : eval (.Call (.Attribute (.Name x p1) "__init__" p2) (e :: es) [] pos) X.env = (do
      let ov ← eval (.Name x p1) X.env
      standAt p2.atName
      let (f, first) ← holding [ov] (getMethod ov "__init__" pl)
      callWith pos f first (backTo pos (starEach (e :: es) X.env)) (backToKw pos (keywordEach [] X.env))) := by rfl)
    (he : starEach (e :: es) X.env = (false, eval e X.env) :: starEach es X.env := by rfl) (hpl : (backTo pos (starEach es X.env)).any (·.1) = false := by rfl) :
    PE X (.Call (.Attribute (.Name x p1) "__init__" p2) (e :: es) [] pos) (tVeI X.K ta) := by
  refine ⟨fun pins s σ H Q I h => ?_⟩
  refine PySem.W.methodCall_KW (ld_glob I hg hm ?_ hdb) hc
  refine PySem.W.method_cls (I.tok _).kIn hgw (PySem.W.cls_value (I.tok _).kIn hr vV (by decide +kernel) ?_)
  show wpAny _ _ (callWith pos (Value.builtin "ValueError.__init__") [] (backTo pos (starEach (e :: es) X.env)) []) _ _ _
  refine PyProof.Rows.callWith_method1 (thn (ha.run pos pins _ σ H _ (I.tok _) h) fun us s1 ⟨vs, H1, I1, r1, a, C, ws, ev, hl, T, ea, q⟩ => ?_) he hpl
  subst ev
  cases r1 with
  | @cons _ u0 _ ur ra rw' =>
    obtain rfl : u0 = Value.ref a := ra
    have hlen : ur.length ≤ sizeLine := by
      rw [← Paired.length rw', sizeLine_eq]
      omega
    exact oinit_ok T I1 ea hlen fun s' J => ⟨.non, H1, J, rfl, q⟩
end
/-! calls that may raise, the way out told slot by slot -/
section
variable {X : Cx} {G : CXT} {k : Nat} {f C : Addr} {fd : FuncData} {ps : List Str} {sp : Sp} {E : L2.St → XK} {x m : Str} {p pos apos : Pos} {o e : Expr} {es : List Expr} {ta : TE} {t : TA}
theorem run_mkS {pins : List (Addr × Obj)} {σ : L2.St} {H : Hp} {s : Shared} {Q : VK} {us : List Value} {vs : List V}
    (M : Mk X.K C f) (F : FnOk X.prog X.w X.K X.mg X.base G k f fd ps sp) (hr : Room (k + 1) X.A) (hb : Binds X.K fd ps [])
    (hx : PassesAt G X σ (E σ)) (I : Inv X pins σ H s) (r : Vals vs us) (h : gMake C sp (E σ) vs H Q) :
    wpAny (model X.prog X.w) X.A (call (.ref C) us) (EP X pins σ Q) X.xe s := by
  have fresh1 := I.hok.fresh (Nat.le_succ s.heap.objs.size)
  have fresh0 := I.hok.fresh (Nat.le_refl s.heap.objs.size)
  have hq := h (s.heap.objs.size + 1) s.heap.objs.size fresh1 fresh0 (Nat.ne_of_lt (Nat.lt_succ_self _))
  have J := Inv.made (C := C) I
  have rr : Vals (V.ref (s.heap.objs.size + 1) :: vs) (Value.ref (s.heap.objs.size + 1) :: us) := .cons rfl r
  have hl : (Value.ref (s.heap.objs.size + 1) :: us).length = ps.length := by
    rw [← rr.length]
    exact F.len _ _ _ _ hq
  have b := hb _ (Value.ref (s.heap.objs.size + 1) :: us) J.kIn (by rw [List.append_nil]; exact hl)
  rw [List.append_nil] at b
  have run := F.run _ X.stack _ _ ⟨Value.ref (s.heap.objs.size + 1) :: us, []⟩ _ _ _ _ (hr.make C us []) (J.env0.make C us []) b rr hq
  refine wpAny_call (make_map (f := f) I.kIn M.makes M.init (beq_iff_eq.mp M.fn) (codeAny_mono run fun z s' w' => ?_))
  rcases z with e | fl
  · exact hx pins _ _ e s' J w'
  · cases fl with
    | ret u =>
      obtain ⟨v, H', I3, rv, ev, q3⟩ := J.after w'
      subst ev
      exact ⟨rv, ⟨V.ref (s.heap.objs.size + 1), H', I3, rfl, q3⟩⟩
    | next => exact w'.elim
    | brk => exact w'.elim
    | cont => exact w'.elim
def tMakeS (C : Addr) (sp : Sp) (E : L2.St → XK) (t : TA) : TE := fun σ H Q => t σ H fun vs H1 => gMake C sp (E σ) vs H1 Q
theorem pe_makeS (M : Mk X.K C f) (F : FnOk X.prog X.w X.K X.mg X.base G k f fd ps sp) (hr : Room (k + 1) X.A) (hg : Gl X x) (hm : X.mg x = some (.ref C)) (hb : Binds X.K fd ps [])
    (hx : ∀ σ, PassesAt G X σ (E σ)) (ha : PA X (e :: es) t) (hdb : (x == ("__debug__" : Str)) = false := by decide)
    (he : starEach (e :: es) X.env = (false, eval e X.env) :: starEach es X.env := by rfl)
    (hpl : (backTo pos (starEach es X.env)).any (·.1) = false := by rfl) : PE X (.Call (.Name x p) (e :: es) [] pos) (tMakeS C sp E t) := by
  constructor
  intro pins s σ H Q I h
  have arg := fun s0 I0 => ha.run pos pins s0 σ H (fun vs H1 => gMake C sp (E σ) vs H1 Q) I0 h
  refine wpAny_Call_Name_kw (ld_glob I hg hm (PySem.W.callWith_K (h₀ := X.base) I.ok.mod.kin M.kp (thn (arg s I) fun us s1 z => ?_) he hpl) hdb)
  obtain ⟨vs, H1, I1, r, q⟩ := z
  exact ⟨I1.kIn, run_mkS M F hr hb (hx σ) I1 r q⟩
end
/-! an own exception class with one field -/
structure Iex (P : Program) (w : World) (K : PySem.W.Frag) (mg : Str → Option Value) (base : Heap) (k : Nat) (x : Str) (C : Addr) (ps : List Str) (sp : Sp) : Prop where
  ex : ∃ (f : Addr) (fd : FuncData), FnOk P w K mg base CX0 k f fd ps sp ∧ PySem.W.findIn K (.ref C) "__init__" = some (some (.ref f)) ∧ PySem.W.typeIn K (.ref f) = some (.type "function") ∧ mg x = some (.ref C) ∧ Binds K fd ps []
  ox : OexC K C
section
variable {X : Cx} {k : Nat} {x : Str} {ps : List Str} {sp : Sp} {p pos pos' : Pos} {e : Expr} {es : List Expr} {t : TA} {C : Addr}
theorem pmk_iex (D : Iex X.prog X.w X.K X.mg X.base k x C ps sp) (hr : Room (k + 1) X.A) (hg : Gl X x) (ha : PA X (e :: es) t) (hdb : (x == ("__debug__" : Str)) = false := by decide)
    (he : starEach (e :: es) X.env = (false, eval e X.env) :: starEach es X.env := by rfl)
    (hpl : (backTo pos (starEach es X.env)).any (·.1) = false := by rfl) : PMk X (.Call (.Name x p) (e :: es) [] pos) (tMkO C sp [] t) := by
  obtain ⟨f, fd, F, iC, tI, hm, hb⟩ := D.ex
  exact pmk_oex D.ox iC tI F hr hb .nil pass0 hg hm ha hdb he hpl
def tRaise (W : WX) (t : L2.St → Hp → XK → Prop) : TS := fun _ σ H => t σ H fun cls d H' => W cls d σ H'
theorem ps_rs {W : WX} {e : Expr} {t : L2.St → Hp → XK → Prop} (tk : Takes X W) (he : PMk X e t) (hc : X.calm = true) : PS X (.Raise (some e) none pos) (tRaise W t) := ps_raise hc tk he
def gRaise (C : Addr) (sp : Sp) (vs : List V) (H : Hp) (Q : XK) : Prop := vs.length ≤ 1000 ∧ ∀ a, H a = none → sp (.ref a :: vs) (upd H a (exo a C none)) (fun v H2 => v = .non ∧ ∃ (d : Addr) (fs : List (Str × V)), H2 a = some (exo a C (some d)) ∧ H2 d = some (exd d fs) ∧ H d = none ∧ Q (.ref C) (some d) (upd (del H2 a) d (.xd fs))) fun _ _ _ => False
theorem i_raise {W : WX} {D : Ends} {σ : L2.St} {H : Hp} (h : t σ H fun vs H1 => gRaise C sp vs H1 fun cls d H' => W cls d σ H') : tRaise W (tMkO C sp [] t) D σ H := by
  unfold tRaise tMkO
  simp only [List.append_nil]
  exact h
def tTryAs (K : PySem.W.Frag) (c : Value) (i : Nat) (tb : WX → TS) (ts : Addr → Value → Option Addr → TS) (Wout : WX) : TS := fun D σ H => tb (wAs K c i ts Wout D) D σ H
theorem i_try {K : PySem.W.Frag} {c : Value} {i : Nat} {tb : WX → TS} {ts : Addr → Value → Option Addr → TS} {Wout : WX} {D : Ends} {σ : L2.St} {H : Hp} (h : tb (wAs K c i ts Wout D) D σ H) : tTryAs K c i tb ts Wout D σ H := h
theorem g_wAs {K : PySem.W.Frag} {cls c : Value} {i : Nat} {ts : Addr → Value → Option Addr → TS} {Wout : WX} {D : Ends} {d : Option Addr} {σ : L2.St} {H : Hp} (e : PySem.W.exmOne K cls c = some true)
    (k : ∀ a, H a = none → ts a cls d { nx := fun σ' H' => D.nx (σ'.set i none) H', rt := D.rt, bk := fun σ' H' => D.bk (σ'.set i none) H', ct := fun σ' H' => D.ct (σ'.set i none) H' } (σ.set i (some (.ref a))) H) : wAs K c i ts Wout D cls d σ H := ⟨true, e, fun _ => k, fun z => Bool.noConfusion z⟩
theorem j_makeS {E : L2.St → XK} {σ : L2.St} {H : Hp} {Q : VK} (h : t σ H fun vs H1 => gMake C sp (E σ) vs H1 Q) : tMakeS C sp E t σ H Q := h
def gXf (a : Addr) (cls : Value) (d : Option Addr) (C : Addr) (f : Str) (x : V) (H1 : Hp) (Q : VK) : Prop := x = .ref a ∧ cls = .ref C ∧ ∃ (dd : Addr) (fs : List (Str × V)) (v : V), d = some dd ∧ H1 dd = some (.xd fs) ∧ fs.lookup f = some v ∧ Q v H1
theorem i_xf {a : Addr} {cls : Value} {d : Option Addr} {f : Str} {te : TE} {σ : L2.St} {H : Hp} {Q : VK} (h : te σ H fun x H1 => gXf a cls d C f x H1 Q) : tXf a cls d C f te σ H Q := h
theorem g_xf {a d : Addr} {f : Str} {v : V} {fs : List (Str × V)} {H : Hp} {Q : VK} (h : H d = some (.xd fs)) (l : fs.lookup f = some v) (k : Q v H) : gXf a (.ref C) (some d) C f (.ref a) H Q := ⟨rfl, rfl, d, fs, v, rfl, h, l, k⟩
end
/-- the promise of an __init__ that calls its base's and sets one field -/
def sp_xi (K : PySem.W.Frag) (C : Addr) (f : Str) : Sp := fun vs H Q _ => ∃ (a : Addr) (v : V), vs = [.ref a, v] ∧ H a = some (exo a C none) ∧ ∀ dx, H dx = none → dx ≠ a → Q .non (upd (upd H dx (exd dx [(f, v)])) a (exo a C (some dx)))
theorem c_raise {K : PySem.W.Frag} {C : Addr} {f : Str} {v : V} {H : Hp} {Q : XK} (k : ∀ d H', H d = none → Same H H' → H' d = some (.xd [(f, v)]) → Q (.ref C) (some d) H') : gRaise C (sp_xi K C f) [v] H Q := by
  refine ⟨by simp, fun a ha => ⟨a, v, rfl, upd_same, fun dx hd hn => ⟨rfl, dx, [(f, v)], upd_same, by rw [upd_ne hn, upd_same], upd_none hd, ?_⟩⟩⟩
  refine k dx _ (upd_none hd) (fun b u q => ?_) upd_same
  have hb := ne_of_none q ha
  have hb2 := ne_of_none q (upd_none hd)
  rw [upd_ne hb2, del_ne hb, upd_ne hb, upd_ne hb2, upd_ne hb]
  exact q
/-! defs that may raise -/
structure DfnX (P : Program) (w : World) (K : PySem.W.Frag) (mg : Str → Option Value) (base : Heap) (k : Nat) (x : Str) (ps : List Str) (sp : Sp) : Prop where
  ex : ∃ (f : Addr) (fd : FuncData), FnOk P w K mg base (L2.CX P w) k f fd ps sp ∧ mg x = some (.ref f) ∧ PySem.W.keepIn K (.ref f) = true ∧ Binds K fd ps []
structure IniX (P : Program) (w : World) (K : PySem.W.Frag) (mg : Str → Option Value) (base : Heap) (k : Nat) (x : Str) (C : Addr) (ps : List Str) (sp : Sp) : Prop where
  ex : ∃ (f : Addr) (fd : FuncData), FnOk P w K mg base (L2.CX P w) k f fd ps sp ∧ Mk K C f ∧ mg x = some (.ref C) ∧ Binds K fd ps []
section
variable {X : Cx} {k : Nat} {x : Str} {ps : List Str} {sp : Sp} {p pos : Pos} {e : Expr} {es : List Expr} {t : TA} {C : Addr} {W : WX}
theorem pe_dfnS (D : DfnX X.prog X.w X.K X.mg X.base k x ps sp) (hr : Room k X.A) (hg : Gl X x) (tk : Takes X W) (ha : PA X (e :: es) t) (hdb : (x == ("__debug__" : Str)) = false := by decide)
    (he : starEach (e :: es) X.env = (false, eval e X.env) :: starEach es X.env := by rfl)
    (hpl : (backTo pos (starEach es X.env)).any (·.1) = false := by rfl) : PE X (.Call (.Name x p) (e :: es) [] pos) (tCallS sp (WE W) t) := by
  obtain ⟨f, fd, F, hm, hk, hb⟩ := D.ex
  exact pe_callS F hr hg hm hk hb (fun σ => passAt tk σ) ha hdb he hpl
theorem pe_iniS (D : IniX X.prog X.w X.K X.mg X.base k x C ps sp) (hr : Room (k + 1) X.A) (hg : Gl X x) (tk : Takes X W) (ha : PA X (e :: es) t) (hdb : (x == ("__debug__" : Str)) = false := by decide)
    (he : starEach (e :: es) X.env = (false, eval e X.env) :: starEach es X.env := by rfl)
    (hpl : (backTo pos (starEach es X.env)).any (·.1) = false := by rfl) : PE X (.Call (.Name x p) (e :: es) [] pos) (tMakeS C sp (WE W) t) := by
  obtain ⟨f, fd, F, M, hm, hb⟩ := D.ex
  exact pe_makeS M F hr hg hm hb (fun σ => passAt tk σ) ha hdb he hpl
end
/-- the base's __init__ called, a field set: what an own exception's __init__ reads -/
def gVe (K : PySem.W.Frag) (vs : List V) (H1 : Hp) (Q : VK) : Prop := ∃ (a C : Addr) (ws : List V), vs = .ref a :: ws ∧ ws.length ≤ 1000 ∧ OexC K C ∧ H1 a = some (exo a C none) ∧ Q .non H1
theorem i_ve {K : PySem.W.Frag} {ta : TA} {σ : L2.St} {H : Hp} {Q : VK} (k : ta σ H fun vs H1 => gVe K vs H1 Q) : tVeI K ta σ H Q := k
theorem g_ve {K : PySem.W.Frag} {a C : Addr} {ws : List V} {H : Hp} {Q : VK} (h : H a = some (exo a C none)) (o : OexC K C) (l : ws.length ≤ 1000) (k : Q .non H) : gVe K (.ref a :: ws) H Q := ⟨a, C, ws, rfl, l, o, h, k⟩
def gOst (K : PySem.W.Frag) (f : Str) (y x : V) (H2 : Hp) (Q : Hp → Prop) : Prop := ∃ a C : Addr, x = .ref a ∧ OexC K C ∧ PySem.W.findIn K (.ref C) f = some none ∧
  ((H2 a = some (exo a C none) ∧ ∀ dx, H2 dx = none → dx ≠ a → Q (upd (upd H2 dx (exd dx [(f, y)])) a (exo a C (some dx)))) ∨
    ∃ (dx : Addr) (fs : List (Str × V)), H2 a = some (exo a C (some dx)) ∧ H2 dx = some (exd dx fs) ∧ fs.length ≤ 900 ∧ Q (upd H2 dx (exd dx ((f, y) :: fs))))
theorem i_ost {K : PySem.W.Frag} {f : Str} {to te : TE} {a b c : L2.St → Hp → Prop} {r : VK} {σ : L2.St} {H : Hp} (k : te σ H fun y H1 => to σ H1 fun x H2 => gOst K f y x H2 (a σ)) : tOst K f to te ⟨a, r, b, c⟩ σ H := k
theorem g_ost {K : PySem.W.Frag} {f : Str} {y : V} {a C : Addr} {H : Hp} {Q : Hp → Prop} (h : H a = some (exo a C none)) (o : OexC K C) (n : PySem.W.findIn K (.ref C) f = some none) (k : ∀ dx, H dx = none → dx ≠ a → Q (upd (upd H dx (exd dx [(f, y)])) a (exo a C (some dx)))) : gOst K f y (.ref a) H Q := ⟨a, C, rfl, o, n, .inl ⟨h, k⟩⟩
theorem i_unl {K : PySem.W.Frag} {n : Nat} {tg : TGs} {p : Addr} {xs : List V} {σ : L2.St} {H : Hp} {Q : L2.St → Hp → Prop} (h : SqL K H p xs) (e : xs.length = n) (k : tg xs σ H Q) : gUnl K n tg (.ref p) σ H Q := ⟨p, xs, rfl, h, e, k⟩
end Eg

set_option Elab.async false
set_option linter.all false
set_option maxRecDepth 100000
set_option maxHeartbeats 4000000
/-! ranges as values, backwards; wide numbers; lists compared -/
namespace Eg
open PySem PySem.Spec PyProof.Rows L2 Rl SX
section
variable {X : Cx}
def uRng : List V → Hp → VK → Prop := fun xs H Q => ∃ n : Int, xs = [.int n] ∧ ∀ p, H p = none → Q (.ref p) (upd H p (.rng 0 n))
theorem call_uRng : CallR X (.type "range") uRng := by
  intro pins s σ H vs us Q I r ⟨n, e, q⟩
  subst e
  cases r with
  | cons r rr =>
    cases rr
    obtain ⟨t, rfl⟩ := r
    refine call_range_1 ⟨.ref s.heap.objs.size, upd H s.heap.objs.size (.rng 0 n), I.laid (t' := s.toks + 1 + 1) (fun _ _ z => Heap.get?_push_of_some _ z) (Nat.le_refl _) ?_, rfl, q _ (I.hok.fresh (Nat.le_refl _))⟩
    exact ⟨s.toks, t, s.toks + 1, Heap.get?_push_size _ rfl⟩
/-- a range object, walked -/
def iRng0 (te : TE) : TI := fun σ H R => te σ H fun x H1 => ∃ (p : Addr) (lo hi : Int), x = .ref p ∧ H1 p = some (.rng lo hi) ∧ (-(2 ^ 62) ≤ lo ∧ lo < 2 ^ 62 ∧ -(2 ^ 62) ≤ hi ∧ hi < 2 ^ 62) ∧ R (Itr lo (hi - lo).toNat) H1
theorem pi_rng {tg e : Expr} {te : TE} (he : PE X e te) : PI X tg e (iRng0 te) := by
  refine ⟨fun pins s σ H R I h => ?_⟩
  refine thn (he.run pins s σ H _ I h) fun v s1 ⟨x, H1, I1, r1, q1⟩ => ?_
  obtain ⟨p, lo, hi, e1, hp, ⟨h1, h2, h3, h4⟩, q⟩ := q1
  subst e1
  cases r1
  obtain ⟨t1, t2, t3, ho⟩ := I1.hok p _ hp
  refine wpAny_pyIter_range (t := t1) (u := t2) (v := t3) ho (small_one h1 h2 h3 h4) ?_
  refine pi_one (tk := s1.toks) I1 { cls := .type "range_iterator", data := .fields #[rawInt lo, rawInt (Builtin.Range.rangeSize lo hi 1), rawInt 1] } (turn_range (P := X.prog) (w := X.w) (K := X.K) (tg := tg) s1.heap.objs.size lo (hi - lo).toNat) ?_ q
  · have a1 : lo + ((0 : Nat) : Int) * 1 = lo := by simp
    have a2 : (((hi - lo).toNat : Nat) : Int) - ((0 : Nat) : Int) = Builtin.Range.rangeSize lo hi 1 := by rw [rangeSize_one]; split <;> omega
    show IsRangeIter _ _ (lo + ((0 : Nat) : Int) * 1) ((((hi - lo).toNat : Nat) : Int) - ((0 : Nat) : Int)) 1
    rw [a1, a2]
    exact Heap.get?_push_size _ rfl
end
section
variable {K : PySem.W.Frag} {σ : L2.St} {H : Hp} {te : TE} {Q : VK} {g : TG} {n : Int} {R : It → Hp → Prop}
theorem g_uRng (k : ∀ p H', H p = none → Same H H' → H' p = some (.rng 0 n) → Q (.ref p) H') : uRng [.int n] H Q := ⟨n, rfl, n_new k⟩
def gRng0 (x : V) (H1 : Hp) (R : It → Hp → Prop) : Prop := ∃ (p : Addr) (lo hi : Int), x = .ref p ∧ H1 p = some (.rng lo hi) ∧ (-(2 ^ 62) ≤ lo ∧ lo < 2 ^ 62 ∧ -(2 ^ 62) ≤ hi ∧ hi < 2 ^ 62) ∧ R (Itr lo (hi - lo).toNat) H1
theorem i_rng0 (k : te σ H fun x H1 => gRng0 x H1 R) : iRng0 te σ H R := k
theorem g_rng0 {p : Addr} {lo hi : Int} (h : H p = some (.rng lo hi)) (c : -(2 ^ 62) ≤ lo ∧ lo < 2 ^ 62 ∧ -(2 ^ 62) ≤ hi ∧ hi < 2 ^ 62) (k : R (Itr lo (hi - lo).toNat) H) : gRng0 (.ref p) H R := ⟨p, lo, hi, rfl, h, c, k⟩
def gRevR (x : V) (H1 : Hp) (R : It → Hp → Prop) : Prop := ∃ n : Int, x = .int n ∧ -(2 ^ 62) ≤ (0 : Int) ∧ (0 : Int) < 2 ^ 62 ∧ -(2 ^ 62) ≤ n ∧ n < 2 ^ 62 ∧ R (Itc (0 + (((n - 0).toNat : Nat) : Int) - 1) (-1) (n - 0).toNat) H1
theorem i_revR (k : te σ H fun x H1 => gRevR x H1 R) : iRevR (tRg1 te) σ H R := k
theorem g_revR {m : Nat} (c : m < 2 ^ 62) (k : R (Itc ((m : Int) - 1) (-1) m) H) : gRevR (.int (m : Int)) H R := by
  refine ⟨m, rfl, by omega, by omega, by omega, by omega, ?_⟩
  rw [Int.sub_zero, Int.toNat_natCast, Int.zero_add]
  exact k
/-- a for over a range from its end -/
theorem f_rngC {m : Nat} {tu : TS} {a b c : L2.St → Hp → Prop} {d : VK} (Pv : Nat → L2.St → Hp → Prop) (h0 : Pv 0 σ H)
    (hs : ∀ i σ H, i < m → Pv i σ H → g (.int ((m - 1 - i : Nat) : Int)) σ H fun σ2 H2 => tu ⟨Pv (i + 1), d, a, Pv (i + 1)⟩ σ2 H2) (hd : ∀ σ H, Pv m σ H → a σ H) : gFor (Itc ((m : Int) - 1) (-1) m) g tu ⟨a, d, b, c⟩ σ H :=
  f_it walk_rangeC Pv h0 (fun _ _ _ _ _ => trivial) (fun i x σ H H' hi p y => by
    obtain ⟨e, e2⟩ := y
    subst e e2
    have z : (m : Int) - 1 + (i : Nat) * (-1) = ((m - 1 - i : Nat) : Int) := by omega
    show g (.int ((m : Int) - 1 + (i : Nat) * (-1))) σ _ _
    rw [z]
    exact hs i σ _ hi p) hd
theorem bt_range : bootBuiltins "range" = some (.type "range") := by decide +kernel
/-- products of wide numbers -/
theorem mul_nb {x y : Int} {m n : Nat} (hx : x.natAbs < 2 ^ m) (hy : y.natAbs < 2 ^ n) (h : m + n < 1000000) : CMulW x y := by
  unfold CMulW
  have z : ∀ {v : Int} {k : Nat}, v.natAbs < 2 ^ k → v.natAbs.log2 ≤ k := fun {v k} hv => by
    by_cases h0 : v.natAbs = 0
    · rw [h0]; simp
    · exact Nat.le_of_lt ((Nat.log2_lt h0).mpr hv)
  have := z hx
  have := z hy
  omega
theorem log_nb {v : Int} {k : Nat} (hv : v.natAbs < 2 ^ k) : v.natAbs.log2 ≤ k := by
  by_cases h0 : v.natAbs = 0
  · rw [h0]; simp
  · exact Nat.le_of_lt ((Nat.log2_lt h0).mpr hv)
theorem g_divW {x y : Int} {k : Nat} (h0 : 0 < y) (hy : y.natAbs < 2 ^ k) (hk : k < 9000) (q : Q (.int (x / y)) H) : uDiv (.int x) (.int y) H Q := ⟨x, y, rfl, rfl, .inr ⟨h0, Nat.lt_of_le_of_lt (log_nb hy) hk⟩, q⟩
theorem g_mulW {x y : Int} (c : CMulW x y) (k : Q (.int (x * y)) H) : uMul (.int x) (.int y) H Q := ⟨x, y, rfl, rfl, .inr c, k⟩
end
end Eg

set_option Elab.async false
set_option linter.all false
set_option maxRecDepth 100000
set_option maxHeartbeats 4000000
/-! two lists walked together -/
namespace Eg
open PySem PySem.Spec PyProof.Rows L2 Rl SX
section
variable {K : PySem.W.Frag} {σ : L2.St} {H : Hp} {tr : TA} {g : TG} {R : It → Hp → Prop} {tu : TS} {a b c : L2.St → Hp → Prop} {d : VK}
def gZip (K : PySem.W.Frag) (vs : List V) (H : Hp) (R : It → Hp → Prop) : Prop := ∃ a b xs ys, vs = [.ref a, .ref b] ∧ SqL K H a xs ∧ SqL K H b ys ∧ R (Itz K a b) H
theorem i_zip (k : tr σ H fun vs H1 => gZip K vs H1 R) : iZip K tr σ H R := k
theorem g_zip {p q : Addr} {xs ys : List V} (h1 : SqL K H p xs) (h2 : SqL K H q ys) (k : R (Itz K p q) H) : gZip K [.ref p, .ref q] H R := ⟨p, q, xs, ys, rfl, h1, h2, k⟩
theorem f_zip {p q : Addr} {xs ys : List V} (hl : xs.length = ys.length) (Pv : Nat → L2.St → Hp → Prop) (h0 : Pv 0 σ H) (hk : ∀ i σ H, i ≤ xs.length → Pv i σ H → SqL K H p xs ∧ SqL K H q ys)
    (hs : ∀ i x y σ H T H', xs[i]? = some x → ys[i]? = some y → Pv i σ H → H T = none → Same H H' → H' T = some (.tup [x, y]) → g (.ref T) σ H' fun σ2 H2 => tu ⟨Pv (i + 1), d, a, Pv (i + 1)⟩ σ2 H2) (hd : ∀ σ H, Pv xs.length σ H → a σ H) : gFor (Itz K p q) g tu ⟨a, d, b, c⟩ σ H :=
  f_it (walk_zip (n := xs.length) (by omega)) Pv h0 hk (fun i v σ H H' hi p y => by
    obtain ⟨T, x, y, e1, e2, e3, e4, e5⟩ := y
    subst e1 e3
    exact hs i x y σ H T _ e4 e5 p e2 (fun b u e => by rw [upd_ne (ne_of_none e e2)]; exact e) upd_same) hd
end
end Eg

set_option Elab.async false
set_option linter.all false
set_option maxRecDepth 100000
set_option maxHeartbeats 4000000
/-! methods that may raise; .get of a dict at the module's top -/
namespace Eg
open PySem PySem.Spec PyProof.Rows L2 Rl SX
structure MthX (P : Program) (w : World) (K : PySem.W.Frag) (mg : Str → Option Value) (base : Heap) (k : Nat) (C : Addr) (x : Str) (ps : List Str) (sp : Sp) : Prop where
  ex : ∃ (f : Addr) (fd : FuncData), FnOk P w K mg base (L2.CX P w) k f fd ps sp ∧ Meth K C x f ∧ Binds K fd ps []
  cl : Cls K C
def tMethS (C : Addr) (m : Str) (sp : Sp) (E : L2.St → XK) (ta : TE) (t : TA) : TE := fun σ H Q => ta σ H fun x H1 => ∃ a dx fs, x = .ref a ∧ H1 a = some (.ins C dx fs) ∧ fs.lookup m = none ∧ t σ H1 fun vs H2 => sp (x :: vs) H2 Q (E σ)
section
variable {X : Cx} {k : Nat} {x : Str} {ps : List Str} {sp : Sp} {p pos apos : Pos} {o e f : Expr} {es : List Expr} {t : TA} {ta td ty tx : TE} {C : Addr} {W : WX} {m : Str}
theorem pe_mthS (D : MthX X.prog X.w X.K X.mg X.base k C m ps sp) (hr : Room k X.A) {pl : Sem Bool} (tk : Takes X W) (ho : PE X o ta) (ha : PA X (e :: es) t)
    (hst : starEach (e :: es) X.env = (false, eval e X.env) :: starEach es X.env := by rfl) (hpl : (backTo pos (starEach es X.env)).any (·.1) = false := by rfl)
    (ht : eval (.Call (.Attribute o m apos) (e :: es) [] pos) X.env = (do
      let ov ← eval o X.env
      standAt apos.atName
      let (f, first) ← holding [ov] (getMethod ov m pl)
      callWith pos f first (backTo pos (starEach (e :: es) X.env)) (backToKw pos (keywordEach [] X.env))) := by rfl) :
    PE X (.Call (.Attribute o m apos) (e :: es) [] pos) (tMethS C m sp (WE W) ta t) := by
  obtain ⟨g, fd, F, hm, hb⟩ := D.ex
  refine ⟨fun pins s σ H Q I h => ?_⟩
  refine PySem.W.methodCall_KW (pl := pl) (thn (ho.run pins s σ H _ I h) fun u s1 ⟨y, H1, I1, ry, a, dx, fs, ey, ea, l, q⟩ => ?_) ht
  subst ey
  cases ry
  refine getmeth_ok I1 ea D.cl hm l ?_
  refine PySem.W.callWith_K (first := [.ref a]) (h₀ := X.base) I.ok.mod.kin hm.kp (thn (ha.run pos pins s1 σ H1 _ I1 q) fun us s2 ⟨vs, H2, I2, r, q2⟩ => ⟨I2.kIn, ?_⟩) hst hpl
  exact run_fnS (us := .ref a :: us) (vs := .ref a :: vs) F hr hb ((fun σ => passAt tk σ) σ) I2 (.cons rfl r) q2
/-- d.get(x, y) of a dict at the module's top that has no such key -/
def tKGet2 (K : PySem.W.Frag) (w : World) (td ty tx : TE) : TE := fun σ H Q => td σ H fun x H1 => ∃ a z, x = .ref a ∧ KMiss K w a z ∧ ty σ H1 fun y H2 => y = .str z ∧ tx σ H2 Q
theorem pe_kget2 (ho : PE X o td) (he : PE X e ty) (hf : PE X f tx) (m : M2 X o "get" apos e f pos) : PE X (.Call (.Attribute o "get" apos) [e, f] [] pos) (tKGet2 X.K X.w td ty tx) := by
  refine ⟨fun pins s σ H Q I h => ?_⟩
  refine wpAny_Call_method m.base m.few m.line PySem.F.plainAttrs_dict PySem.F.slot_dict_get PySem.F.type_dict_get (thn (ho.run pins s σ H _ I h) fun u s1 ⟨x, H1, I1, rx, a, z, ex, miss, q1⟩ => ?_)
  subst ex
  cases rx
  obtain ⟨es, n, hl, hk, low, hn⟩ := miss
  have hm := PySem.W.mapOf_K (prog := X.prog) (w := X.w) I1.kIn hl hk
  refine ⟨hm.typeIs, ?_, ?_⟩
  · intro b e
    cases e
    exact ⟨_, I1.kIn _ _ hl, rfl⟩
  rw [m.trees]
  refine Calls.callWith_builtin rfl (Calls.evalArgs_plain (Calls.spliced_cons (thn (he.run pins s1 σ H1 _ I1 q1) fun iv s2 ⟨y, H2, I2, ry, ey, q2⟩ =>
    Calls.spliced_cons (thn (hf.run pins s2 σ H2 _ I2 q2) fun fv s3 ⟨v, H3, I3, rv, q3⟩ => Calls.spliced_nil ?_))))
  subst ey
  obtain ⟨t, rfl⟩ := ry
  have hm3 := PySem.W.mapOf_K (prog := X.prog) (w := X.w) I3.kIn hl hk
  refine call_meetsIn PySem.F.slot_dict_get hm3.typeIs PySem.F.entry_dict_get (PySem.F.args_dict_get_3 _ _ _) (meets_dict_get_default (strKind X.prog X.w) a (strKind_is X.prog X.w z t) ?_ fv) ?_
  · exact low
  · refine ⟨_, hm3, ?_⟩
    rw [PySem.W.find_K hl hn]
    exact ⟨v, H3, I3.tok _, rv, q3⟩
end
section
variable {K : PySem.W.Frag} {σ : L2.St} {H : Hp} {te ty tx : TE} {tr : TA} {Q : VK} {sp : Sp} {E : L2.St → XK} {C : Addr} {m : Str} {w : World}
theorem i_callS (k : tr σ H fun vs H1 => sp vs H1 Q (E σ)) : tCallS sp E tr σ H Q := k
def gMethS (C : Addr) (m : Str) (sp : Sp) (E : L2.St → XK) (t : TA) (x : V) (σ : L2.St) (H : Hp) (Q : VK) : Prop := ∃ a dx fs, x = .ref a ∧ H a = some (.ins C dx fs) ∧ fs.lookup m = none ∧ t σ H fun vs H2 => sp (x :: vs) H2 Q (E σ)
theorem i_methS (k : te σ H fun x H1 => gMethS C m sp E tr x σ H1 Q) : tMethS C m sp E te tr σ H Q := k
theorem g_methS {dx a : Addr} {fs : List (Str × V)} (h : H a = some (.ins C dx fs)) (l : fs.lookup m = none) (k : tr σ H fun vs H2 => sp (.ref a :: vs) H2 Q (E σ)) : gMethS C m sp E tr (.ref a) σ H Q := ⟨a, dx, fs, rfl, h, l, k⟩
/-- a text so often -/
theorem fold_rep (a : List Nat) : ∀ (m : Nat) (acc : Array Nat), (List.replicate m a.toArray).foldl (· ++ ·) acc = acc ++ ((List.replicate m a).flatten).toArray
  | 0, acc => by simp
  | m + 1, acc => by
    rw [List.replicate_succ, List.foldl_cons, fold_rep a m, List.replicate_succ, List.flatten_cons]
    simp
def uMulS : R2 := fun x y H Q => ∃ (a : List Nat) (n : Nat), x = .str (S a) ∧ y = .int (n : Int) ∧ 2 ≤ n ∧ n ≤ 1000 ∧ a ≠ [] ∧ a.length ≤ 10000 ∧ Q (.str (S ((List.replicate n a).flatten))) H
theorem op_mulS {X : Cx} : OpR X (binaryOp .Mult) uMulS := by
  intro pins s σ H x y v u Q I rx ry ⟨a, n, e1, e2, h2, hn, ha, hl, q⟩
  subst e1 e2
  obtain ⟨t, rfl⟩ := rx
  obtain ⟨t', rfl⟩ := ry
  have hlen : (S a).length = a.length := by simp [S, Str.length]
  have hpos : 0 < a.length := List.length_pos_iff.mpr ha
  have hmul : a.length * n ≤ 10000 * 1000 := Nat.mul_le_mul hl hn
  have z1 : ((n : Int) == 1) = false := by
    rw [beq_eq_false_iff_ne]
    omega
  have z2 : ((S a).length == 0) = false := by
    rw [hlen, beq_eq_false_iff_ne]
    omega
  have hne : ((n : Int) == 1 || (S a).length == 0) = false := by rw [z1, z2]; rfl
  have hN : ((n : Int)).toNat = n := Int.toNat_natCast n
  refine P.mul_str (by rw [decide_eq_false (by omega), decide_eq_false (by omega)]; rfl) (fun _ _ => ?_) (fun _ _ => ?_) ?_
  · rw [hlen]
    refine Int.not_lt.mpr (Int.le_ediv_of_mul_le (by omega) ?_)
    rw [← Int.natCast_mul]
    omega
  · unfold Builtin.Str.tooLong
    rw [hlen, hN, sizeLine_eq]
    exact decide_eq_false (by omega)
  · rw [if_neg (by omega), hne, if_neg (by simp), hN]
    have e : (⟨List.foldl (fun x1 x2 => x1 ++ x2) #[] (List.replicate n (S a).cps)⟩ : Str) = S ((List.replicate n a).flatten) := by
      have h := fold_rep a n #[]
      rw [Array.empty_append] at h
      exact congrArg Str.mk h
    rw [e]
    refine ⟨?_, .str (S ((List.replicate n a).flatten)), H, I.tok _, ⟨_, rfl⟩, q⟩
    have hl2 : (S (List.replicate n a).flatten).length = n * a.length := by simp [S, Str.length]
    rw [hl2, sizeLine_eq, Nat.mul_comm]
    omega
theorem g_mulS {a : List Nat} {n : Nat} {H : Hp} {Q : VK} (h2 : 2 ≤ n) (hn : n ≤ 1000) (ha : a ≠ []) (hl : a.length ≤ 10000) (k : Q (.str (S ((List.replicate n a).flatten))) H) : uMulS (.str (S a)) (.int (n : Int)) H Q := ⟨a, n, rfl, rfl, h2, hn, ha, hl, k⟩
theorem i_kget {K : PySem.W.Frag} {w : World} {td ty tx : TE} {σ : L2.St} {H : Hp} {Q : VK} (k : td σ H fun x H1 => ∃ a z, x = .ref a ∧ KMiss K w a z ∧ ty σ H1 fun y H2 => y = .str z ∧ tx σ H2 Q) : tKGet2 K w td ty tx σ H Q := k
end
end Eg

set_option Elab.async false
set_option linter.all false
set_option maxRecDepth 100000
set_option maxHeartbeats 4000000
/-! quiet defs: bodies that make no exception within; they may be called where one is handled -/
namespace Eg
open PySem PySem.Spec PyProof.Rows L2 Rl SX
/-- nothing is known of what is handled -/
abbrev quiet (X : Cx) : Cx := { X with calm := false }
structure FnQ (P : Program) (w : World) (K : PySem.W.Frag) (mg : Str → Option Value) (base : Heap) (k : Nat) (f : Addr) (fd : FuncData) (ps : List Str) (sp : Sp) : Prop where
  len : ∀ vs H Q E, sp vs H Q E → vs.length = ps.length
  run : ∀ (A : Around) (outer : List Env) (s : Shared) (H : Hp) (args : Args) (us : List Value) (vs : List V) (Q : VK), L2H.RoomH k A → Env0 P w K mg base A outer s H → BindsTo s fd args (ps.zip us) → Vals vs us → sp vs H Q E0 →
    codeAny (model P w) A (.call (.ref f) args) (CR CX0 outer P w H s Q E0) s
theorem FnQ.mono {P : Program} {w : World} {K : PySem.W.Frag} {mg : Str → Option Value} {base : Heap} {j k : Nat} {f : Addr} {fd : FuncData} {ps : List Str} {sp : Sp} (F : FnQ P w K mg base j f fd ps sp) (h : j ≤ k) : FnQ P w K mg base k f fd ps sp :=
  ⟨F.len, fun A outer s H args us vs Q hr => F.run A outer s H args us vs Q (hr.mono h)⟩
theorem inv_around {X : Cx} {A : Around} {xe : Value → Shared → Prop} {pins : List (Addr × Obj)} {σ : L2.St} {H : Hp} {s : Shared} (I : Inv X pins σ H s) (hf : A.frames = some X.stack) : Inv { X with A := A, calm := false, xe := xe } pins σ H s :=
  ⟨⟨I.ok.mod, I.ok.kind, I.ok.glob, I.ok.blt, I.ok.above, I.ok.inj, I.ok.has, I.ok.cab, fun h => Bool.noConfusion (show false = true from h), hf, I.ok.stk, I.ok.exf, I.ok.bs, I.ok.bsz, I.ok.noex, I.ok.exfs, I.ok.funs, I.ok.frf⟩,
    I.os, I.bare, I.base, I.loc, I.cell, I.free, I.freeC, I.pin, I.hok, I.len⟩
section
variable {P : Program} {w : World} {K : PySem.W.Frag} {mg : Str → Option Value} {base : Heap}
theorem env0_mark {A : Around} {outer : List Env} {s : Shared} {H : Hp} (e : Env0 P w K mg base A outer s H) : Env0 P w K mg base { A with handled := none } outer s H := ⟨e.frames, e.mod, e.bs, e.bsz, e.funs, e.frf, e.hok, e.bare⟩
theorem okQ {x qual : Str} {st : Stmt} {f : Addr} {fd : FuncData} {N ps : List Str} {k : Nat} {sp : Sp} (F : Fun K x qual st f fd) (S : FnScope N ps (defScope st)) (len : ∀ vs H Q E, sp vs H Q E → vs.length = ps.length)
    (hbody : ∀ (cdv : Value) (A : Around) (outer : List Env) (s : Shared) (H : Hp) (vs : List V) (Q : VK) (E : XK), L2H.RoomH k (A.deeper (envOfC qual (defScope st) s.heap.objs.size f cdv)) → sp vs H Q E →
      ∃ t, PSs (quiet (cxOf CX0 P w K mg base N qual (defScope st) f cdv A outer s H E).nox) (defBody st) t ∧ t { nx := fun _ H' => Q .non H', rt := Q } (start N vs) H) : FnQ P w K mg base (k + 1) f fd ps sp := by
  obtain ⟨oc, od, kV, doc, pm, an, cdv, ct, osl, rfl, lk, hcd⟩ := F.ex
  refine ⟨len, fun A outer s H args us vs Q hr e0 hb r hsp => ?_⟩
  have hl := len _ _ _ _ hsp
  have KX : K.In s.heap := e0.mod.kin.keeps fun b o e => (e0.bs b o e).1
  have hkind : ∀ y ∈ ps.zip us, (defScope st).names.lookup y.1 = some .local ∨ ((defScope st).names.lookup y.1 = some .cell ∧ ((cellsFrom (s.heap.objs.size + 1) (defScope st).names []).lookup y.1).isSome = true) := fun ⟨n, v⟩ hy => by
    rcases S.par n (List.of_mem_zip hy).1 with q | q
    · exact .inl q
    · exact .inr ⟨q, PySem.W.cellsFrom_some _ _ _ (.inl q)⟩
  refine codeAny_call_function hr.depth (KX _ _ lk) rfl S.co S.gen rfl (PySem.W.codeRec_of KX hcd) (hb _ _ _ _ ?_)
  refine wpAny_newFunctionEnv_cells S.kind hkind fun env he s1 x => ?_
  subst he
  refine ⟨(e0.mod.nolimit.keeps fun b o e => (e0.bs b o e).1).keeps x.toInCall.keep, codeAny_func ?_⟩
  obtain ⟨t, ht, hq⟩ := hbody cdv A outer s H vs Q E0 (hr.deeper _) hsp
  have I0 := inv_start (CX := CX0) (E := E0) (f := f) (cd := cdv) S (show ({ A with handled := none } : Around).handled = none from rfl) (env0_mark e0) hl r x
  have I : Inv (quiet (cxOf CX0 P w K mg base N qual (defScope st) f cdv A outer s H E0)) [] (start N vs) H s1 := inv_around (X := cxOf CX0 P w K mg base N qual (defScope st) f cdv { A with handled := none } outer s H E0) (A := A.deeper (envOfC qual (defScope st) s.heap.objs.size f cdv)) I0 (Around.frames_deeper e0.frames)
  refine wpAny_mono ((PSs.nox (X := quiet (cxOf CX0 P w K mg base N qual (defScope st) f cdv A outer s H E0)) ht).run [] s1 (start N vs) H _ I hq) (fun fl s' hs => ?_) fun e s' hs => hs
  cases fl with
  | ret u =>
    obtain ⟨v, σ', H', J, rv, q⟩ := hs
    exact ⟨v, H', J.os, J.bare, J.base, J.hok, rv, q⟩
  | next =>
    obtain ⟨σ', H', J, q⟩ := hs
    exact ⟨.non, H', J.os, J.bare, J.base, J.hok, rfl, q⟩
  | brk => exact hs.elim fun _ h => h.elim fun _ h => h.2.elim
  | cont => exact hs.elim fun _ h => h.elim fun _ h => h.2.elim
end
section
variable {X : Cx} {k : Nat} {f C : Addr} {fd : FuncData} {ps : List Str} {sp : Sp} {x m : Str} {p pos apos : Pos} {o e : Expr} {es : List Expr} {ta : TE} {t : TA}
theorem run_fnQ {pins : List (Addr × Obj)} {σ : L2.St} {H : Hp} {s : Shared} {Q : VK} {us : List Value} {vs : List V} (F : FnQ X.prog X.w X.K X.mg X.base k f fd ps sp) (hr : L2H.RoomH k X.A) (hb : Binds X.K fd ps [])
    (I : Inv X pins σ H s) (r : Vals vs us) (h : sp vs H Q E0) : wpAny (model X.prog X.w) X.A (call (.ref f) us) (EP X pins σ Q) X.xe s := by
  have hl : us.length = ps.length := by rw [← r.length]; exact F.len _ _ _ _ h
  have b := hb s us I.kIn (by rw [List.append_nil]; exact hl)
  rw [List.append_nil] at b
  refine wpAny_call (codeAny_mono (F.run X.A X.stack s H ⟨us, []⟩ us vs Q hr I.env0 b r h) fun r s' hq => ?_)
  cases r with
  | error e => exact False.elim hq
  | ok fl =>
    cases fl with
    | ret u => exact I.after hq
    | next => exact False.elim hq
    | brk => exact False.elim hq
    | cont => exact False.elim hq
structure MthQ (P : Program) (w : World) (K : PySem.W.Frag) (mg : Str → Option Value) (base : Heap) (k : Nat) (C : Addr) (x : Str) (ps : List Str) (sp : Sp) : Prop where
  ex : ∃ (f : Addr) (fd : FuncData), FnQ P w K mg base k f fd ps sp ∧ Meth K C x f ∧ Binds K fd ps []
  cl : Cls K C
structure DfnQ (P : Program) (w : World) (K : PySem.W.Frag) (mg : Str → Option Value) (base : Heap) (k : Nat) (x : Str) (ps : List Str) (sp : Sp) : Prop where
  ex : ∃ (f : Addr) (fd : FuncData), FnQ P w K mg base k f fd ps sp ∧ mg x = some (.ref f) ∧ PySem.W.keepIn K (.ref f) = true ∧ Binds K fd ps []
theorem pe_dfnQ (D : DfnQ X.prog X.w X.K X.mg X.base k x ps sp) (hr : L2H.RoomH k X.A) (hg : Gl X x) (ha : PA X (e :: es) t)
    (hdb : (x == ("__debug__" : Str)) = false := by decide) (he : starEach (e :: es) X.env = (false, eval e X.env) :: starEach es X.env := by rfl) (hpl : (backTo pos (starEach es X.env)).any (·.1) = false := by rfl) :
    PE X (.Call (.Name x p) (e :: es) [] pos) (tCall sp [] E0 t) := by
  obtain ⟨f, fd, F, hm, hk, hb⟩ := D.ex
  refine ⟨fun pins s σ H Q I h => ?_⟩
  refine wpAny_Call_Name_kw (ld_glob I hg hm ?_ hdb)
  refine PySem.W.callWith_K (h₀ := X.base) I.ok.mod.kin hk (thn (ha.run pos pins s σ H _ I h) fun us s1 ⟨vs, H1, I1, r, q⟩ => ⟨I1.kIn, ?_⟩) he hpl
  simp only [List.append_nil] at q
  exact run_fnQ F hr hb I1 r q
theorem pe_mthQ (D : MthQ X.prog X.w X.K X.mg X.base k C m ps sp) (hr : L2H.RoomH k X.A) {pl : Sem Bool} (ho : PE X o ta) (ha : PA X (e :: es) t)
    (hst : starEach (e :: es) X.env = (false, eval e X.env) :: starEach es X.env := by rfl) (hpl : (backTo pos (starEach es X.env)).any (·.1) = false := by rfl)
    (ht : eval (.Call (.Attribute o m apos) (e :: es) [] pos) X.env = (do
      let ov ← eval o X.env
      standAt apos.atName
      let (f, first) ← holding [ov] (getMethod ov m pl)
      callWith pos f first (backTo pos (starEach (e :: es) X.env)) (backToKw pos (keywordEach [] X.env))) := by rfl) :
    PE X (.Call (.Attribute o m apos) (e :: es) [] pos) (tMeth C m sp [] E0 ta t) := by
  obtain ⟨g, fd, F, hm, hb⟩ := D.ex
  refine ⟨fun pins s σ H Q I h => ?_⟩
  refine PySem.W.methodCall_KW (pl := pl) (thn (ho.run pins s σ H _ I h) fun u s1 ⟨y, H1, I1, ry, a, dx, fs, ey, ea, l, q⟩ => ?_) ht
  subst ey
  cases ry
  refine getmeth_ok I1 ea D.cl hm l ?_
  refine PySem.W.callWith_K (first := [.ref a]) (h₀ := X.base) I.ok.mod.kin hm.kp (thn (ha.run pos pins s1 σ H1 _ I1 q) fun us s2 ⟨vs, H2, I2, r, q2⟩ => ⟨I2.kIn, ?_⟩) hst hpl
  simp only [List.append_nil] at q2
  exact run_fnQ (us := .ref a :: us) (vs := .ref a :: vs) F hr hb I2 (.cons rfl r) q2
theorem pe_mthQ0 (D : MthQ X.prog X.w X.K X.mg X.base k C m ps sp) (hr : L2H.RoomH k X.A) {pl : Sem Bool} (ho : PE X o ta)
    (ht : eval (.Call (.Attribute o m apos) [] [] pos) X.env = (do
      let ov ← eval o X.env
      standAt apos.atName
      let (f, first) ← holding [ov] (getMethod ov m pl)
      callWith pos f first (backTo pos (starEach [] X.env)) (backToKw pos (keywordEach [] X.env))) := by rfl) :
    PE X (.Call (.Attribute o m apos) [] [] pos) (tMeth C m sp [] E0 ta tNil) := by
  obtain ⟨g, fd, F, hm, hb⟩ := D.ex
  refine ⟨fun pins s σ H Q I h => ?_⟩
  refine PySem.W.methodCall_KW (pl := pl) (thn (ho.run pins s σ H _ I h) fun u s1 ⟨y, H1, I1, ry, a, dx, fs, ey, ea, l, q⟩ => ?_) ht
  subst ey
  cases ry
  refine getmeth_ok I1 ea D.cl hm l ?_
  exact PySem.W.callWith_K0 (first := [.ref a]) I1.kIn hm.kp (run_fnQ (us := [.ref a]) (vs := [.ref a]) F hr hb I1 (.cons rfl .nil) q)
end
end Eg
theorem L2H.RoomH.units {k : Nat} {A : PySem.Around} (r : L2H.RoomH k A) : A.units + 64 < PySem.cLine := by have := r.un; omega
theorem hu_ofH {A : PySem.Around} {k : Nat} (hr : L2H.RoomH k A) : A.units + 1 < PySem.cLine := by have := hr.un; omega

set_option Elab.async false
set_option linter.all false
set_option maxRecDepth 100000
set_option maxHeartbeats 4000000
/-! a lambda that is handed from def to def; an exception that is handed to a def -/
namespace Eg
open PySem PySem.Spec PyProof.Rows L2 Rl SX
/-! what stands below a call's frames stays -/
theorem un_less {fs fs' : List Addr} {H H' : Hp} {h h' : Heap} (u : Un fs' [] H H' h h') (m : ∀ b ∈ fs, b ∈ fs') (n : ∀ b ∈ fs', b ∈ fs ∨ h.get? b = none) : Un fs [] H H' h h' :=
  ⟨fun b o q e hb hx => u.keep b o q e (fun z => (n b z).elim hb fun y => by rw [y] at q; cases q) hx, fun b o q e hb hx => u.slot b o q e (m b hb) hx, u.free, u.there, u.tups, u.frzs, u.tbls⟩
/-- what the lambda at f does, called from any state that came out of (h0, H0) with the frames fs kept -/
structure LamV (P : Program) (w : World) (K : PySem.W.Frag) (mg : Str → Option Value) (base : Heap) (k : Nat) (fs : List Addr) (f : Addr) (H0 : Hp) (h0 : Heap) (tl : XK → Hp → VK → Prop) : Prop where
  obj : ∃ (q : Str) (params : Arguments) (body : Expr) (scope : Scope) (cl : List (Str × Addr)) (pm ctv : Value) (c' : Addr), h0.get? f = some (PySem.W.kla_obj "<lambda>" q params body scope cl pm c' ctv)
  non : H0 f = none
  nfr : f ∉ fs
  run : ∀ (A : Around) (outer : List Env) (s : Shared) (HZ : Hp) (Q : VK) (E : XK), Room k A → Env0 P w K mg base A outer s HZ → Un fs [] H0 HZ h0 s.heap → tl E HZ Q →
    codeAny (model P w) A (.call (.ref f) ⟨[], []⟩) (CR (L2.CX P w) outer P w HZ s Q E) s
section
variable {P : Program} {w : World} {K : PySem.W.Frag} {mg : Str → Option Value} {base : Heap} {k : Nat} {fs fs' : List Addr} {f : Addr} {H0 H1 : Hp} {h0 h1 : Heap} {tl : XK → Hp → VK → Prop}
theorem LamV.step (l : LamV P w K mg base k fs f H0 h0 tl) (u : Un fs [] H0 H1 h0 h1) (m : ∀ b ∈ fs, b ∈ fs') (n : ∀ b ∈ fs', b ∈ fs ∨ h0.get? b = none) : LamV P w K mg base k fs' f H1 h1 tl := by
  obtain ⟨q, params, body, scope, cl, pm, ctv, c', e⟩ := l.obj
  refine ⟨⟨q, params, body, scope, cl, pm, ctv, c', u.keep f _ e l.non l.nfr (by simp)⟩, u.free f _ e l.non (by simp), fun z => (n f z).elim l.nfr (fun y => by rw [y] at e; cases e), fun A outer s HZ Q E hr e0 u2 h => ?_⟩
  exact l.run A outer s HZ Q E hr e0 (un_less ((u.mono m (fun b hb => hb)).trans u2) m n) h
end
/-- a def that gets a lambda first -/
structure FnL (P : Program) (w : World) (K : PySem.W.Frag) (mg : Str → Option Value) (base : Heap) (k kl : Nat) (g : Addr) (fd : FuncData) (ps : List Str) (sp : (XK → Hp → VK → Prop) → Sp) : Prop where
  len : ∀ tl vs H Q E, sp tl vs H Q E → vs.length + 1 = ps.length
  run : ∀ (A : Around) (outer : List Env) (s : Shared) (H : Hp) (us : List Value) (vs : List V) (Q : VK) (f : Addr) (tl : XK → Hp → VK → Prop), Room k A → Env0 P w K mg base A outer s H → BindsTo s fd ⟨.ref f :: us, []⟩ (ps.zip (.ref f :: us)) → Vals vs us →
    LamV P w K mg base kl (frs outer) f H s.heap tl → sp tl vs H Q E0 → codeAny (model P w) A (.call (.ref g) ⟨.ref f :: us, []⟩) (CR CX0 outer P w H s Q E0) s
structure DfnL (P : Program) (w : World) (K : PySem.W.Frag) (mg : Str → Option Value) (base : Heap) (k kl : Nat) (x : Str) (ps : List Str) (sp : (XK → Hp → VK → Prop) → Sp) : Prop where
  ex : ∃ (g : Addr) (fd : FuncData), FnL P w K mg base k kl g fd ps sp ∧ mg x = some (.ref g) ∧ PySem.W.keepIn K (.ref g) = true ∧ Binds K fd ps []
section
variable {P : Program} {w : World} {K : PySem.W.Frag} {mg : Str → Option Value} {base : Heap}
theorem okL {x : Str} {st : Stmt} {g : Addr} {fd : FuncData} {N ps : List Str} {k kl : Nat} {sp : (XK → Hp → VK → Prop) → Sp} (F : Fun K x x st g fd) (S : FnScope N ps (defScope st)) (len : ∀ tl vs H Q E, sp tl vs H Q E → vs.length + 1 = ps.length)
    (hbody : ∀ (cdv : Value) (A : Around) (outer : List Env) (s : Shared) (H : Hp) (vs : List V) (Q : VK) (f : Addr) (tl : XK → Hp → VK → Prop), Room k (A.deeper (envOfC x (defScope st) s.heap.objs.size g cdv)) → LamV P w K mg base kl (frs outer) f H s.heap tl → sp tl vs H Q E0 →
      ∃ t, PSs (cxOf CX0 P w K mg base N x (defScope st) g cdv A outer s H E0).nox (defBody st) t ∧ t { nx := fun _ H' => Q .non H', rt := Q } (start N (.ref f :: vs)) H) : FnL P w K mg base (k + 1) kl g fd ps sp := by
  obtain ⟨oc, od, kV, doc, pm, an, cdv, ct, osl, rfl, lk, hcd⟩ := F.ex
  refine ⟨len, fun A outer s H us vs Q f tl hr e0 hb r hl hsp => LamX.run_ofS lk hcd S hr e0 hb (vs := .ref f :: vs) (.cons rfl r) (len tl vs H Q E0 hsp) fun hr' => ?_⟩
  obtain ⟨t, h, q⟩ := hbody cdv A outer s H vs Q f tl hr' hl hsp
  exact ⟨t, h.nox, q⟩
end
/-! calls of it, calls that hand it on -/
def tLamC (i : Nat) (f : Addr) (tl : XK → Hp → VK → Prop) (W : WX) : TE := fun σ H Q => σ[i]? = some (some (.ref f)) ∧ tl (WE W σ) H Q
def tFwd (i : Nat) (f : Addr) (sp : (XK → Hp → VK → Prop) → Sp) (tl : XK → Hp → VK → Prop) (t : TA) : TE := fun σ H Q => σ[i]? = some (some (.ref f)) ∧ t σ H fun vs H1 => sp tl vs H1 Q E0
section
variable {X : Cx} {k kl i : Nat} {f : Addr} {tl : XK → Hp → VK → Prop} {W : WX} {a x : Str} {p1 p2 pos : Pos} {ps : List Str} {sp : (XK → Hp → VK → Prop) → Sp} {es : List Expr} {t : TA}
theorem pe_lamc (hL : LamV X.prog X.w X.K X.mg X.base k X.fs f X.H_0 X.s_0.heap tl) (hex : X.ex = []) (hr : Room k X.A) (tk : Takes X W) (hN : X.N[i]? = some a := by rfl) (hv : Vis X.env.scope a := by first | exact Or.inl rfl | exact Or.inr (Or.inl rfl) | exact Or.inr (Or.inr rfl)) (hd : (a == ("__debug__" : Str)) = false := by decide)
    (hcd : (a == ("__classdict__" : Str)) = false := by decide) : PE X (.Call (.Name a p1) [] [] p2) (tLamC i f tl W) := by
  refine ⟨fun pins s σ H Q I h => ?_⟩
  obtain ⟨hs, ht⟩ := h
  refine wpAny_Call_Name_kw (thn ((pe_var (pos := p1) (i := i) hN hv hd hcd).run pins s σ H (fun v H1 => v = .ref f ∧ H1 = H) I ⟨.ref f, hs, rfl, rfl⟩) fun u s1 ⟨v, H1, I1, r1, ev, eH⟩ => ?_)
  subst ev eH
  cases r1
  have u1 : Un X.fs [] X.H_0 H1 X.s_0.heap s1.heap := by have := I1.base; rwa [hex] at this
  have L1 := hL.step u1 (fun _ hb => hb) fun _ hb => .inl hb
  obtain ⟨q, params, body, scope, cl, pm, ctv, c', e⟩ := L1.obj
  refine PySem.W.callWith_F0 ⟨_, _, _, _, e⟩ (wpAny_call (codeAny_mono (hL.run X.A X.stack s1 H1 Q (WE W σ) hr I1.env0 u1 ht) fun r s' hq => ?_))
  cases r with
  | error er => exact passAt tk σ pins H1 s1 er s' I1 hq
  | ok fl =>
    cases fl with
    | ret u => exact I1.after hq
    | next => exact False.elim hq
    | brk => exact False.elim hq
    | cont => exact False.elim hq
theorem run_fnL {pins : List (Addr × Obj)} {σ : L2.St} {H : Hp} {s : Shared} {Q : VK} {us : List Value} {vs : List V} {g : Addr} {fd : FuncData} (F : FnL X.prog X.w X.K X.mg X.base k kl g fd ps sp) (hr : Room k X.A) (hb : Binds X.K fd ps [])
    (I : Inv X pins σ H s) (r : Vals vs us) (hL : LamV X.prog X.w X.K X.mg X.base kl (frs X.stack) f H s.heap tl) (h : sp tl vs H Q E0) : wpAny (model X.prog X.w) X.A (call (.ref g) (.ref f :: us)) (EP X pins σ Q) X.xe s := by
  have hl : (Value.ref f :: us).length = ps.length := by rw [List.length_cons, ← r.length]; exact F.len _ _ _ _ _ h
  have b := hb s (.ref f :: us) I.kIn (by rw [List.append_nil]; exact hl)
  rw [List.append_nil] at b
  refine wpAny_call (codeAny_mono (F.run X.A X.stack s H us vs Q f tl hr I.env0 b r hL h) fun r s' hq => ?_)
  cases r with
  | error e => exact False.elim hq
  | ok fl =>
    cases fl with
    | ret u => exact I.after hq
    | next => exact False.elim hq
    | brk => exact False.elim hq
    | cont => exact False.elim hq
theorem pe_fwd (D : DfnL X.prog X.w X.K X.mg X.base k kl x ps sp) (hL : LamV X.prog X.w X.K X.mg X.base kl X.fs f X.H_0 X.s_0.heap tl) (hex : X.ex = []) (hst : X.stack = X.env :: X.outer) (hfl : X.env.frame = some X.env.locals) (hr : Room k X.A) (hg : Gl X x) (ha : PA X es t)
    (hN : X.N[i]? = some a := by rfl) (hv : Vis X.env.scope a := by first | exact Or.inl rfl | exact Or.inr (Or.inl rfl) | exact Or.inr (Or.inr rfl)) (hd : (a == ("__debug__" : Str)) = false := by decide)
    (hcd : (a == ("__classdict__" : Str)) = false := by decide) (hdb : (x == ("__debug__" : Str)) = false := by decide)
    (he : starEach (.Name a p2 :: es) X.env = (false, eval (.Name a p2) X.env) :: starEach es X.env := by rfl) (hpl : (backTo pos (starEach es X.env)).any (·.1) = false := by rfl) :
    PE X (.Call (.Name x p1) (.Name a p2 :: es) [] pos) (tFwd i f sp tl t) := by
  obtain ⟨g, fd, F, hm, hk, hb⟩ := D.ex
  refine ⟨fun pins s σ H Q I h => ?_⟩
  obtain ⟨hs, ht⟩ := h
  refine wpAny_Call_Name_kw (ld_glob I hg hm ?_ hdb)
  refine PySem.W.callWith_K (h₀ := X.base) I.ok.mod.kin hk ?_ he hpl
  rw [he]
  show wpAny _ _ (spliced ((false, eval (.Name a p2) X.env) :: backTo pos (starEach es X.env))) _ _ _
  refine Calls.spliced_cons (thn ((pe_var (pos := p2) (i := i) hN hv hd hcd).run pins _ σ H (fun v H1 => v = .ref f ∧ H1 = H) I ⟨.ref f, hs, rfl, rfl⟩) fun u s1 ⟨v, H1, I1, r1, ev, eH⟩ => ?_)
  subst ev eH
  cases r1
  refine thn (ha.run pos pins s1 σ H1 _ I1 ht) fun us s2 ⟨vs, H2, I2, r, q⟩ => ⟨I2.kIn, run_fnL F hr hb I2 r ?_ q⟩
  have u2 : Un X.fs [] X.H_0 H2 X.s_0.heap s2.heap := by have := I2.base; rwa [hex] at this
  refine hL.step u2 (fun b hb => ?_) fun b hb => ?_
  · rw [hst]
    show b ∈ List.filterMap (·.frame) (X.env :: X.outer)
    rw [List.filterMap_cons, hfl]
    exact List.mem_cons_of_mem _ hb
  · rw [hst] at hb
    have hb : b ∈ List.filterMap (·.frame) (X.env :: X.outer) := hb
    rw [List.filterMap_cons, hfl] at hb
    rcases List.mem_cons.mp hb with e | e
    · refine .inr ?_
      rw [e]
      exact Heap.get?_none_of_le I2.ok.above
    · exact .inl e
/-! a lambda without parameters, made as the first argument -/
def tLam2 (T : List (Addr × Str)) (q : Str) (sp : (XK → Hp → VK → Prop) → Sp) (t : XK → TE) (ta : TA) : TE := fun σ H Q => LamX.Tabs T H ∧ ∀ H1, LamX.ExtN H H1 → LamX.Tabs T H1 → ∀ c', H1 c' = some (LamX.CodeO c' q) →
  ta σ H1 fun vs H2 => sp (fun E HZ Q' => HZ c' = some (LamX.CodeO c' q) ∧ t E σ HZ Q') vs H2 Q E0
theorem pe_lam {T : List (Addr × Str)} {c P : Addr} {params : Arguments} {body : Expr} {scope : Scope} {tb : XK → TE} {lpos : Pos} (D : DfnL X.prog X.w X.K X.mg X.base k (kl + 1) x ps sp) (hr : Room k X.A) (hg : Gl X x) (ha : PA X es t)
    (TB : LamX.TabB X.base X.mg c P) (hcode : X.env.code = .ref c) (hmT : (P, X.env.qual ++ "<lambda>") ∈ T) (hu : ∀ p ∈ T, p.1 = P → p.2 = X.env.qual ++ "<lambda>") (L : LamX.LamS X.env.scope scope) (hdef : defaultsOf params X.env = ([], []))
    (hbind : ∀ (q : Str) (cl : List (Str × Addr)) (pm cv ctv : Value), bindArgs (PySem.W.kla_fn "<lambda>" q params body scope cl pm cv ctv) ⟨[], []⟩ = pure [])
    (hbody : ∀ (A : Around) (outer : List Env) (s : Shared) (H : Hp) (E : XK) (f c' : Addr), Room kl (A.deeper (LamX.lamEnv X scope s.heap.objs.size f c')) → PE (LamX.lamCx X A outer s H E scope f c') body (tb E))
    (hst : X.stack = X.env :: X.outer) (hfl : X.env.frame = some X.env.locals) (hdb : (x == ("__debug__" : Str)) = false := by decide)
    (he : starEach (.Lambda params body scope lpos :: es) X.env = (false, eval (.Lambda params body scope lpos) X.env) :: starEach es X.env := by rfl) (hpl : (backTo pos (starEach es X.env)).any (·.1) = false := by rfl) :
    PE X (.Call (.Name x p1) (.Lambda params body scope lpos :: es) [] pos) (tLam2 T (X.env.qual ++ "<lambda>") sp tb t) := by
  obtain ⟨g, fd, F, hm, hk, hb⟩ := D.ex
  refine ⟨fun pins s σ H Q I h => ?_⟩
  obtain ⟨hT, h⟩ := h
  refine wpAny_Call_Name_kw (ld_glob I hg hm ?_ hdb)
  refine PySem.W.callWith_K (h₀ := X.base) I.ok.mod.kin hk ?_ he hpl
  rw [he]
  show wpAny _ _ (spliced ((false, eval (.Lambda params body scope lpos) X.env) :: backTo pos (starEach es X.env))) _ _ _
  refine Calls.spliced_cons (LamX.lam_make2 (I.tok _) TB hcode hmT hu hT hdef (L.has I.ok) fun f c' pm' ctv H1 s1 I1 eN T1 hf hfn hfr hco => ?_)
  rw [hst] at hfr
  have hfr2 : f ∉ X.env.locals :: frs X.outer := by
    have e : frs (X.env :: X.outer) = X.env.locals :: frs X.outer := by
      unfold frs
      rw [List.filterMap_cons, hfl]
    rwa [e] at hfr
  have hnl : f ≠ X.env.locals := fun z => hfr2 (by rw [z]; exact List.mem_cons_self)
  have hnf : f ∉ X.fs := fun z => hfr2 (List.mem_cons_of_mem _ z)
  generalize eo : PySem.W.kla_obj "<lambda>" (X.env.qual ++ "<lambda>") params body scope (cloFrom X.env.cells scope.names []) pm' c' ctv = o at hf
  have J1 : Inv X (pins ++ [(f, o)]) σ H1 s1 := I1.pins_of fun p hp => by
    rcases List.mem_append.mp hp with z | z
    · exact I1.pin p (List.mem_append_right _ z)
    · rw [List.mem_singleton.mp z]
      refine ⟨hf, hfn, hnl, hnf, fun v z => ?_⟩
      rw [← eo] at z
      cases z
  refine thn (ha.run pos _ s1 σ H1 _ J1 (h H1 eN T1 c' hco)) fun us s2 ⟨vs, H2, J2, r, q⟩ => ?_
  have I2 := J2.unpinned
  obtain ⟨hf2, hn2, _⟩ := J2.pin (f, o) (List.mem_append_right _ (List.mem_append_right _ (List.mem_singleton.mpr rfl)))
  refine ⟨I2.kIn, run_fnL F hr hb I2 r ⟨⟨_, _, _, _, _, _, _, _, by rw [eo]; exact hf2⟩, hn2, by rw [hst]; exact hfr, fun A outer s HZ Q' E hr' e0 u ⟨hcz, ht⟩ => ?_⟩ q⟩
  have u0 := u
  obtain ⟨⟨oc, us', t', hoc, hdc, hvc⟩, _, _⟩ := e0.hok c' _ hcz
  have of1 : s.heap.get? f = some (PySem.W.kla_obj "<lambda>" (X.env.qual ++ "<lambda>") params body scope (cloFrom X.env.cells scope.names []) pm' c' ctv) := by
    rw [eo]
    exact u.keep f _ hf2 hn2 (by rw [hst]; exact hfr) (by simp)
  refine PySem.W.kla_callFunE hr'.depth of1 rfl L.co L.gen rfl ⟨c', oc, us', t', rfl, hoc, hdc, hvc⟩ ?_
  rw [hbind]
  have hnl' : s.heap.NoLimit := e0.mod.nolimit.keeps fun b o e => (e0.bs b o e).1
  refine wpAny_pure (wpAny_newFunctionEnv (fun y hy => (L.own y hy).2) (fun y hy => absurd hy (by simp)) (fun h₁ hns hsb => ⟨hnl'.fresh _ hsb, ?_⟩) L.kind)
  have kp : ∀ b o, s.heap.get? b = some o → h₁.get? b = some o := fun b o e => hsb.extBut b o (Nat.ne_of_lt (Heap.lt_size e)) (Heap.get?_push_of_some _ e)
  have J := LamX.lam_start2 (E := E) (f := f) (c' := c') (tk := s.toks + ([] : List (Str × Value)).length) I2 L e0 hr'.hd u0 hns kp
  refine PySem.W.kla_codeExpr (wpAny_mono ((hbody A outer s HZ E f c' (hr'.deeper _)).run [] _ _ HZ Q' J ht) (fun v s' hq => ?_) fun e s' hq => hq)
  obtain ⟨w', H', J', rv, q⟩ := hq
  exact ⟨w', H', J'.os, J'.bare, J'.base, J'.hok, rv, q⟩
theorem i_lam2 {T : List (Addr × Str)} {q : Str} {tb : XK → TE} {ta : TA} {σ : L2.St} {H : Hp} {Q : VK} (hT : LamX.Tabs T H) (h : ∀ H1, LamX.ExtN H H1 → LamX.Tabs T H1 → ∀ c', H1 c' = some (LamX.CodeO c' q) → ta σ H1 fun vs H2 => sp (fun E HZ Q' => HZ c' = some (LamX.CodeO c' q) ∧ tb E σ HZ Q') vs H2 Q E0) : tLam2 T q sp tb ta σ H Q := ⟨hT, h⟩
/-- the name of the lambdas of a def -/
abbrev lq (x : Str) : Str := (x ++ ".<locals>.") ++ "<lambda>"
end
end Eg

set_option Elab.async false
set_option linter.all false
set_option maxRecDepth 100000
set_option maxHeartbeats 4000000
namespace Eg
open PySem PySem.Spec PyProof.Rows L2 Rl SX
/-- what isinstance asks of an exception's class -/
structure XisC (K : PySem.W.Frag) (D : Addr) : Prop where
  hcl : (PySem.W.clsIn K D).isSome = true
  hga : PySem.W.findIn K (.ref D) "__getattribute__" = some (some (.builtin "BaseException.__getattribute__"))
  hgt : PySem.W.findIn K (.ref D) "__getattr__" = some none
  hsub : PySem.W.subIn K (.ref D) (.type "BaseException") = some true
  ha : PySem.W.findIn K (.ref D) "__class__" = some (some (.builtin "object.__class__"))
  hn : PySem.W.specialIn K (.builtin "object.__class__") "__get__" = some (some (.builtin "getset_descriptor.__get__"))
  htk : PySem.W.takesIn K (.builtin "object.__class__") = some true
  hm : PySem.W.mroIn K D (.type "object") = some true
/-- the caught exception, asked by isinstance: one class or a tuple of them that was just laid -/
def rIsX (K : PySem.W.Frag) (a : Addr) (cls : Value) (d : Option Addr) : List V → Hp → VK → Prop := fun xs H Q => ∃ (D dd : Addr) (fs : List (Str × V)) (c : V) (b : Bool), xs = [.ref a, c] ∧ cls = .ref D ∧ XisC K D ∧ d = some dd ∧ H dd = some (.xd fs) ∧
  ((∃ cv, ClsV c cv ∧ PySem.W.kitOne K (.ref D) cv = some b) ∨ ∃ (tp : Addr) (cs : List V) (us : List Value), c = .ref tp ∧ H tp = some (.tup cs) ∧ Paired ClsV cs us ∧ PySem.W.kitAny K (.ref D) us = some b) ∧ Q (.bl b) H
/-- its field -/
def tXfA (K : PySem.W.Frag) (a : Addr) (cls : Value) (d : Option Addr) (f : Str) (te : TE) : TE := fun σ H Q => te σ H fun x H1 => ∃ (C dd : Addr) (fs : List (Str × V)) (v : V), x = .ref a ∧ cls = .ref C ∧ XfC K C ∧ PySem.W.findIn K (.ref C) f = some none ∧ d = some dd ∧ H1 dd = some (.xd fs) ∧ fs.lookup f = some v ∧ Q v H1
section
variable {X : Cx} {a : Addr} {cls : Value} {d : Option Addr} {oe : Obj} {pn : List (Addr × Obj)} {e : Expr} {te : TE} {pos : Pos} {n : Str}
theorem inst_at {X : Cx} {C dd : Addr} {fs : List (Str × V)} {pins : List (Addr × Obj)} {σ : L2.St} {H : Hp} {s : Shared} (I : Inv (X.suite a ((a, oe) :: pn)) pins σ H s) (hz : Zc (.ref C) (some dd) oe) (hf : ∃ vs, oe.data = .fields vs) (ea : H dd = some (.xd fs)) :
    ∃ od, PySem.W.InstAt s.heap a oe C (some od) ∧ ∀ v, fs.lookup n = some v → ∃ u, PySem.W.lookIn n od = some (some u) ∧ RelV v u := by
  obtain ⟨ha, _⟩ := I.pin (a, oe) (List.mem_append_left _ List.mem_cons_self)
  obtain ⟨vs, hd⟩ := hf
  obtain ⟨mA, hns, hr⟩ := (show ObjOk X.prog X.w H s.heap dd (.xd fs) from I.hok dd _ ea)
  obtain ⟨od, ho, hl⟩ := lookIn_ns hns
  refine ⟨od, ⟨ha, hz.1, by unfold PySem.W.notCls; rw [hd] <;> rfl, by rw [hz.2]; exact ho⟩, fun v l => ?_⟩
  obtain ⟨u, hu, ru⟩ := RelO.some_of (v := v) (o := mA n) (by rw [← l]; exact hr n)
  exact ⟨u, by rw [hl, hu], ru⟩
theorem pe_xfA (hz : Zc cls d oe) (hf : ∃ vs, oe.data = .fields vs) (he : PE (X.suite a ((a, oe) :: pn)) e te) (hb : attributeBase e n X.env (eval e X.env) = eval e X.env := by rfl) :
    PE (X.suite a ((a, oe) :: pn)) (.Attribute e n pos) (tXfA X.K a cls d n te) := by
  refine ⟨fun pins s σ H Q I h => attr_of hb (thn (he.run pins s σ H _ I h) fun u s1 ⟨x, H1, I1, rx, C, dd, fs, v, ex, ec, T, hno, ed, ea, l, q⟩ => ?_)⟩
  subst ex ec ed
  cases rx
  obtain ⟨od, J, g⟩ := inst_at (n := n) I1 hz hf ea
  obtain ⟨u, hu, ru⟩ := g v l
  exact HandSPX.exc_get I1.kIn J T.ga T.gg T.exC (PySem.W.findObj_own T.hdC hno rfl hu) (handed_of ru) ⟨v, H1, I1.tok _, ru, q⟩
theorem call_isX (hz : Zc cls d oe) (hf : ∃ vs, oe.data = .fields vs) : CallR (X.suite a ((a, oe) :: pn)) (.builtin "isinstance") (rIsX X.K a cls d) := by
  intro pins s σ H xs us Q I r h
  obtain ⟨D, dd, fs, c, b, rfl, ec, T, ed, ea, h, q⟩ := h
  subst ec ed
  obtain ⟨u1, u2, rfl, r1, r2⟩ := vals2 r
  cases (show u1 = Value.ref a from r1)
  obtain ⟨od, J, _⟩ := inst_at (n := "x") I hz hf ea
  have Z := PySem.W.kitx_exc (x := a) (ox := oe) (od := some od) T.hcl T.hga T.hgt T.hsub T.ha T.hn T.htk T.hm
  rcases h with ⟨cv, k, e1⟩ | ⟨tp, cs, ws, ec, hT, k, e1⟩
  · have e2 := k.eq r2
    subst e2
    exact PySem.W.kia_one Z I.kIn J e1 (fun z => nomatch z) fun tk => ⟨.bl b, H, I.tok tk, rfl, q⟩
  · subst ec
    cases (show u2 = Value.ref tp from r2)
    obtain ⟨_, its, rv, o, h1, h2, m, h3⟩ := (show ObjOk X.prog X.w H s.heap tp (.tup cs) from I.hok tp _ hT)
    have e3 := ClsV.all k rv
    subst e3
    obtain ⟨oc, od', dt, sl⟩ := o
    simp only at h2 h3
    subst h2 h3
    exact PySem.W.kia_tup Z I.kIn J h1 e1 (fun z => nomatch z) fun tk => ⟨.bl b, H, I.tok tk, rfl, q⟩
end
/-! a def that gets the caught exception -/
structure FnE (P : Program) (w : World) (K : PySem.W.Frag) (mg : Str → Option Value) (base : Heap) (k : Nat) (g : Addr) (fd : FuncData) (ps : List Str) (sp : Value → Option Addr → Sp) : Prop where
  one : ps.length = 1
  run : ∀ (A : Around) (outer : List Env) (s : Shared) (H : Hp) (Q : VK) (a : Addr) (oe : Obj) (cls : Value) (d : Option Addr), L2H.RoomH k (A.mark (some (.ref a))) → L2H.PinOk outer H s (a, oe) → Zc cls d oe → (∃ vs, oe.data = .fields vs) → Env0 P w K mg base (A.mark (some (.ref a))) outer s H →
    BindsTo s fd ⟨[.ref a], []⟩ (ps.zip [.ref a]) → sp cls d [.ref a] H Q E0 → codeAny (model P w) (A.mark (some (.ref a))) (.call (.ref g) ⟨[.ref a], []⟩) (CR CX0 outer P w H s Q E0) s
structure DfnE (P : Program) (w : World) (K : PySem.W.Frag) (mg : Str → Option Value) (base : Heap) (k : Nat) (x : Str) (ps : List Str) (sp : Value → Option Addr → Sp) : Prop where
  ex : ∃ (g : Addr) (fd : FuncData), FnE P w K mg base k g fd ps sp ∧ mg x = some (.ref g) ∧ PySem.W.keepIn K (.ref g) = true ∧ Binds K fd ps []
section
variable {P : Program} {w : World} {K : PySem.W.Frag} {mg : Str → Option Value} {base : Heap}
theorem okE {x : Str} {st : Stmt} {g : Addr} {fd : FuncData} {N ps : List Str} {k : Nat} {sp : Value → Option Addr → Sp} (F : Fun K x x st g fd) (S : FnScope N ps (defScope st)) (one : ps.length = 1)
    (hbody : ∀ (cdv : Value) (A : Around) (outer : List Env) (s : Shared) (H : Hp) (Q : VK) (a : Addr) (oe : Obj) (cls : Value) (d : Option Addr), L2H.RoomH k ((A.deeper (envOfC x (defScope st) s.heap.objs.size g cdv)).mark (some (.ref a))) → Zc cls d oe → (∃ vs, oe.data = .fields vs) → sp cls d [.ref a] H Q E0 →
      ∃ t, PSs ((cxOf CX0 P w K mg base N x (defScope st) g cdv A outer s H E0).suite a [(a, oe)]) (defBody st) t ∧ t { nx := fun _ H' => Q .non H', rt := Q } (start N [.ref a]) H) : FnE P w K mg base (k + 1) g fd ps sp := by
  obtain ⟨oc, od, kV, doc, pm, an, cdv, ct, osl, rfl, lk, hcd⟩ := F.ex
  refine ⟨one, fun A outer s H Q a oe cls d hr hp hz hf e0 hb hsp => ?_⟩
  have KX : K.In s.heap := e0.mod.kin.keeps fun b o e => (e0.bs b o e).1
  have hkind : ∀ y ∈ ps.zip [Value.ref a], (defScope st).names.lookup y.1 = some .local ∨ ((defScope st).names.lookup y.1 = some .cell ∧ ((cellsFrom (s.heap.objs.size + 1) (defScope st).names []).lookup y.1).isSome = true) := fun ⟨n, v⟩ hy =>
    (S.par n (List.of_mem_zip hy).1).elim .inl fun q => .inr ⟨q, PySem.W.cellsFrom_some _ _ _ (.inl q)⟩
  refine codeAny_call_function hr.depth (KX _ _ lk) rfl S.co S.gen rfl (PySem.W.codeRec_of KX hcd) (hb _ _ _ _ (wpAny_newFunctionEnv_cells S.kind hkind fun env he s1 x1 => ?_))
  subst he
  refine ⟨(e0.mod.nolimit.keeps fun b o e => (e0.bs b o e).1).keeps x1.toInCall.keep, codeAny_func ?_⟩
  obtain ⟨t, ht, hq⟩ := hbody cdv A outer s H Q a oe cls d (hr.deeper _) hz hf hsp
  have I0 := L2H.inv_startH (CX := CX0) (E := E0) (f := g) (cd := cdv) S hp e0 (vs := [.ref a]) (by rw [one]; rfl) (.cons rfl .nil) x1
  have I : Inv ((cxOf CX0 P w K mg base N x (defScope st) g cdv A outer s H E0).suite a [(a, oe)]) [] (start N [.ref a]) H s1 := inv_around I0 (Around.frames_deeper e0.frames)
  refine wpAny_mono (ht.run [] s1 (start N [.ref a]) H _ I hq) (fun fl s' hs => ?_) fun e s' hs => hs.elim
  cases fl with
  | ret u =>
    obtain ⟨v, σ', H', J, rv, q⟩ := hs
    exact ⟨v, H', J.os, J.bare, J.base, J.hok, rv, q⟩
  | next =>
    obtain ⟨σ', H', J, q⟩ := hs
    exact ⟨.non, H', J.os, J.bare, J.base, J.hok, rfl, q⟩
  | brk => exact hs.elim fun _ h => h.elim fun _ h => h.2.elim
  | cont => exact hs.elim fun _ h => h.elim fun _ h => h.2.elim
end
/-- the call, in an except suite -/
def tCallE (i : Nat) (a : Addr) (cls : Value) (d : Option Addr) (sp : Value → Option Addr → Sp) : TE := fun σ H Q => σ[i]? = some (some (.ref a)) ∧ sp cls d [.ref a] H Q E0
section
variable {X : Cx} {a : Addr} {cls : Value} {d : Option Addr} {oe : Obj} {pn : List (Addr × Obj)} {k i : Nat} {x y : Str} {ps : List Str} {sp : Value → Option Addr → Sp} {p1 p2 pos : Pos}
theorem pe_dfnE (D : DfnE X.prog X.w X.K X.mg X.base k x ps sp) (hr : L2H.RoomH k (X.A.mark (some (.ref a)))) (hz : Zc cls d oe) (hf : ∃ vs, oe.data = .fields vs) (hg : Gl X x)
    (hN : X.N[i]? = some y := by rfl) (hv : Vis X.env.scope y := by first | exact Or.inl rfl | exact Or.inr (Or.inl rfl) | exact Or.inr (Or.inr rfl)) (hd : (y == ("__debug__" : Str)) = false := by decide)
    (hcd : (y == ("__classdict__" : Str)) = false := by decide) (hdb : (x == ("__debug__" : Str)) = false := by decide)
    (he : starEach [.Name y p2] X.env = (false, eval (.Name y p2) X.env) :: starEach [] X.env := by rfl) :
    PE (X.suite a ((a, oe) :: pn)) (.Call (.Name x p1) [.Name y p2] [] pos) (tCallE i a cls d sp) := by
  obtain ⟨g, fd, F, hm, hk, hb⟩ := D.ex
  refine ⟨fun pins s σ H Q I h => ?_⟩
  obtain ⟨hs, ht⟩ := h
  refine wpAny_Call_Name_kw (ld_glob I hg hm ?_ hdb)
  refine PySem.W.callWith_K (h₀ := X.base) I.ok.mod.kin hk ?_ he rfl
  rw [he]
  show wpAny _ _ (spliced ((false, eval (.Name y p2) X.env) :: backTo pos (starEach [] X.env))) _ _ _
  refine Calls.spliced_cons (thn ((pe_var (X := X.suite a ((a, oe) :: pn)) (pos := p2) (i := i) hN hv hd hcd).run pins _ σ H (fun v H1 => v = .ref a ∧ H1 = H) I ⟨.ref a, hs, rfl, rfl⟩) fun u s1 ⟨v, H1, I1, r1, ev, eH⟩ => ?_)
  subst ev eH
  cases r1
  refine Calls.spliced_nil ⟨I1.kIn, ?_⟩
  have hl : [Value.ref a].length = ps.length := F.one.symm
  have b := hb s1 [.ref a] I1.kIn (by rw [List.append_nil]; exact hl)
  rw [List.append_nil] at b
  have P1 := I1.pin (a, oe) (List.mem_append_left _ List.mem_cons_self)
  have hpin : L2H.PinOk X.stack H1 s1 (a, oe) := ⟨P1.1, P1.2.1, fun hm => (List.mem_cons.mp (I1.stkSub a hm)).elim P1.2.2.1 P1.2.2.2.1, P1.2.2.2.2⟩
  refine wpAny_call (codeAny_mono (F.run X.A X.stack s1 H1 Q a oe cls d hr hpin hz hf I1.env0 b ht) fun r s' hq => ?_)
  cases r with
  | error e => exact False.elim hq
  | ok fl =>
    cases fl with
    | ret u => exact I1.after hq
    | next => exact False.elim hq
    | brk => exact False.elim hq
    | cont => exact False.elim hq
end
/-- a def whose code object is known -/
theorem okC {P : Program} {w : World} {K : PySem.W.Frag} {mg : Str → Option Value} {base : Heap} {x qual : Str} {st : Stmt} {f c : Addr} {fd : FuncData} {N ps : List Str} {k : Nat} {sp : Sp} (F : Fun K x qual st f fd) (hc : fd.code = .ref c) (S : FnScope N ps (defScope st)) (len : ∀ vs H Q E, sp vs H Q E → vs.length = ps.length)
    (hbody : ∀ (A : Around) (outer : List Env) (s : Shared) (H : Hp) (vs : List V) (Q : VK) (E : XK), Room k (A.deeper (envOfC qual (defScope st) s.heap.objs.size f (.ref c))) → sp vs H Q E →
      ∃ t, PSs (cxOf CX0 P w K mg base N qual (defScope st) f (.ref c) A outer s H E).nox (defBody st) t ∧ t { nx := fun _ H' => Q .non H', rt := Q } (start N vs) H) : FnOk P w K mg base CX0 (k + 1) f fd ps sp := by
  obtain ⟨oc, od, kV, doc, pm, an, cdv, ct, osl, rfl, lk, hcd⟩ := F.ex
  obtain rfl : cdv = .ref c := hc
  refine fn_of lk hcd S len fun A outer s H vs Q E hr hsp => ?_
  obtain ⟨t, h, q⟩ := hbody A outer s H vs Q E hr hsp
  exact ⟨t, h.nox, q⟩
/-! stepping -/
section
variable {K : PySem.W.Frag} {σ : L2.St} {H : Hp} {Q : VK} {i : Nat} {f a : Addr} {tl : XK → Hp → VK → Prop} {W : WX} {spl : (XK → Hp → VK → Prop) → Sp} {t : TA} {cls : Value} {d : Option Addr} {sp : Value → Option Addr → Sp} {te : TE} {n : Str}
theorem i_lamc (h : σ[i]? = some (some (.ref f))) (k : tl (WE W σ) H Q) : tLamC i f tl W σ H Q := ⟨h, k⟩
theorem i_fwd (h : σ[i]? = some (some (.ref f))) (k : t σ H fun vs H1 => spl tl vs H1 Q E0) : tFwd i f spl tl t σ H Q := ⟨h, k⟩
theorem i_callE (h : σ[i]? = some (some (.ref a))) (k : sp cls d [.ref a] H Q E0) : tCallE i a cls d sp σ H Q := ⟨h, k⟩
def gXfA (K : PySem.W.Frag) (a : Addr) (cls : Value) (d : Option Addr) (f : Str) (x : V) (H1 : Hp) (Q : VK) : Prop := ∃ (C dd : Addr) (fs : List (Str × V)) (v : V), x = .ref a ∧ cls = .ref C ∧ XfC K C ∧ PySem.W.findIn K (.ref C) f = some none ∧ d = some dd ∧ H1 dd = some (.xd fs) ∧ fs.lookup f = some v ∧ Q v H1
theorem i_xfA (k : te σ H fun x H1 => gXfA K a cls d n x H1 Q) : tXfA K a cls d n te σ H Q := k
theorem g_xfA {C dd : Addr} {fs : List (Str × V)} {v : V} (T : XfC K C) (hn : PySem.W.findIn K (.ref C) n = some none) (h : H dd = some (.xd fs)) (l : fs.lookup n = some v) (k : Q v H) : gXfA K a (.ref C) (some dd) n (.ref a) H Q := ⟨C, dd, fs, v, rfl, rfl, T, hn, rfl, h, l, k⟩
theorem g_isx {D dd : Addr} {fs : List (Str × V)} {c : V} {cv : Value} {b : Bool} (T : XisC K D) (h : H dd = some (.xd fs)) (hc : ClsV c cv) (e : PySem.W.kitOne K (.ref D) cv = some b) (k : Q (.bl b) H) : rIsX K a (.ref D) (some dd) [.ref a, c] H Q := ⟨D, dd, fs, c, b, rfl, rfl, T, rfl, h, .inl ⟨cv, hc, e⟩, k⟩
theorem g_isxT {D dd tp : Addr} {fs : List (Str × V)} {cs : List V} {us : List Value} {b : Bool} (T : XisC K D) (h : H dd = some (.xd fs)) (ht : H tp = some (.tup cs)) (hc : Paired ClsV cs us) (e : PySem.W.kitAny K (.ref D) us = some b) (k : Q (.bl b) H) : rIsX K a (.ref D) (some dd) [.ref a, .ref tp] H Q := ⟨D, dd, fs, _, b, rfl, rfl, T, rfl, h, .inr ⟨tp, cs, us, rfl, ht, hc, e⟩, k⟩
end
end Eg

set_option Elab.async false
set_option linter.all false
set_option maxRecDepth 100000
set_option maxHeartbeats 4000000
namespace Eg
open PySem PySem.Spec PyProof.Rows L2 Rl SX
theorem bt_ValueError : bootBuiltins "ValueError" = some (.type "ValueError") := by decide +kernel
/-! lists of numbers compared -/
section
variable {K : PySem.W.Frag} {H : Hp} {Q : VK}
theorem dp_ints : ∀ (l : List Int), DpAll K H (l.map V.int) (l.map PyData.int)
  | [] => .nil
  | a :: l => .cons (.int _) (dp_ints l)
theorem can_ints : ∀ (l : List Int), PyData.canLayAll0 (l.map PyData.int) = true
  | [] => rfl
  | a :: l => by
    show (PyData.canLay0 (.int a) && PyData.canLayAll0 (l.map PyData.int)) = true
    rw [can_ints l]
    rfl
theorem dep_ints : ∀ (l : List Int), PyData.depthAll (l.map PyData.int) = 0
  | [] => rfl
  | a :: l => by
    show max (PyData.depth (.int a)) (PyData.depthAll (l.map PyData.int)) = 0
    rw [dep_ints l]
    rfl
theorem sh_ints (l : List Int) : SeqAt.shaped (.list (l.map PyData.int)) = true := by
  show (PyData.canLayAll0 _ && decide (PyData.depthAll _ + 1 ≤ 64)) = true
  rw [can_ints l, dep_ints]
  rfl
theorem eqv_int (a b : Int) : PyData.eqv (.int a) (.int b) = decide (a = b) := by
  simp only [PyData.eqv]
  by_cases h : a = b <;> simp [h]
theorem eqv_ints : ∀ (l m : List Int), PyData.eqvAll (l.map PyData.int) (m.map PyData.int) = decide (l = m)
  | [], [] => by simp [PyData.eqvAll]
  | [], _ :: _ => by simp [PyData.eqvAll]
  | _ :: _, [] => by simp [PyData.eqvAll]
  | a :: l, b :: m => by
    simp only [List.map_cons, PyData.eqvAll, eqv_int, eqv_ints l m]
    by_cases h : a = b <;> by_cases h2 : l = m <;> simp [h, h2]
theorem eqv_intsL (l m : List Int) : PyData.eqv (.list (l.map PyData.int)) (.list (m.map PyData.int)) = decide (l = m) := by
  simp only [PyData.eqv]
  exact eqv_ints l m
theorem g_eqB {a b : Bool} (k : Q (.bl (decide (a = b))) H) : uEq K (.bl a) (.bl b) H Q := by
  refine .inr ⟨.bool a, .bool b, .bl a, .bl b, rfl, rfl, ?_⟩
  have z : PyData.eqv (.bool a) (.bool b) = decide (a = b) := by cases a <;> cases b <;> rfl
  rw [z]
  exact k
theorem g_eqIL {a b : Addr} {l m : List Int} (ha : SqL K H a (l.map V.int)) (hb : SqL K H b (m.map V.int)) (k : Q (.bl (decide (l = m))) H) : uEq K (.ref a) (.ref b) H Q := by
  refine .inr ⟨.list (l.map .int), .list (m.map .int), .lst ha (dp_ints l), .lst hb (dp_ints m), sh_ints l, sh_ints m, ?_⟩
  rw [eqv_intsL]
  exact k
theorem g_neIL {a b : Addr} {l m : List Int} (ha : SqL K H a (l.map V.int)) (hb : SqL K H b (m.map V.int)) (k : Q (.bl (!decide (l = m))) H) : uNe K (.ref a) (.ref b) H Q := by
  refine .inr ⟨.list (l.map .int), .list (m.map .int), .lst ha (dp_ints l), .lst hb (dp_ints m), sh_ints l, sh_ints m, ?_⟩
  rw [eqv_intsL]
  exact k
end
end Eg

set_option Elab.async false
set_option linter.all false
set_option maxRecDepth 100000
set_option maxHeartbeats 4000000
namespace Eg
open PySem PySem.Spec PyProof.Rows L2 Rl SX
section
variable {K : PySem.W.Frag} {σ : L2.St} {H : Hp} {Q : VK} {ta tb : TE}
def gLstRg (x y : V) (H : Hp) (Q : VK) : Prop := ∃ i j, x = .int i ∧ y = .int j ∧ RgOk i j ∧ ∀ q, H q = none → Q (.ref q) (upd H q (.lst (rgV i j)))
theorem i_lstRg2 (k : ta σ H fun x H1 => tb σ H1 fun y H2 => gLstRg x y H2 Q) : tLstRg (tRg2 ta tb) σ H Q := k
theorem g_lstRg {i j : Int} (h : -1000 ≤ i ∧ i ≤ j ∧ j ≤ 100000) (k : ∀ q H', H q = none → Same H H' → H' q = some (.lst ((List.range (j - i).toNat).map fun m => V.int (i + (m : Nat)))) → Q (.ref q) H') : gLstRg (.int i) (.int j) H Q :=
  ⟨i, j, rfl, rfl, ⟨by omega, by omega, by omega, by omega, by omega⟩, fun q hq => k q _ hq (fun b u e => by rw [upd_ne (ne_of_none e hq)]; exact e) upd_same⟩
theorem g_notInL {p : Addr} {a : Int} {xs : List V} (h : SqL K H p xs) (hf : xs.all flatV = true) (k : Q (.bl (!inV (.int a) xs)) H) : uNotIn K (.int a) (.ref p) H Q := .inr ⟨p, xs, rfl, .inl h, rfl, hf, k⟩
theorem g_inL {p : Addr} {a : Int} {xs : List V} (h : SqL K H p xs) (hf : xs.all flatV = true) (k : Q (.bl (inV (.int a) xs)) H) : uIn K (.int a) (.ref p) H Q := .inr ⟨p, xs, rfl, .inl h, rfl, hf, k⟩
theorem pi_listK {X : Cx} {tg e : Expr} {te : TE} (h : X.K = K) (he : PE X e te) : PI X tg e (iList K te) := by subst h; exact pi_list he
theorem g_neB {a b : Bool} (k : Q (.bl (!decide (a = b))) H) : uNe K (.bl a) (.bl b) H Q := by
  refine .inr ⟨.bool a, .bool b, .bl a, .bl b, rfl, rfl, ?_⟩
  have z : PyData.eqv (.bool a) (.bool b) = decide (a = b) := by cases a <;> cases b <;> rfl
  rw [z]
  exact k
def uIsB : R2 := fun x y H Q => ∃ a b, x = .bl a ∧ y = .bl b ∧ Q (.bl (decide (a = b))) H
theorem op_uIsB {X : Cx} : OpR X (compareOp .Is) uIsB := op_is_bl
def uNotB : R2 := fun x y H Q => ∃ a b, x = .bl a ∧ y = .bl b ∧ Q (.bl (!decide (a = b))) H
theorem op_uNotB {X : Cx} : OpR X (compareOp .IsNot) uNotB := op_isnot_bl
theorem g_isB {a b : Bool} (k : Q (.bl (decide (a = b))) H) : uIsB (.bl a) (.bl b) H Q := ⟨a, b, rfl, rfl, k⟩
theorem g_notB {a b : Bool} (k : Q (.bl (!decide (a = b))) H) : uNotB (.bl a) (.bl b) H Q := ⟨a, b, rfl, rfl, k⟩
theorem flat_ints (l : List Int) : (l.map V.int).all flatV = true := by
  rw [List.all_eq_true]
  intro x hx
  obtain ⟨i, _, rfl⟩ := List.mem_map.mp hx
  rfl
end
end Eg

set_option Elab.async false
set_option linter.all false
set_option maxRecDepth 100000
set_option maxHeartbeats 4000000
/-! a lambda kept in a local name, handed to defs by it -/
namespace Eg
open PySem PySem.Spec PyProof.Rows L2 Rl SX
/-- the context with one more pinned object -/
abbrev lamp (X : Cx) (p : Addr × Obj) : Cx := { X with pn := X.pn ++ [p] }
theorem ok_in {X : Cx} {p : Addr × Obj} (o : X.Ok) : (lamp X p).Ok := ⟨o.mod, o.kind, o.glob, o.blt, o.above, o.inj, o.has, o.cab, o.hd, o.frames, o.stk, o.exf, o.bs, o.bsz, o.noex, o.exfs, o.funs, o.frf⟩
theorem ok_out {X : Cx} {p : Addr × Obj} (o : (lamp X p).Ok) : X.Ok := ⟨o.mod, o.kind, o.glob, o.blt, o.above, o.inj, o.has, o.cab, o.hd, o.frames, o.stk, o.exf, o.bs, o.bsz, o.noex, o.exfs, o.funs, o.frf⟩
section
variable {X : Cx} {p : Addr × Obj} {pins : List (Addr × Obj)} {σ : L2.St} {H : Hp} {s : Shared}
theorem inv_in (I : Inv X (p :: pins) σ H s) : Inv (lamp X p) pins σ H s :=
  ⟨ok_in I.ok, I.os, I.bare, I.base, I.loc, I.cell, I.free, I.freeC, fun q hq => I.pin q (by
    have hq : q ∈ (X.pn ++ [p]) ++ pins := hq
    simpa using hq), I.hok, I.len⟩
theorem inv_out (I : Inv (lamp X p) pins σ H s) : Inv X (p :: pins) σ H s :=
  ⟨ok_out I.ok, I.os, I.bare, I.base, I.loc, I.cell, I.free, I.freeC, fun q hq => I.pin q (by
    show q ∈ (X.pn ++ [p]) ++ pins
    simpa using hq), I.hok, I.len⟩
theorem inv_drop (I : Inv (lamp X p) pins σ H s) : Inv X pins σ H s := (inv_out I).pins_of fun q hq => (inv_out I).pin q (List.mem_append_right _ (List.mem_cons_of_mem _ hq))
theorem sp_drop {D : Ends} {f : Flow} {s' : Shared} (h : SP (lamp X p) pins D f s') : SP X pins D f s' := by
  cases f with
  | next => obtain ⟨a, b, I, q⟩ := h; exact ⟨a, b, inv_drop I, q⟩
  | brk => obtain ⟨a, b, I, q⟩ := h; exact ⟨a, b, inv_drop I, q⟩
  | cont => obtain ⟨a, b, I, q⟩ := h; exact ⟨a, b, inv_drop I, q⟩
  | ret u => obtain ⟨v, a, b, I, r, q⟩ := h; exact ⟨v, a, b, inv_drop I, r, q⟩
end
/-- the lambda's object -/
abbrev lamO (X : Cx) (params : Arguments) (body : Expr) (scope : Scope) (pm : Value) (c' : Addr) (ctv : Value) : Obj := PySem.W.kla_obj "<lambda>" (X.env.qual ++ "<lambda>") params body scope (cloFrom X.env.cells scope.names []) pm c' ctv
def tLamS (T : List (Addr × Str)) (q : Str) (i : Nat) (tr : Addr → Addr → TS) : TS := fun D σ H => LamX.Tabs T H ∧ ∀ f c' H1, LamX.ExtN H H1 → LamX.Tabs T H1 → H1 c' = some (LamX.CodeO c' q) → tr f c' D (σ.set i (some (.ref f))) H1
section
variable {X : Cx} {T : List (Addr × Str)} {c P : Addr} {params : Arguments} {body : Expr} {scope : Scope} {lpos pos pos' : Pos} {i : Nat} {x : Str} {rest : List Stmt} {tr : Addr → Addr → TS}
theorem pss_lam (TB : LamX.TabB X.base X.mg c P) (hcode : X.env.code = .ref c) (hmT : (P, X.env.qual ++ "<lambda>") ∈ T) (hu : ∀ p ∈ T, p.1 = P → p.2 = X.env.qual ++ "<lambda>") (L : LamX.LamS X.env.scope scope) (hdef : defaultsOf params X.env = ([], []))
    (hN : X.N.Nodup) (hi : X.N[i]? = some x) (hx : Loc X.env.scope x) (hst : X.stack = X.env :: X.outer) (hfl : X.env.frame = some X.env.locals)
    (hr : ∀ (f c' : Addr) (pm ctv : Value), PSs (lamp X (f, lamO X params body scope pm c' ctv)) rest (tr f c'))
    (hs : swapsWith (.Lambda params body scope lpos) (some (.Name x pos')) pos.line X.env = pure false := by rfl) (hf : X.fn x = true ∨ X.env.scope.names.lookup x = some .local := by first | exact .inl rfl | exact .inr rfl | assumption) :
    PSs X (.Assign [.Name x pos'] (.Lambda params body scope lpos) pos :: rest) (tLamS T (X.env.qual ++ "<lambda>") i tr) := by
  refine ⟨fun pins s σ H D I h => ?_⟩
  obtain ⟨hT, h⟩ := h
  refine wpAny_execs_cons (wpAny_Assign_Name (LamX.lam_make2 I TB hcode hmT hu hT hdef (L.has I.ok) fun f c' pm' ctv H1 s1 I1 eN T1 hf1 hfn hfr hco => ?_) hs)
  rw [hst] at hfr
  have hfr2 : f ∉ X.env.locals :: frs X.outer := by
    have e : frs (X.env :: X.outer) = X.env.locals :: frs X.outer := by
      unfold frs
      rw [List.filterMap_cons, hfl]
    rwa [e] at hfr
  have hnl : f ≠ X.env.locals := fun z => hfr2 (by rw [z]; exact List.mem_cons_self)
  have hnf : f ∉ X.fs := fun z => hfr2 (List.mem_cons_of_mem _ z)
  have J1 : Inv X ((f, lamO X params body scope pm' c' ctv) :: pins) σ H1 s1 := I1.pins_of fun p hp => by
    rcases List.mem_cons.mp hp with z | z
    · rw [z]
      exact ⟨hf1, hfn, hnl, hnf, fun v z => nomatch z⟩
    · exact I1.pin p (List.mem_append_right _ z)
  refine store_ok J1 hN hi hx (v := .ref f) rfl (fun s2 J2 => ?_) hf
  exact thn ((hr f c' pm' ctv).run pins s2 _ H1 D (inv_in J2) (h f c' H1 eN T1 hco)) fun fl s3 q => sp_drop q
end
/-! the def called with it -/
def tFwdP (i : Nat) (f c' : Addr) (q : Str) (sp : (XK → Hp → VK → Prop) → Sp) (tb : XK → TE) (t : TA) : TE := fun σ H Q => σ[i]? = some (some (.ref f)) ∧ t σ H fun vs H1 => sp (fun E HZ Q' => HZ c' = some (LamX.CodeO c' q) ∧ tb E σ HZ Q') vs H1 Q E0
section
variable {X : Cx} {k kl i : Nat} {f c' : Addr} {a x : Str} {p1 p2 pos : Pos} {ps : List Str} {sp : (XK → Hp → VK → Prop) → Sp} {es : List Expr} {t : TA} {params : Arguments} {body : Expr} {scope : Scope} {pm ctv : Value} {tb : XK → TE}
theorem pe_fwdP (D : DfnL X.prog X.w X.K X.mg X.base k (kl + 1) x ps sp) (hr : Room k X.A) (hg : Gl X x) (L : LamX.LamS X.env.scope scope)
    (hbind : ∀ (q : Str) (cl : List (Str × Addr)) (pm cv ctv : Value), bindArgs (PySem.W.kla_fn "<lambda>" q params body scope cl pm cv ctv) ⟨[], []⟩ = pure [])
    (hbody : ∀ (A : Around) (outer : List Env) (s : Shared) (H : Hp) (E : XK) (f c' : Addr), Room kl (A.deeper (LamX.lamEnv X scope s.heap.objs.size f c')) → PE (LamX.lamCx X A outer s H E scope f c') body (tb E))
    (hst : X.stack = X.env :: X.outer) (hfl : X.env.frame = some X.env.locals)
    (ha : PA (lamp X (f, lamO X params body scope pm c' ctv)) es t)
    (hN : X.N[i]? = some a := by rfl) (hv : Vis X.env.scope a := by first | exact Or.inl rfl | exact Or.inr (Or.inl rfl) | exact Or.inr (Or.inr rfl)) (hd : (a == ("__debug__" : Str)) = false := by decide)
    (hcd : (a == ("__classdict__" : Str)) = false := by decide) (hdb : (x == ("__debug__" : Str)) = false := by decide)
    (he : starEach (.Name a p2 :: es) X.env = (false, eval (.Name a p2) X.env) :: starEach es X.env := by rfl) (hpl : (backTo pos (starEach es X.env)).any (·.1) = false := by rfl) :
    PE (lamp X (f, lamO X params body scope pm c' ctv)) (.Call (.Name x p1) (.Name a p2 :: es) [] pos) (tFwdP i f c' (X.env.qual ++ "<lambda>") sp tb t) := by
  obtain ⟨g, fd, F, hm, hk, hb⟩ := D.ex
  refine ⟨fun pins s σ H Q I h => ?_⟩
  obtain ⟨hs, ht⟩ := h
  refine wpAny_Call_Name_kw (ld_glob (X := X) (inv_drop I) hg hm ?_ hdb)
  refine PySem.W.callWith_K (h₀ := X.base) I.ok.mod.kin hk ?_ he hpl
  rw [he]
  show wpAny _ _ (spliced ((false, eval (.Name a p2) X.env) :: backTo pos (starEach es X.env))) _ _ _
  refine Calls.spliced_cons (thn ((pe_var (X := lamp X (f, lamO X params body scope pm c' ctv)) (pos := p2) (i := i) hN hv hd hcd).run pins _ σ H (fun v H1 => v = .ref f ∧ H1 = H) I ⟨.ref f, hs, rfl, rfl⟩) fun u s1 ⟨v, H1, I1, r1, ev, eH⟩ => ?_)
  subst ev eH
  cases r1
  refine thn (ha.run pos pins s1 σ H1 _ I1 ht) fun us s2 ⟨vs, H2, J2, r, q⟩ => ⟨J2.kIn, ?_⟩
  have I2 : Inv X ((f, lamO X params body scope pm c' ctv) :: pins) σ H2 s2 := inv_out J2
  obtain ⟨hf2, hn2, hnl, hnf, _⟩ := I2.pin (f, lamO X params body scope pm c' ctv) (List.mem_append_right _ List.mem_cons_self)
  have hfr : f ∉ frs X.stack := by
    rw [hst]
    have e : frs (X.env :: X.outer) = X.env.locals :: frs X.outer := by
      unfold frs
      rw [List.filterMap_cons, hfl]
    rw [e]
    exact fun z => (List.mem_cons.mp z).elim hnl hnf
  have hL : LamV X.prog X.w X.K X.mg X.base (kl + 1) (frs X.stack) f H2 s2.heap (fun E HZ Q' => HZ c' = some (LamX.CodeO c' (X.env.qual ++ "<lambda>")) ∧ tb E σ HZ Q') := by
    refine ⟨⟨_, _, _, _, _, _, _, _, hf2⟩, hn2, hfr, fun A outer s HZ Q' E hr' e0 u hcz => ?_⟩
    obtain ⟨hcz, ht⟩ := hcz
    have u0 := u
    obtain ⟨⟨oc, us', t', hoc, hdc, hvc⟩, _, _⟩ := e0.hok c' _ hcz
    have of1 : s.heap.get? f = some (lamO X params body scope pm c' ctv) := u.keep f _ hf2 hn2 hfr (by simp)
    refine PySem.W.kla_callFunE hr'.depth of1 rfl L.co L.gen rfl ⟨c', oc, us', t', rfl, hoc, hdc, hvc⟩ ?_
    rw [hbind]
    have hnl' : s.heap.NoLimit := e0.mod.nolimit.keeps fun b o e => (e0.bs b o e).1
    refine wpAny_pure (wpAny_newFunctionEnv (fun y hy => (L.own y hy).2) (fun y hy => absurd hy (by simp)) (fun h₁ hns hsb => ⟨hnl'.fresh _ hsb, ?_⟩) L.kind)
    have kp : ∀ b o, s.heap.get? b = some o → h₁.get? b = some o := fun b o e => hsb.extBut b o (Nat.ne_of_lt (Heap.lt_size e)) (Heap.get?_push_of_some _ e)
    have J := LamX.lam_start2 (E := E) (f := f) (c' := c') (tk := s.toks + ([] : List (Str × Value)).length) I2 L e0 hr'.hd u0 hns kp
    refine PySem.W.kla_codeExpr (wpAny_mono ((hbody A outer s HZ E f c' (hr'.deeper _)).run [] _ _ HZ Q' J ht) (fun v s' hq => ?_) fun e s' hq => hq)
    obtain ⟨w', H', J', rv, q⟩ := hq
    exact ⟨w', H', J'.os, J'.bare, J'.base, J'.hok, rv, q⟩
  refine thn (run_fnL (X := X) F hr hb I2 r hL q) fun u' s' hq => ?_
  obtain ⟨v, H3, I3, rv, q3⟩ := hq
  exact ⟨v, H3, inv_in I3, rv, q3⟩
end
section
variable {T : List (Addr × Str)} {q : Str} {i : Nat} {f c' : Addr} {tr : Addr → Addr → TS} {D : Ends} {σ : L2.St} {H : Hp} {Q : VK} {spl : (XK → Hp → VK → Prop) → Sp} {tb : XK → TE} {t : TA}
theorem i_lamS (hT : LamX.Tabs T H) (k : ∀ f c' H1, LamX.ExtN H H1 → LamX.Tabs T H1 → H1 c' = some (LamX.CodeO c' q) → tr f c' D (σ.set i (some (.ref f))) H1) : tLamS T q i tr D σ H := ⟨hT, k⟩
theorem i_fwdP (h : σ[i]? = some (some (.ref f))) (k : t σ H fun vs H1 => spl (fun E HZ Q' => HZ c' = some (LamX.CodeO c' q) ∧ tb E σ HZ Q') vs H1 Q E0) : tFwdP i f c' q spl tb t σ H Q := ⟨h, k⟩
end
end Eg

set_option Elab.async false
set_option linter.all false
set_option maxRecDepth 100000
set_option maxHeartbeats 4000000
/-! comprehensions with a test; lists counted, popped, repeated -/
namespace Eg
open PySem PySem.Spec PyProof.Rows L2 Rl SX
section
variable {K : PySem.W.Frag} {σ : L2.St} {H : Hp} {te : TE} {tt : TT} {Q : VK} {g : TG} {J : It} {n : Nat} {vs : List Nat}
theorem l_itF {G : Hp → Prop} {Y : Nat → Hp → V → Hp → Prop} (w : Walk J n G Y) (Pv : Addr → Nat → List V → Hp → Prop) (h0 : ∀ D, H D = none → Pv D 0 [] (upd H D (.lst []))) (hG : ∀ D i acc H', H D = none → i ≤ n → H' D = some (.lst acc) → Pv D i acc H' → G H')
    (hs : ∀ D i x acc H1 H', H D = none → i < n → H1 D = some (.lst acc) → Pv D i acc H1 → Y i H1 x H' → g x (wipe σ vs) H' fun σ2 H2 => wipe σ2 vs = wipe σ vs ∧ tt σ2 H2 fun b H3 =>
      if b = true then te σ2 H3 (fun y H4 => ∃ acc, H4 D = some (.lst acc) ∧ acc.length < sizeLine ∧ Pv D (i + 1) (acc ++ [y]) (upd H4 D (.lst (acc ++ [y])))) else ∃ acc, H3 D = some (.lst acc) ∧ Pv D (i + 1) acc H3)
    (hd : ∀ D acc H', H D = none → H' D = some (.lst acc) → Pv D n acc H' → Q (.ref D) H') : gLc J g tt te vs σ H Q := fun D hD => by
  -- the turns' own promises hold by weakening what stands behind them
  exact lc_it w (fun i H' => ∃ acc, H' D = some (.lst acc) ∧ Pv D i acc H') ⟨[], upd_same, h0 D hD⟩ (fun i H' hi ⟨acc, e, p⟩ => hG D i acc H' hD hi e p)
    (fun i x H1 H' hi ⟨acc, e, p⟩ y => by
      have h := hs D i x acc H1 H' hD hi e p y
      have ee : (fun (y : V) (H4 : Hp) => ∃ acc, H4 D = some (.lst acc) ∧ acc.length < sizeLine ∧ Pv D (i + 1) (acc ++ [y]) (upd H4 D (.lst (acc ++ [y])))) = fun (y : V) (H4 : Hp) => ∃ acc, H4 D = some (.lst acc) ∧ acc.length < sizeLine ∧ ∃ acc', (upd H4 D (.lst (acc ++ [y]))) D = some (.lst acc') ∧ Pv D (i + 1) acc' (upd H4 D (.lst (acc ++ [y]))) := by
        funext y H4
        refine propext ⟨fun ⟨acc, a, b, c⟩ => ⟨acc, a, b, _, upd_same, c⟩, fun ⟨acc, a, b, acc', c, d⟩ => ⟨acc, a, b, ?_⟩⟩
        rw [upd_same] at c
        cases c
        exact d
      rw [ee] at h
      exact h) (fun H' ⟨acc, e, p⟩ => hd D acc H' hD e p)
theorem g_countI {p : Addr} {ns : List Int} {k : Int} (h : SqL K H p (ns.map V.int)) (q : Q (.int (ns.count k : Nat)) H) : rCntI K (.ref p) [.int k] H Q := ⟨p, ns, k, rfl, rfl, h, q⟩
theorem g_allB {p : Addr} {bs : List Bool} (h : SqL K H p (bs.map V.bl)) (q : Q (.bl (bs.all id)) H) : rAll K [.ref p] H Q := ⟨p, bs, rfl, h, q⟩
theorem g_rep {p : Addr} {k : Nat} {xs : List V} (h : H p = some (.lst xs)) (hk : k < 2 ^ 62) (hz : xs.length * k ≤ sizeLine) (q : ∀ r H', H r = none → Same H H' → H' r = some (.lst (List.replicate k xs).flatten) → Q (.ref r) H') : rRep (.ref p) (.int (k : Int)) H Q :=
  ⟨p, k, xs, rfl, rfl, h, by omega, by omega, by rw [Int.toNat_natCast]; exact hz, fun r hr => q r _ hr (fun b u e => by rw [upd_ne (ne_of_none e hr)]; exact e) (by rw [Int.toNat_natCast]; exact upd_same)⟩
theorem g_minI {p : Addr} {ns : List Int} (h : SqL K H p (ns.map V.int)) (h0 : 0 < ns.length) (q : ∀ m, m ∈ ns → (∀ y, y ∈ ns → m ≤ y) → Q (.int m) H) : rMin K [.ref p] H Q := ⟨p, ns, rfl, h, h0, q⟩
theorem g_maxI {p : Addr} {ns : List Int} (h : SqL K H p (ns.map V.int)) (h0 : 0 < ns.length) (q : ∀ m, m ∈ ns → (∀ y, y ∈ ns → y ≤ m) → Q (.int m) H) : rMax K [.ref p] H Q := ⟨p, ns, rfl, h, h0, q⟩
end
end Eg

set_option Elab.async false
set_option linter.all false
set_option maxRecDepth 100000
set_option maxHeartbeats 4000000
/-! a method of a built-in type in a comprehension -/
namespace Eg
open PySem PySem.Spec PyProof.Rows L2 Rl SX
section
variable {X : Cx} {K : PySem.W.Frag} {o e : Expr} {es : List Expr} {to : TE} {t : TA} {name : Str} {apos cpos : Pos} {T id : String} {r : V → List V → Hp → VK → Prop}
theorem pe_bmX (hK : X.K = K) (pa : PlainAttrs T) (slot : Slot T name id) (hty : typeOf (.builtin id) = pure (.type "method_descriptor")) (hm : MtR X id r) (ho : PE X o to) (ha : PA X (e :: es) t)
    (hbase : attributeBase o name X.env (eval o X.env) = eval o X.env := by rfl)
    (hfew : ((backTo cpos (starEach (e :: es) X.env)).all (fun x => !x.1) && (backToKw cpos (keywordEach [] X.env)).all (fun x => x.1.isSome)
      && decide ((e :: es).length + ([] : List Keyword).length + (if ([] : List Keyword).isEmpty then 0 else 1) < 30)) = true := by rfl)
    (hline : (apos.endLine == cpos.line) = true := by rfl) (hs : starEach (e :: es) X.env = (false, eval e X.env) :: starEach es X.env := by rfl) (hplain : (backTo cpos (starEach es X.env)).any (·.1) = false := by rfl) :
    PE X (.Call (.Attribute o name apos) (e :: es) [] cpos) (tBM K T r to t) := by
  subst hK
  exact pe_bm pa slot hty hm ho ha hbase hfew hline hs hplain
def tIfT (t : TT) (ta tb : TT) : TT := fun σ H Q => t σ H fun c H1 => if c = true then ta σ H1 Q else tb σ H1 Q
theorem i_ifT {t ta tb : TT} {σ : L2.St} {H : Hp} {Q : Bool → Hp → Prop} (h : t σ H fun c H1 => if c = true then ta σ H1 Q else tb σ H1 Q) : tIfT t ta tb σ H Q := h
theorem pt_ifExp {tc ta tb : TT} {c a b : Expr} {pos : Pos} (hc : PT X c tc) (ha : PT X a ta) (hb : PT X b tb) : PT X (.IfExp c a b pos) (tIfT tc ta tb) := by
  refine ⟨fun pins s σ H Q I h => ?_⟩
  show wpAny _ _ (do if ← isTrue c X.env (eval c X.env) then isTrue a X.env (eval a X.env) else isTrue b X.env (eval b X.env)) _ _ s
  refine wpAny_bind (wpAny_mono (hc.run pins s σ H _ I h) (fun d s1 ⟨H1, I1, q1⟩ => ?_) fun _ _ x => x)
  cases d with
  | true => exact ha.run pins s1 σ H1 Q I1 q1
  | false => exact hb.run pins s1 σ H1 Q I1 q1
end
end Eg

set_option Elab.async false
set_option linter.all false
set_option maxRecDepth 100000
set_option maxHeartbeats 4000000
/-! lists of lists of numbers compared; a number's place in a list -/
namespace Eg
open PySem PySem.Spec PyProof.Rows L2 Rl SX
section
variable {K : PySem.W.Frag} {H : Hp} {Q : VK}
abbrev dL (l : List Int) : PyData := .list (l.map PyData.int)
theorem dp_lists : ∀ (rs : List Addr) (ls : List (List Int)), rs.length = ls.length → (∀ (i : Nat) (r : Addr) (l : List Int), rs[i]? = some r → ls[i]? = some l → SqL K H r (l.map V.int)) → DpAll K H (rs.map V.ref) (ls.map dL)
  | [], [], _, _ => .nil
  | [], _ :: _, h, _ => nomatch h
  | _ :: _, [], h, _ => nomatch h
  | r :: rs, l :: ls, h, k => .cons (.lst (k 0 r l rfl rfl) (dp_ints l)) (dp_lists rs ls (Nat.succ.inj h) fun i r' l' h1 h2 => k (i + 1) r' l' h1 h2)
theorem can_lists : ∀ (ls : List (List Int)), PyData.canLayAll0 (ls.map dL) = true
  | [] => rfl
  | l :: ls => by
    show (PyData.canLayAll0 (l.map PyData.int) && PyData.canLayAll0 (ls.map dL)) = true
    rw [can_lists ls, can_ints l]
    rfl
theorem dep_lists : ∀ (ls : List (List Int)), PyData.depthAll (ls.map dL) ≤ 1
  | [] => Nat.zero_le 1
  | l :: ls => by
    show max (PyData.depthAll (l.map PyData.int) + 1) (PyData.depthAll (ls.map dL)) ≤ 1
    have := dep_lists ls
    rw [dep_ints l]
    omega
theorem sh_lists (ls : List (List Int)) : SeqAt.shaped (.list (ls.map dL)) = true := by
  show (PyData.canLayAll0 _ && decide (PyData.depthAll _ + 1 ≤ 64)) = true
  rw [can_lists ls, decide_eq_true (show PyData.depthAll (ls.map dL) + 1 ≤ 64 by have := dep_lists ls; omega)]
  rfl
theorem eqv_lists : ∀ (ls ms : List (List Int)), PyData.eqvAll (ls.map dL) (ms.map dL) = decide (ls = ms)
  | [], [] => by simp [PyData.eqvAll]
  | [], _ :: _ => by simp [PyData.eqvAll]
  | _ :: _, [] => by simp [PyData.eqvAll]
  | a :: l, b :: m => by
    simp only [List.map_cons, PyData.eqvAll, eqv_intsL, eqv_lists l m]
    by_cases h : a = b <;> by_cases h2 : l = m <;> simp [h, h2]
theorem eqv_listsL (ls ms : List (List Int)) : PyData.eqv (.list (ls.map dL)) (.list (ms.map dL)) = decide (ls = ms) := by
  simp only [PyData.eqv]
  exact eqv_lists ls ms
theorem g_neLL {a b : Addr} {rs qs : List Addr} {ls ms : List (List Int)} (ha : SqL K H a (rs.map V.ref)) (hb : SqL K H b (qs.map V.ref)) (h1 : rs.length = ls.length) (h2 : qs.length = ms.length) (k1 : ∀ (i : Nat) (r : Addr) (l : List Int), rs[i]? = some r → ls[i]? = some l → SqL K H r (l.map V.int)) (k2 : ∀ (i : Nat) (r : Addr) (l : List Int), qs[i]? = some r → ms[i]? = some l → SqL K H r (l.map V.int)) (k : Q (.bl (!decide (ls = ms))) H) : uNe K (.ref a) (.ref b) H Q := by
  refine .inr ⟨.list (ls.map dL), .list (ms.map dL), .lst ha (dp_lists rs ls h1 k1), .lst hb (dp_lists qs ms h2 k2), sh_lists ls, sh_lists ms, ?_⟩
  rw [eqv_listsL]
  exact k
theorem g_eqLL {a b : Addr} {rs qs : List Addr} {ls ms : List (List Int)} (ha : SqL K H a (rs.map V.ref)) (hb : SqL K H b (qs.map V.ref)) (h1 : rs.length = ls.length) (h2 : qs.length = ms.length) (k1 : ∀ (i : Nat) (r : Addr) (l : List Int), rs[i]? = some r → ls[i]? = some l → SqL K H r (l.map V.int)) (k2 : ∀ (i : Nat) (r : Addr) (l : List Int), qs[i]? = some r → ms[i]? = some l → SqL K H r (l.map V.int)) (k : Q (.bl (decide (ls = ms))) H) : uEq K (.ref a) (.ref b) H Q := by
  refine .inr ⟨.list (ls.map dL), .list (ms.map dL), .lst ha (dp_lists rs ls h1 k1), .lst hb (dp_lists qs ms h2 k2), sh_lists ls, sh_lists ms, ?_⟩
  rw [eqv_listsL]
  exact k
theorem least_at : ∀ (ns : List Int) {x : Int}, x ∈ ns → ∃ j : Nat, ns[j]? = some x ∧ ∀ (m : Nat) (z : Int), m < j → ns[m]? = some z → z ≠ x
  | [], _, h => nomatch h
  | a :: ns, x, h => by
    by_cases e : a = x
    · exact ⟨0, by rw [e]; rfl, fun m z hm => by omega⟩
    · rcases List.mem_cons.mp h with h | h
      · exact absurd h.symm e
      · obtain ⟨j, h1, h2⟩ := least_at ns h
        refine ⟨j + 1, h1, fun m z hm hz => ?_⟩
        cases m with
        | zero => cases hz; exact e
        | succ m => exact h2 m z (by omega) hz
/-- the first place of a number that is there -/
theorem g_index {p : Addr} {ns : List Int} {x : Int} (h : SqL K H p (ns.map V.int)) (hx : x ∈ ns) (k : ∀ j : Nat, ns[j]? = some x → Q (.int (j : Int)) H) : rIndex K (.ref p) [.int x] H Q := by
  obtain ⟨j, h1, h2⟩ := least_at ns hx
  refine ⟨p, _, .int x, j, .int x, rfl, rfl, h, rfl, flat_ints ns, by rw [List.getElem?_map, h1]; rfl, by unfold eqV; exact decide_eq_true rfl, fun m z' hm hz => ?_, k j h1⟩
  rw [List.getElem?_map] at hz
  obtain ⟨z, hz1, rfl⟩ := Option.map_eq_some_iff.mp hz
  unfold eqV
  exact decide_eq_false (h2 m z hm hz1)
end
end Eg

set_option Elab.async false
set_option linter.all false
set_option maxRecDepth 100000
set_option maxHeartbeats 4000000
/-! a def's name read as a value; a variable called that holds a def -/
namespace Eg
open PySem PySem.Spec PyProof.Rows L2 Rl SX
def FnV (P : Program) (w : World) (K : PySem.W.Frag) (mg : Str → Option Value) (base : Heap) (k : Nat) (f : Addr) (sp : Sp) : Prop := ∃ (fd : FuncData) (ps : List Str), FnOk P w K mg base (L2.CX P w) k f fd ps sp ∧ PySem.W.keepIn K (.ref f) = true ∧ Binds K fd ps []
def tFun (P : Program) (w : World) (K : PySem.W.Frag) (mg : Str → Option Value) (base : Heap) (k : Nat) (sp : Sp) : TE := fun σ H Q => ∀ f, FnV P w K mg base k f sp → Q (.ref f) H
def tCallV (P : Program) (w : World) (K : PySem.W.Frag) (mg : Str → Option Value) (base : Heap) (k i : Nat) (E : L2.St → XK) (t : TA) : TE := fun σ H Q => ∃ (f : Addr) (sp : Sp), σ[i]? = some (some (.ref f)) ∧ FnV P w K mg base k f sp ∧ t σ H fun vs H1 => sp vs H1 Q (E σ)
section
variable {X : Cx} {P : Program} {w : World} {K : PySem.W.Frag} {mg : Str → Option Value} {base : Heap} {k j i : Nat} {x a : Str} {ps : List Str} {sp : Sp} {p p1 pos : Pos} {e : Expr} {es : List Expr} {t : TA} {W : WX}
theorem pe_funX (D : DfnX X.prog X.w X.K X.mg X.base j x ps sp) (h : j ≤ k) (hg : Gl X x := by rfl) (hd : (x == ("__debug__" : Str)) = false := by decide) : PE X (.Name x p) (tFun X.prog X.w X.K X.mg X.base k sp) := by
  obtain ⟨f, fd, F, hm, hk, hb⟩ := D.ex
  exact ⟨fun pins s σ H Q I h2 => (pe_gr hm hg hd).run pins s σ H Q I (h2 f ⟨fd, ps, F.mono h, hk, hb⟩)⟩
theorem pe_callV (hP : X.prog = P) (hw : X.w = w) (hK : X.K = K) (hm : X.mg = mg) (hB : X.base = base) (hr : Room k X.A) (tk : Takes X W) (ha : PA X (e :: es) t)
    (hN : X.N[i]? = some a := by rfl) (hv : Vis X.env.scope a := by first | exact Or.inl rfl | exact Or.inr (Or.inl rfl) | exact Or.inr (Or.inr rfl)) (hd : (a == ("__debug__" : Str)) = false := by decide)
    (hcd : (a == ("__classdict__" : Str)) = false := by decide)
    (he : starEach (e :: es) X.env = (false, eval e X.env) :: starEach es X.env := by rfl) (hpl : (backTo pos (starEach es X.env)).any (·.1) = false := by rfl) :
    PE X (.Call (.Name a p1) (e :: es) [] pos) (tCallV P w K mg base k i (WE W) t) := by
  subst hP hw hK hm hB
  refine ⟨fun pins s σ H Q I h => ?_⟩
  obtain ⟨f, sp, hs, ⟨fd, ps, F, hk, hb⟩, ht⟩ := h
  refine wpAny_Call_Name_kw (thn ((pe_var (pos := p1) (i := i) hN hv hd hcd).run pins s σ H (fun v H1 => v = .ref f ∧ H1 = H) I ⟨.ref f, hs, rfl, rfl⟩) fun u s1 ⟨v, H1, I1, r1, ev, eH⟩ => ?_)
  subst ev eH
  cases r1
  refine PySem.W.callWith_K (h₀ := X.base) I.ok.mod.kin hk (thn (ha.run pos pins s1 σ H1 _ I1 ht) fun us s2 ⟨vs, H2, I2, r, q⟩ => ⟨I2.kIn, ?_⟩) he hpl
  exact run_fnS F hr hb (passAt tk σ) I2 r q
theorem i_fun {σ : L2.St} {H : Hp} {Q : VK} (h : ∀ f, FnV P w K mg base k f sp → Q (.ref f) H) : tFun P w K mg base k sp σ H Q := h
theorem i_callV {σ : L2.St} {H : Hp} {Q : VK} {E : L2.St → XK} {f : Addr} (hs : σ[i]? = some (some (.ref f))) (hf : FnV P w K mg base k f sp) (h : t σ H fun vs H1 => sp vs H1 Q (E σ)) : tCallV P w K mg base k i E t σ H Q := ⟨f, sp, hs, hf, h⟩
end
end Eg

set_option Elab.async false
set_option linter.all false
set_option maxRecDepth 100000
set_option maxHeartbeats 4000000
namespace L31
open PySem PySem.Spec PyProof.Rows L2 Rl Eg
def top (i : Nat) : Stmt := PySem.Challenge.pw_whoeverwins_k31_bills_and_hidden_seasons.main.body.getD i (.Pass ⟨0, 0, 0, 0⟩)
abbrev st_TooMany_init : Stmt := inClass (top 3) 0
abbrev n_TooMany_init : List Str := ["self", "what"]
theorem sc_TooMany_init : FnScope n_TooMany_init ["self", "what"] (defScope st_TooMany_init) := ⟨rfl, rfl, rfl, by decide +kernel, rfl, by decide +kernel, by decide +kernel⟩
abbrev st_BadLadder_init : Stmt := inClass (top 6) 0
abbrev n_BadLadder_init : List Str := ["self", "rung"]
theorem sc_BadLadder_init : FnScope n_BadLadder_init ["self", "rung"] (defScope st_BadLadder_init) := ⟨rfl, rfl, rfl, by decide +kernel, rfl, by decide +kernel, by decide +kernel⟩
abbrev st_BadTable_init : Stmt := inClass (top 7) 0
abbrev n_BadTable_init : List Str := ["self", "rung"]
theorem sc_BadTable_init : FnScope n_BadTable_init ["self", "rung"] (defScope st_BadTable_init) := ⟨rfl, rfl, rfl, by decide +kernel, rfl, by decide +kernel, by decide +kernel⟩
abbrev st_BadDemand_init : Stmt := inClass (top 8) 0
abbrev n_BadDemand_init : List Str := ["self", "what"]
theorem sc_BadDemand_init : FnScope n_BadDemand_init ["self", "what"] (defScope st_BadDemand_init) := ⟨rfl, rfl, rfl, by decide +kernel, rfl, by decide +kernel, by decide +kernel⟩
abbrev st_bound : Stmt := top 18
abbrev n_bound : List Str := ["what", "number"]
theorem sc_bound : FnScope n_bound ["what", "number"] (defScope st_bound) := ⟨rfl, rfl, rfl, by decide +kernel, rfl, by decide +kernel, by decide +kernel⟩
abbrev st_grown : Stmt := top 21
abbrev n_grown : List Str := ["lanes", "falls", "first", "charges", "row", "rung", "fall", "low"]
theorem sc_grown : FnScope n_grown ["lanes", "falls", "first", "charges"] (defScope st_grown) := ⟨rfl, rfl, rfl, by decide +kernel, rfl, by decide +kernel, by decide +kernel⟩
abbrev st_load_rows : Stmt := top 22
abbrev n_load_rows : List Str := ["lanes", "falls", "rungs", "a", "b"]
theorem sc_load_rows : FnScope n_load_rows ["lanes", "falls"] (defScope st_load_rows) := ⟨rfl, rfl, rfl, by decide +kernel, rfl, by decide +kernel, by decide +kernel⟩
abbrev st_head_row : Stmt := top 23
abbrev n_head_row : List Str := ["lanes", "falls", "_"]
theorem sc_head_row : FnScope n_head_row ["lanes", "falls"] (defScope st_head_row) := ⟨rfl, rfl, rfl, by decide +kernel, rfl, by decide +kernel, by decide +kernel⟩
abbrev st_worth_row : Stmt := top 24
abbrev n_worth_row : List Str := ["lanes", "falls", "_"]
theorem sc_worth_row : FnScope n_worth_row ["lanes", "falls"] (defScope st_worth_row) := ⟨rfl, rfl, rfl, by decide +kernel, rfl, by decide +kernel, by decide +kernel⟩
abbrev st_wrong_count : Stmt := top 26
abbrev n_wrong_count : List Str := ["counts", "rungs", "rung", "many"]
theorem sc_wrong_count : FnScope n_wrong_count ["counts", "rungs"] (defScope st_wrong_count) := ⟨rfl, rfl, rfl, by decide +kernel, rfl, by decide +kernel, by decide +kernel⟩
abbrev st_Table_init : Stmt := inClass (top 27) 0
abbrev n_Table_init : List Str := ["self", "ladder", "counts", "wrong"]
theorem sc_Table_init : FnScope n_Table_init ["self", "ladder", "counts"] (defScope st_Table_init) := ⟨rfl, rfl, rfl, by decide +kernel, rfl, by decide +kernel, by decide +kernel⟩
abbrev st_Table_ladder : Stmt := inClass (top 27) 2
abbrev n_Table_ladder : List Str := ["self"]
theorem sc_Table_ladder : FnScope n_Table_ladder ["self"] (defScope st_Table_ladder) := ⟨rfl, rfl, rfl, by decide +kernel, rfl, by decide +kernel, by decide +kernel⟩
abbrev st_Table_counts : Stmt := inClass (top 27) 3
abbrev n_Table_counts : List Str := ["self"]
theorem sc_Table_counts : FnScope n_Table_counts ["self"] (defScope st_Table_counts) := ⟨rfl, rfl, rfl, by decide +kernel, rfl, by decide +kernel, by decide +kernel⟩
abbrev st_Table_on : Stmt := inClass (top 27) 4
abbrev n_Table_on : List Str := ["self", "a"]
theorem sc_Table_on : FnScope n_Table_on ["self", "a"] (defScope st_Table_on) := ⟨rfl, rfl, rfl, by decide +kernel, rfl, by decide +kernel, by decide +kernel⟩
abbrev st_Table_load : Stmt := inClass (top 27) 9
abbrev n_Table_load : List Str := ["self", "a", "b", "many"]
theorem sc_Table_load : FnScope n_Table_load ["self", "a"] (defScope st_Table_load) := ⟨rfl, rfl, rfl, by decide +kernel, rfl, by decide +kernel, by decide +kernel⟩
abbrev st_Table_level : Stmt := inClass (top 27) 13
abbrev n_Table_level : List Str := ["self", "lanes", "rungs", "rung"]
theorem sc_Table_level : FnScope n_Table_level ["self"] (defScope st_Table_level) := ⟨rfl, rfl, rfl, by decide +kernel, rfl, by decide +kernel, by decide +kernel⟩
abbrev st_Table_check_called : Stmt := inClass (top 27) 14
abbrev n_Table_check_called : List Str := ["self", "rungs", "at", "lanes", "known", "rung", "many"]
theorem sc_Table_check_called : FnScope n_Table_check_called ["self", "rungs", "at"] (defScope st_Table_check_called) := ⟨rfl, rfl, rfl, by decide +kernel, rfl, by decide +kernel, by decide +kernel⟩
abbrev st_Table_behind : Stmt := inClass (top 27) 15
abbrev n_Table_behind : List Str := ["self", "rungs", "at", "counts", "position", "rung", "target", "crowned"]
theorem sc_Table_behind : FnScope n_Table_behind ["self", "rungs", "at"] (defScope st_Table_behind) := ⟨rfl, rfl, rfl, by decide +kernel, rfl, by decide +kernel, by decide +kernel⟩
abbrev st_bill_of : Stmt := top 29
abbrev n_bill_of : List Str := ["first", "last", "crowns", "ladder", "top", "a"]
theorem sc_bill_of : FnScope n_bill_of ["first", "last", "crowns"] (defScope st_bill_of) := ⟨rfl, rfl, rfl, by decide +kernel, rfl, by decide +kernel, by decide +kernel⟩
abbrev st_reached_counts : Stmt := top 30
abbrev n_reached_counts : List Str := ["first", "held", "crowns", "ladder", "lanes", "counts", "rung", "many"]
theorem sc_reached_counts : FnScope n_reached_counts ["first", "held", "crowns"] (defScope st_reached_counts) := ⟨rfl, rfl, rfl, by decide +kernel, rfl, by decide +kernel, by decide +kernel⟩
abbrev st_next_rung : Stmt := top 31
abbrev n_next_rung : List Str := ["table", "due", "rung"]
theorem sc_next_rung : FnScope n_next_rung ["table", "due"] (defScope st_next_rung) := ⟨rfl, rfl, rfl, by decide +kernel, rfl, by decide +kernel, by decide +kernel⟩
abbrev st_hidden_season : Stmt := top 32
abbrev n_hidden_season : List Str := ["first", "last", "crowns", "due", "rung", "many", "lanes", "table", "rungs", "crowned", "_"]
theorem sc_hidden_season : FnScope n_hidden_season ["first", "last", "crowns"] (defScope st_hidden_season) := ⟨rfl, rfl, rfl, by decide +kernel, rfl, by decide +kernel, by decide +kernel⟩
abbrev st_wrong_rung : Stmt := top 34
abbrev n_wrong_rung : List Str := ["lanes", "falls", "rung", "fall", "highest"]
theorem sc_wrong_rung : FnScope n_wrong_rung ["lanes", "falls"] (defScope st_wrong_rung) := ⟨rfl, rfl, rfl, by decide +kernel, rfl, by decide +kernel, by decide +kernel⟩
abbrev st_Ladder_init : Stmt := inClass (top 35) 0
abbrev n_Ladder_init : List Str := ["self", "lanes", "falls", "returns", "wrong"]
theorem sc_Ladder_init : FnScope n_Ladder_init ["self", "lanes", "falls", "returns"] (defScope st_Ladder_init) := ⟨rfl, rfl, rfl, by decide +kernel, rfl, by decide +kernel, by decide +kernel⟩
abbrev st_Ladder_same_as : Stmt := inClass (top 35) 1
abbrev n_Ladder_same_as : List Str := ["self", "other"]
theorem sc_Ladder_same_as : FnScope n_Ladder_same_as ["self", "other"] (defScope st_Ladder_same_as) := ⟨rfl, rfl, rfl, by decide +kernel, rfl, by decide +kernel, by decide +kernel⟩
abbrev st_Ladder_lanes : Stmt := inClass (top 35) 2
abbrev n_Ladder_lanes : List Str := ["self"]
theorem sc_Ladder_lanes : FnScope n_Ladder_lanes ["self"] (defScope st_Ladder_lanes) := ⟨rfl, rfl, rfl, by decide +kernel, rfl, by decide +kernel, by decide +kernel⟩
abbrev st_Ladder_rungs : Stmt := inClass (top 35) 3
abbrev n_Ladder_rungs : List Str := ["self"]
theorem sc_Ladder_rungs : FnScope n_Ladder_rungs ["self"] (defScope st_Ladder_rungs) := ⟨rfl, rfl, rfl, by decide +kernel, rfl, by decide +kernel, by decide +kernel⟩
abbrev st_Ladder_falls : Stmt := inClass (top 35) 4
abbrev n_Ladder_falls : List Str := ["self"]
theorem sc_Ladder_falls : FnScope n_Ladder_falls ["self"] (defScope st_Ladder_falls) := ⟨rfl, rfl, rfl, by decide +kernel, rfl, by decide +kernel, by decide +kernel⟩
abbrev st_Ladder_returns : Stmt := inClass (top 35) 5
abbrev n_Ladder_returns : List Str := ["self"]
theorem sc_Ladder_returns : FnScope n_Ladder_returns ["self"] (defScope st_Ladder_returns) := ⟨rfl, rfl, rfl, by decide +kernel, rfl, by decide +kernel, by decide +kernel⟩
abbrev st_Ladder_check_rung : Stmt := inClass (top 35) 6
abbrev n_Ladder_check_rung : List Str := ["self", "rung"]
theorem sc_Ladder_check_rung : FnScope n_Ladder_check_rung ["self", "rung"] (defScope st_Ladder_check_rung) := ⟨rfl, rfl, rfl, by decide +kernel, rfl, by decide +kernel, by decide +kernel⟩
abbrev st_Ladder_check_place : Stmt := inClass (top 35) 7
abbrev n_Ladder_check_place : List Str := ["self", "place"]
theorem sc_Ladder_check_place : FnScope n_Ladder_check_place ["self", "place"] (defScope st_Ladder_check_place) := ⟨rfl, rfl, rfl, by decide +kernel, rfl, by decide +kernel, by decide +kernel⟩
abbrev st_Ladder_fall : Stmt := inClass (top 35) 8
abbrev n_Ladder_fall : List Str := ["self", "a"]
theorem sc_Ladder_fall : FnScope n_Ladder_fall ["self", "a"] (defScope st_Ladder_fall) := ⟨rfl, rfl, rfl, by decide +kernel, rfl, by decide +kernel, by decide +kernel⟩
abbrev st_Ladder_load : Stmt := inClass (top 35) 11
abbrev n_Ladder_load : List Str := ["self", "a", "b"]
theorem sc_Ladder_load : FnScope n_Ladder_load ["self", "a", "b"] (defScope st_Ladder_load) := ⟨rfl, rfl, rfl, by decide +kernel, rfl, by decide +kernel, by decide +kernel⟩
abbrev st_Ladder_weights : Stmt := inClass (top 35) 14
abbrev n_Ladder_weights : List Str := ["self", "row"]
theorem sc_Ladder_weights : FnScope n_Ladder_weights ["self"] (defScope st_Ladder_weights) := ⟨rfl, rfl, rfl, by decide +kernel, rfl, by decide +kernel, by decide +kernel⟩
abbrev st_law_e_named : Stmt := top 37
abbrev n_law_e_named : List Str := ["raised", "found"]
theorem sc_law_e_named : FnScope n_law_e_named ["raised"] (defScope st_law_e_named) := ⟨rfl, rfl, rfl, by decide +kernel, rfl, by decide +kernel, by decide +kernel⟩
abbrev st_law_e_asked : Stmt := top 38
abbrev n_law_e_asked : List Str := ["call", "told", "raised"]
theorem sc_law_e_asked : FnScope n_law_e_asked ["call"] (defScope st_law_e_asked) := ⟨rfl, rfl, rfl, by decide +kernel, rfl, by decide +kernel, by decide +kernel⟩
abbrev st_law_e_refused : Stmt := top 39
abbrev n_law_e_refused : List Str := ["call", "due", "told"]
theorem sc_law_e_refused : FnScope n_law_e_refused ["call", "due"] (defScope st_law_e_refused) := ⟨rfl, rfl, rfl, by decide +kernel, rfl, by decide +kernel, by decide +kernel⟩
abbrev st_law_e_falls : Stmt := top 40
abbrev n_law_e_falls : List Str := ["stock", "rungs", "kind", "falls", "rung"]
theorem sc_law_e_falls : FnScope n_law_e_falls ["stock", "rungs"] (defScope st_law_e_falls) := ⟨rfl, rfl, rfl, by decide +kernel, rfl, by decide +kernel, by decide +kernel⟩
abbrev st_law_e_ladder : Stmt := top 41
abbrev n_law_e_ladder : List Str := ["stock", "least", "most", "widest", "rungs", "lanes"]
theorem sc_law_e_ladder : FnScope n_law_e_ladder ["stock", "least", "most", "widest"] (defScope st_law_e_ladder) := ⟨rfl, rfl, rfl, by decide +kernel, rfl, by decide +kernel, by decide +kernel⟩
abbrev st_law_e_low : Stmt := top 42
abbrev n_law_e_low : List Str := ["row", "fall"]
theorem sc_law_e_low : FnScope n_law_e_low ["row", "fall"] (defScope st_law_e_low) := ⟨rfl, rfl, rfl, by decide +kernel, rfl, by decide +kernel, by decide +kernel⟩
abbrev st_law_e_loads : Stmt := top 43
abbrev n_law_e_loads : List Str := ["ladder", "lanes", "falls", "rows", "a", "row", "b"]
theorem sc_law_e_loads : FnScope n_law_e_loads ["ladder"] (defScope st_law_e_loads) := ⟨rfl, rfl, rfl, by decide +kernel, rfl, by decide +kernel, by decide +kernel⟩
abbrev st_law_e_sum : Stmt := top 44
abbrev n_law_e_sum : List Str := ["row", "counts", "b"]
theorem sc_law_e_sum : FnScope n_law_e_sum ["row", "counts"] (defScope st_law_e_sum) := ⟨rfl, rfl, rfl, by decide +kernel, rfl, by decide +kernel, by decide +kernel⟩
abbrev st_law_e_behind : Stmt := top 45
abbrev n_law_e_behind : List Str := ["ladder", "counts", "rungs", "at", "after", "crowned", "position", "rung", "goes"]
theorem sc_law_e_behind : FnScope n_law_e_behind ["ladder", "counts", "rungs", "at"] (defScope st_law_e_behind) := ⟨rfl, rfl, rfl, by decide +kernel, rfl, by decide +kernel, by decide +kernel⟩
abbrev st_law_stock : Stmt := top 46
abbrev n_law_stock : List Str := ["script", "at", "cell", "size", "small", "one"]
theorem sc_law_stock : FnScope n_law_stock ["script", "at"] (defScope st_law_stock) := ⟨rfl, rfl, rfl, by decide +kernel, rfl, by decide +kernel, by decide +kernel⟩
abbrev st_law_draw : Stmt := top 47
abbrev n_law_draw : List Str := ["stock", "many", "found"]
theorem sc_law_draw : FnScope n_law_draw ["stock", "many"] (defScope st_law_draw) := ⟨rfl, rfl, rfl, by decide +kernel, rfl, by decide +kernel, by decide +kernel⟩
abbrev st_law_matches : Stmt := top 48
abbrev n_law_matches : List Str := ["answer", "due", "at"]
theorem sc_law_matches : FnScope n_law_matches ["answer", "due"] (defScope st_law_matches) := ⟨rfl, rfl, rfl, by decide +kernel, rfl, by decide +kernel, by decide +kernel⟩
abbrev st_law_k31_season : Stmt := top 49
abbrev n_law_k31_season : List Str := ["stock", "plain", "counts", "most", "held", "crowns", "turn", "level", "rung", "crowned"]
theorem sc_law_k31_season : FnScope n_law_k31_season ["stock", "plain", "counts", "most"] (defScope st_law_k31_season) := ⟨rfl, rfl, rfl, by decide +kernel, rfl, by decide +kernel, by decide +kernel⟩
abbrev st_law_k31_bill : Stmt := top 50
abbrev n_law_k31_bill : List Str := ["plain", "first", "last", "crowns", "top", "found", "row"]
theorem sc_law_k31_bill : FnScope n_law_k31_bill ["plain", "first", "last", "crowns"] (defScope st_law_k31_bill) := ⟨rfl, rfl, rfl, by decide +kernel, rfl, by decide +kernel, by decide +kernel⟩
abbrev st_law_k31_sums : Stmt := top 51
abbrev n_law_k31_sums : List Str := ["plain", "first", "held", "crowns", "top", "found", "a", "many", "e"]
theorem sc_law_k31_sums : FnScope n_law_k31_sums ["plain", "first", "held", "crowns"] (defScope st_law_k31_sums) := ⟨rfl, rfl, rfl, by decide +kernel, rfl, by decide +kernel, by decide +kernel⟩
abbrev st_law_k31_thrifty : Stmt := top 52
abbrev n_law_k31_thrifty : List Str := ["plain", "first", "due", "highest", "left", "counts", "rungs", "turn", "ready", "rung"]
theorem sc_law_k31_thrifty : FnScope n_law_k31_thrifty ["plain", "first", "due", "highest"] (defScope st_law_k31_thrifty) := ⟨rfl, rfl, rfl, by decide +kernel, rfl, by decide +kernel, by decide +kernel⟩
abbrev st_law_k31_due : Stmt := top 53
abbrev n_law_k31_due : List Str := ["plain", "first", "last", "crowns", "held", "rung", "sums", "high", "low"]
theorem sc_law_k31_due : FnScope n_law_k31_due ["plain", "first", "last", "crowns"] (defScope st_law_k31_due) := ⟨rfl, rfl, rfl, by decide +kernel, rfl, by decide +kernel, by decide +kernel⟩
abbrev st_law_k31_asked : Stmt := top 54
abbrev n_law_k31_asked : List Str := ["ladder", "plain", "first", "last", "crowns", "one", "other", "held", "told", "due"]
theorem sc_law_k31_asked : FnScope n_law_k31_asked ["ladder", "plain", "first", "last", "crowns"] (defScope st_law_k31_asked) := ⟨rfl, rfl, rfl, by decide +kernel, rfl, by decide +kernel, by decide +kernel⟩
abbrev st_law_k31_bent : Stmt := top 55
abbrev n_law_k31_bent : List Str := ["stock", "last", "crowns", "found", "kind", "rung"]
theorem sc_law_k31_bent : FnScope n_law_k31_bent ["stock", "last", "crowns"] (defScope st_law_k31_bent) := ⟨rfl, rfl, rfl, by decide +kernel, rfl, by decide +kernel, by decide +kernel⟩
abbrev st_law_k31_made : Stmt := top 56
abbrev n_law_k31_made : List Str := ["stock", "plain", "first", "held", "turn", "last", "rung"]
theorem sc_law_k31_made : FnScope n_law_k31_made ["stock", "plain", "first"] (defScope st_law_k31_made) := ⟨rfl, rfl, rfl, by decide +kernel, rfl, by decide +kernel, by decide +kernel⟩
abbrev st_law_k31_long : Stmt := top 57
abbrev n_law_k31_long : List Str := ["stock", "ladder", "many", "first", "last"]
theorem sc_law_k31_long : FnScope n_law_k31_long ["stock"] (defScope st_law_k31_long) := ⟨rfl, rfl, rfl, by decide +kernel, rfl, by decide +kernel, by decide +kernel⟩
abbrev st_law : Stmt := top 58
abbrev n_law : List Str := ["script", "stock", "plain", "first", "ladder", "last", "held", "crowns", "bent", "made", "row", "unlike", "ask", "rung"]
theorem sc_law : FnScope n_law ["script"] (defScope st_law) := ⟨rfl, rfl, rfl, by decide +kernel, rfl, by decide +kernel, by decide +kernel⟩
structure Ad where
  a_Table : Addr
  a_Ladder : Addr
  a_LIMITS : Addr
  a_TOLD : Addr
  a_TooMany : Addr
  a_BadLadder : Addr
  a_BadTable : Addr
  a_BadDemand : Addr
  a_WinsError : Addr
  a_BadText : Addr
  a_BadSeason : Addr
  a_BadCode : Addr
  a_BadEvent : Addr
  a_BadFoe : Addr
  a_BadPaper : Addr
  a_BadDisk : Addr
  a_BadDeed : Addr
  c_law_k31_long : Addr
  p_law_k31_long : Addr
  c_law : Addr
  p_law : Addr
structure Txt (K : PySem.W.Frag) (w : World) (mg : Str → Option Value) (Z : Ad) : Prop where
  b_ValueError : mg "ValueError" = none
  b_abs : mg "abs" = none
  b_all : mg "all" = none
  b_bool : mg "bool" = none
  b_enumerate : mg "enumerate" = none
  b_int : mg "int" = none
  b_isinstance : mg "isinstance" = none
  b_len : mg "len" = none
  b_list : mg "list" = none
  b_max : mg "max" = none
  b_min : mg "min" = none
  b_range : mg "range" = none
  b_reversed : mg "reversed" = none
  b_str : mg "str" = none
  b_sum : mg "sum" = none
  b_tuple : mg "tuple" = none
  c_LIMITS : mg "LIMITS" = some (.ref Z.a_LIMITS)
  k_LIMITS_lines : KDct K w Z.a_LIMITS "lines" (.int 300)
  k_LIMITS_words : KDct K w Z.a_LIMITS "words" (.int 60)
  k_LIMITS_number : KDct K w Z.a_LIMITS "number" (.int 1000000000000000000000000000000)
  k_LIMITS_depth : KDct K w Z.a_LIMITS "depth" (.int 20)
  k_LIMITS_blocks : KDct K w Z.a_LIMITS "blocks" (.int 12)
  k_LIMITS_lanes : KDct K w Z.a_LIMITS "lanes" (.int 6)
  k_LIMITS_rungs : KDct K w Z.a_LIMITS "rungs" (.int 40)
  k_LIMITS_ways : KDct K w Z.a_LIMITS "ways" (.int 8)
  k_LIMITS_promises : KDct K w Z.a_LIMITS "promises" (.int 20)
  k_LIMITS_variables : KDct K w Z.a_LIMITS "variables" (.int 4)
  k_LIMITS_states : KDct K w Z.a_LIMITS "states" (.int 400)
  k_LIMITS_rows : KDct K w Z.a_LIMITS "rows" (.int 600)
  k_LIMITS_events : KDct K w Z.a_LIMITS "events" (.int 3000)
  k_LIMITS_meetings : KDct K w Z.a_LIMITS "meetings" (.int 3000)
  k_LIMITS_housemeetings : KDct K w Z.a_LIMITS "housemeetings" (.int 400)
  k_LIMITS_rounds : KDct K w Z.a_LIMITS "rounds" (.int 300)
  k_LIMITS_late : KDct K w Z.a_LIMITS "late" (.int 6)
  k_LIMITS_plan : KDct K w Z.a_LIMITS "plan" (.int 200)
  k_LIMITS_nodes : KDct K w Z.a_LIMITS "nodes" (.int 2000)
  k_LIMITS_players : KDct K w Z.a_LIMITS "players" (.int 60)
  k_LIMITS_log : KDct K w Z.a_LIMITS "log" (.int 2000)
  k_LIMITS_signs : KDct K w Z.a_LIMITS "signs" (.int 2000)
  c_OUT : ∃ t, mg "OUT" = some (.int (-1) t)
  c_TOLD : mg "TOLD" = some (.ref Z.a_TOLD)
  k_TOLD_blocks : KDct K w Z.a_TOLD "blocks" (.str "depth")
  k_TOLD_states : KDct K w Z.a_TOLD "states" (.str "variables")
  k_TOLD_housemeetings : KDct K w Z.a_TOLD "housemeetings" (.str "meetings")
  o_TooMany : OexC K Z.a_TooMany
  x_TooMany : XfC K Z.a_TooMany
  g_TooMany : mg "TooMany" = some (.ref Z.a_TooMany)
  m_TooMany : PySem.W.exmOne K (.ref Z.a_TooMany) (.ref Z.a_TooMany) = some true
  n_TooMany_what : PySem.W.findIn K (.ref Z.a_TooMany) "what" = some none
  o_BadLadder : OexC K Z.a_BadLadder
  x_BadLadder : XfC K Z.a_BadLadder
  g_BadLadder : mg "BadLadder" = some (.ref Z.a_BadLadder)
  m_BadLadder : PySem.W.exmOne K (.ref Z.a_BadLadder) (.ref Z.a_BadLadder) = some true
  n_BadLadder_rung : PySem.W.findIn K (.ref Z.a_BadLadder) "rung" = some none
  o_BadTable : OexC K Z.a_BadTable
  x_BadTable : XfC K Z.a_BadTable
  g_BadTable : mg "BadTable" = some (.ref Z.a_BadTable)
  m_BadTable : PySem.W.exmOne K (.ref Z.a_BadTable) (.ref Z.a_BadTable) = some true
  n_BadTable_rung : PySem.W.findIn K (.ref Z.a_BadTable) "rung" = some none
  o_BadDemand : OexC K Z.a_BadDemand
  x_BadDemand : XfC K Z.a_BadDemand
  g_BadDemand : mg "BadDemand" = some (.ref Z.a_BadDemand)
  m_BadDemand : PySem.W.exmOne K (.ref Z.a_BadDemand) (.ref Z.a_BadDemand) = some true
  n_BadDemand_what : PySem.W.findIn K (.ref Z.a_BadDemand) "what" = some none
  g_WinsError : mg "WinsError" = some (.ref Z.a_WinsError)
  wg_WinsError : PySem.W.specialIn K (.ref Z.a_WinsError) "__getattribute__" = some (some (.builtin "type.__getattribute__"))
  wr_WinsError : PySem.W.readsIn K Z.a_WinsError (.type "type") = true
  wv_WinsError : PySem.W.findCls K (.ref Z.a_WinsError) (.type "type") "__init__" = some (.val (.builtin "ValueError.__init__"))
  g_BadText : mg "BadText" = some (.ref Z.a_BadText)
  g_BadSeason : mg "BadSeason" = some (.ref Z.a_BadSeason)
  g_BadCode : mg "BadCode" = some (.ref Z.a_BadCode)
  g_BadEvent : mg "BadEvent" = some (.ref Z.a_BadEvent)
  g_BadFoe : mg "BadFoe" = some (.ref Z.a_BadFoe)
  g_BadPaper : mg "BadPaper" = some (.ref Z.a_BadPaper)
  g_BadDisk : mg "BadDisk" = some (.ref Z.a_BadDisk)
  g_BadDeed : mg "BadDeed" = some (.ref Z.a_BadDeed)
  xi_TooMany : XisC K Z.a_TooMany
  ki_TooMany_TooMany : PySem.W.kitOne K (.ref Z.a_TooMany) (.ref Z.a_TooMany) = some true
  ki_TooMany_BadLadder : PySem.W.kitOne K (.ref Z.a_TooMany) (.ref Z.a_BadLadder) = some false
  ki_TooMany_BadTable : PySem.W.kitOne K (.ref Z.a_TooMany) (.ref Z.a_BadTable) = some false
  ki_TooMany_BadDemand : PySem.W.kitOne K (.ref Z.a_TooMany) (.ref Z.a_BadDemand) = some false
  ki_TooMany_ValueError : PySem.W.kitOne K (.ref Z.a_TooMany) (.type "ValueError") = some true
  ka_TooMany_0 : PySem.W.kitAny K (.ref Z.a_TooMany) [.ref Z.a_BadText, .ref Z.a_BadSeason, .ref Z.a_BadCode, .ref Z.a_BadEvent, .ref Z.a_BadFoe, .ref Z.a_BadPaper, .ref Z.a_BadDisk, .ref Z.a_BadDeed] = some false
  mm_TooMany_WinsError : PySem.W.exmOne K (.ref Z.a_TooMany) (.ref Z.a_WinsError) = some true
  xi_BadLadder : XisC K Z.a_BadLadder
  ki_BadLadder_TooMany : PySem.W.kitOne K (.ref Z.a_BadLadder) (.ref Z.a_TooMany) = some false
  ki_BadLadder_BadLadder : PySem.W.kitOne K (.ref Z.a_BadLadder) (.ref Z.a_BadLadder) = some true
  ki_BadLadder_BadTable : PySem.W.kitOne K (.ref Z.a_BadLadder) (.ref Z.a_BadTable) = some false
  ki_BadLadder_BadDemand : PySem.W.kitOne K (.ref Z.a_BadLadder) (.ref Z.a_BadDemand) = some false
  ki_BadLadder_ValueError : PySem.W.kitOne K (.ref Z.a_BadLadder) (.type "ValueError") = some true
  ka_BadLadder_0 : PySem.W.kitAny K (.ref Z.a_BadLadder) [.ref Z.a_BadText, .ref Z.a_BadSeason, .ref Z.a_BadCode, .ref Z.a_BadEvent, .ref Z.a_BadFoe, .ref Z.a_BadPaper, .ref Z.a_BadDisk, .ref Z.a_BadDeed] = some false
  mm_BadLadder_WinsError : PySem.W.exmOne K (.ref Z.a_BadLadder) (.ref Z.a_WinsError) = some true
  xi_BadTable : XisC K Z.a_BadTable
  ki_BadTable_TooMany : PySem.W.kitOne K (.ref Z.a_BadTable) (.ref Z.a_TooMany) = some false
  ki_BadTable_BadLadder : PySem.W.kitOne K (.ref Z.a_BadTable) (.ref Z.a_BadLadder) = some false
  ki_BadTable_BadTable : PySem.W.kitOne K (.ref Z.a_BadTable) (.ref Z.a_BadTable) = some true
  ki_BadTable_BadDemand : PySem.W.kitOne K (.ref Z.a_BadTable) (.ref Z.a_BadDemand) = some false
  ki_BadTable_ValueError : PySem.W.kitOne K (.ref Z.a_BadTable) (.type "ValueError") = some true
  ka_BadTable_0 : PySem.W.kitAny K (.ref Z.a_BadTable) [.ref Z.a_BadText, .ref Z.a_BadSeason, .ref Z.a_BadCode, .ref Z.a_BadEvent, .ref Z.a_BadFoe, .ref Z.a_BadPaper, .ref Z.a_BadDisk, .ref Z.a_BadDeed] = some false
  mm_BadTable_WinsError : PySem.W.exmOne K (.ref Z.a_BadTable) (.ref Z.a_WinsError) = some true
  xi_BadDemand : XisC K Z.a_BadDemand
  ki_BadDemand_TooMany : PySem.W.kitOne K (.ref Z.a_BadDemand) (.ref Z.a_TooMany) = some false
  ki_BadDemand_BadLadder : PySem.W.kitOne K (.ref Z.a_BadDemand) (.ref Z.a_BadLadder) = some false
  ki_BadDemand_BadTable : PySem.W.kitOne K (.ref Z.a_BadDemand) (.ref Z.a_BadTable) = some false
  ki_BadDemand_BadDemand : PySem.W.kitOne K (.ref Z.a_BadDemand) (.ref Z.a_BadDemand) = some true
  ki_BadDemand_ValueError : PySem.W.kitOne K (.ref Z.a_BadDemand) (.type "ValueError") = some true
  ka_BadDemand_0 : PySem.W.kitAny K (.ref Z.a_BadDemand) [.ref Z.a_BadText, .ref Z.a_BadSeason, .ref Z.a_BadCode, .ref Z.a_BadEvent, .ref Z.a_BadFoe, .ref Z.a_BadPaper, .ref Z.a_BadDisk, .ref Z.a_BadDeed] = some false
  mm_BadDemand_WinsError : PySem.W.exmOne K (.ref Z.a_BadDemand) (.ref Z.a_WinsError) = some true
  l_Table : Cls K Z.a_Table
  n_Table_ladder_kept : NoAttr K Z.a_Table "ladder_kept"
  n_Table_counts_list : NoAttr K Z.a_Table "counts_list"
  l_Ladder : Cls K Z.a_Ladder
  n_Ladder_lanes_number : NoAttr K Z.a_Ladder "lanes_number"
  n_Ladder_falls_list : NoAttr K Z.a_Ladder "falls_list"
  n_Ladder_returns_kept : NoAttr K Z.a_Ladder "returns_kept"
  n_Ladder_loads_table : NoAttr K Z.a_Ladder "loads_table"
  n_Ladder_heads_list : NoAttr K Z.a_Ladder "heads_list"
  n_Ladder_worths_list : NoAttr K Z.a_Ladder "worths_list"
  f_TooMany_init : ∃ f fd, Fun K "__init__" "TooMany.__init__" st_TooMany_init f fd ∧ PySem.W.findIn K (.ref Z.a_TooMany) "__init__" = some (some (.ref f)) ∧ PySem.W.typeIn K (.ref f) = some (.type "function") ∧ Binds K fd ["self", "what"] []
  f_BadLadder_init : ∃ f fd, Fun K "__init__" "BadLadder.__init__" st_BadLadder_init f fd ∧ PySem.W.findIn K (.ref Z.a_BadLadder) "__init__" = some (some (.ref f)) ∧ PySem.W.typeIn K (.ref f) = some (.type "function") ∧ Binds K fd ["self", "rung"] []
  f_BadTable_init : ∃ f fd, Fun K "__init__" "BadTable.__init__" st_BadTable_init f fd ∧ PySem.W.findIn K (.ref Z.a_BadTable) "__init__" = some (some (.ref f)) ∧ PySem.W.typeIn K (.ref f) = some (.type "function") ∧ Binds K fd ["self", "rung"] []
  f_BadDemand_init : ∃ f fd, Fun K "__init__" "BadDemand.__init__" st_BadDemand_init f fd ∧ PySem.W.findIn K (.ref Z.a_BadDemand) "__init__" = some (some (.ref f)) ∧ PySem.W.typeIn K (.ref f) = some (.type "function") ∧ Binds K fd ["self", "what"] []
  f_bound : ∃ f fd, Fun K "bound" "bound" st_bound f fd ∧ mg "bound" = some (.ref f) ∧ Binds K fd ["what", "number"] []
  f_grown : ∃ f fd, Fun K "grown" "grown" st_grown f fd ∧ mg "grown" = some (.ref f) ∧ Binds K fd ["lanes", "falls", "first", "charges"] []
  f_load_rows : ∃ f fd, Fun K "load_rows" "load_rows" st_load_rows f fd ∧ mg "load_rows" = some (.ref f) ∧ Binds K fd ["lanes", "falls"] []
  f_head_row : ∃ f fd, Fun K "head_row" "head_row" st_head_row f fd ∧ mg "head_row" = some (.ref f) ∧ Binds K fd ["lanes", "falls"] []
  f_worth_row : ∃ f fd, Fun K "worth_row" "worth_row" st_worth_row f fd ∧ mg "worth_row" = some (.ref f) ∧ Binds K fd ["lanes", "falls"] []
  f_wrong_count : ∃ f fd, Fun K "wrong_count" "wrong_count" st_wrong_count f fd ∧ mg "wrong_count" = some (.ref f) ∧ Binds K fd ["counts", "rungs"] []
  f_Table_init : ∃ f fd, Fun K "__init__" "Table.__init__" st_Table_init f fd ∧ Mk K Z.a_Table f ∧ mg "Table" = some (.ref Z.a_Table) ∧ Binds K fd ["self", "ladder", "counts"] []
  f_Table_ladder : ∃ f fd, Fun K "ladder" "Table.ladder" st_Table_ladder f fd ∧ Meth K Z.a_Table "ladder" f ∧ Binds K fd ["self"] []
  f_Table_counts : ∃ f fd, Fun K "counts" "Table.counts" st_Table_counts f fd ∧ Meth K Z.a_Table "counts" f ∧ Binds K fd ["self"] []
  f_Table_on : ∃ f fd, Fun K "on" "Table.on" st_Table_on f fd ∧ Meth K Z.a_Table "on" f ∧ Binds K fd ["self", "a"] []
  f_Table_load : ∃ f fd, Fun K "load" "Table.load" st_Table_load f fd ∧ Meth K Z.a_Table "load" f ∧ Binds K fd ["self", "a"] []
  f_Table_level : ∃ f fd, Fun K "level" "Table.level" st_Table_level f fd ∧ Meth K Z.a_Table "level" f ∧ Binds K fd ["self"] []
  f_Table_check_called : ∃ f fd, Fun K "check_called" "Table.check_called" st_Table_check_called f fd ∧ Meth K Z.a_Table "check_called" f ∧ Binds K fd ["self", "rungs", "at"] []
  f_Table_behind : ∃ f fd, Fun K "behind" "Table.behind" st_Table_behind f fd ∧ Meth K Z.a_Table "behind" f ∧ Binds K fd ["self", "rungs", "at"] []
  f_bill_of : ∃ f fd, Fun K "bill_of" "bill_of" st_bill_of f fd ∧ mg "bill_of" = some (.ref f) ∧ Binds K fd ["first", "last", "crowns"] []
  f_reached_counts : ∃ f fd, Fun K "reached_counts" "reached_counts" st_reached_counts f fd ∧ mg "reached_counts" = some (.ref f) ∧ Binds K fd ["first", "held", "crowns"] []
  f_next_rung : ∃ f fd, Fun K "next_rung" "next_rung" st_next_rung f fd ∧ mg "next_rung" = some (.ref f) ∧ Binds K fd ["table", "due"] []
  f_hidden_season : ∃ f fd, Fun K "hidden_season" "hidden_season" st_hidden_season f fd ∧ mg "hidden_season" = some (.ref f) ∧ Binds K fd ["first", "last", "crowns"] []
  f_wrong_rung : ∃ f fd, Fun K "wrong_rung" "wrong_rung" st_wrong_rung f fd ∧ mg "wrong_rung" = some (.ref f) ∧ Binds K fd ["lanes", "falls"] []
  f_Ladder_init : ∃ f fd, Fun K "__init__" "Ladder.__init__" st_Ladder_init f fd ∧ Mk K Z.a_Ladder f ∧ mg "Ladder" = some (.ref Z.a_Ladder) ∧ Binds K fd ["self", "lanes", "falls", "returns"] []
  f_Ladder_same_as : ∃ f fd, Fun K "same_as" "Ladder.same_as" st_Ladder_same_as f fd ∧ Meth K Z.a_Ladder "same_as" f ∧ Binds K fd ["self", "other"] []
  f_Ladder_lanes : ∃ f fd, Fun K "lanes" "Ladder.lanes" st_Ladder_lanes f fd ∧ Meth K Z.a_Ladder "lanes" f ∧ Binds K fd ["self"] []
  f_Ladder_rungs : ∃ f fd, Fun K "rungs" "Ladder.rungs" st_Ladder_rungs f fd ∧ Meth K Z.a_Ladder "rungs" f ∧ Binds K fd ["self"] []
  f_Ladder_falls : ∃ f fd, Fun K "falls" "Ladder.falls" st_Ladder_falls f fd ∧ Meth K Z.a_Ladder "falls" f ∧ Binds K fd ["self"] []
  f_Ladder_returns : ∃ f fd, Fun K "returns" "Ladder.returns" st_Ladder_returns f fd ∧ Meth K Z.a_Ladder "returns" f ∧ Binds K fd ["self"] []
  f_Ladder_check_rung : ∃ f fd, Fun K "check_rung" "Ladder.check_rung" st_Ladder_check_rung f fd ∧ Meth K Z.a_Ladder "check_rung" f ∧ Binds K fd ["self", "rung"] []
  f_Ladder_check_place : ∃ f fd, Fun K "check_place" "Ladder.check_place" st_Ladder_check_place f fd ∧ Meth K Z.a_Ladder "check_place" f ∧ Binds K fd ["self", "place"] []
  f_Ladder_fall : ∃ f fd, Fun K "fall" "Ladder.fall" st_Ladder_fall f fd ∧ Meth K Z.a_Ladder "fall" f ∧ Binds K fd ["self", "a"] []
  f_Ladder_load : ∃ f fd, Fun K "load" "Ladder.load" st_Ladder_load f fd ∧ Meth K Z.a_Ladder "load" f ∧ Binds K fd ["self", "a", "b"] []
  f_Ladder_weights : ∃ f fd, Fun K "weights" "Ladder.weights" st_Ladder_weights f fd ∧ Meth K Z.a_Ladder "weights" f ∧ Binds K fd ["self"] []
  f_law_e_named : ∃ f fd, Fun K "_law_e_named" "_law_e_named" st_law_e_named f fd ∧ mg "_law_e_named" = some (.ref f) ∧ Binds K fd ["raised"] []
  f_law_e_asked : ∃ f fd, Fun K "_law_e_asked" "_law_e_asked" st_law_e_asked f fd ∧ mg "_law_e_asked" = some (.ref f) ∧ Binds K fd ["call"] []
  f_law_e_refused : ∃ f fd, Fun K "_law_e_refused" "_law_e_refused" st_law_e_refused f fd ∧ mg "_law_e_refused" = some (.ref f) ∧ Binds K fd ["call", "due"] []
  f_law_e_falls : ∃ f fd, Fun K "_law_e_falls" "_law_e_falls" st_law_e_falls f fd ∧ mg "_law_e_falls" = some (.ref f) ∧ Binds K fd ["stock", "rungs"] []
  f_law_e_ladder : ∃ f fd, Fun K "_law_e_ladder" "_law_e_ladder" st_law_e_ladder f fd ∧ mg "_law_e_ladder" = some (.ref f) ∧ Binds K fd ["stock", "least", "most", "widest"] []
  f_law_e_low : ∃ f fd, Fun K "_law_e_low" "_law_e_low" st_law_e_low f fd ∧ mg "_law_e_low" = some (.ref f) ∧ Binds K fd ["row", "fall"] []
  f_law_e_loads : ∃ f fd, Fun K "_law_e_loads" "_law_e_loads" st_law_e_loads f fd ∧ mg "_law_e_loads" = some (.ref f) ∧ Binds K fd ["ladder"] []
  f_law_e_sum : ∃ f fd, Fun K "_law_e_sum" "_law_e_sum" st_law_e_sum f fd ∧ mg "_law_e_sum" = some (.ref f) ∧ Binds K fd ["row", "counts"] []
  f_law_e_behind : ∃ f fd, Fun K "_law_e_behind" "_law_e_behind" st_law_e_behind f fd ∧ mg "_law_e_behind" = some (.ref f) ∧ Binds K fd ["ladder", "counts", "rungs", "at"] []
  f_law_stock : ∃ f fd, Fun K "_law_stock" "_law_stock" st_law_stock f fd ∧ mg "_law_stock" = some (.ref f) ∧ Binds K fd ["script", "at"] []
  f_law_draw : ∃ f fd, Fun K "_law_draw" "_law_draw" st_law_draw f fd ∧ mg "_law_draw" = some (.ref f) ∧ Binds K fd ["stock", "many"] []
  f_law_matches : ∃ f fd, Fun K "_law_matches" "_law_matches" st_law_matches f fd ∧ mg "_law_matches" = some (.ref f) ∧ Binds K fd ["answer", "due"] []
  f_law_k31_season : ∃ f fd, Fun K "_law_k31_season" "_law_k31_season" st_law_k31_season f fd ∧ mg "_law_k31_season" = some (.ref f) ∧ Binds K fd ["stock", "plain", "counts", "most"] []
  f_law_k31_bill : ∃ f fd, Fun K "_law_k31_bill" "_law_k31_bill" st_law_k31_bill f fd ∧ mg "_law_k31_bill" = some (.ref f) ∧ Binds K fd ["plain", "first", "last", "crowns"] []
  f_law_k31_sums : ∃ f fd, Fun K "_law_k31_sums" "_law_k31_sums" st_law_k31_sums f fd ∧ mg "_law_k31_sums" = some (.ref f) ∧ Binds K fd ["plain", "first", "held", "crowns"] []
  f_law_k31_thrifty : ∃ f fd, Fun K "_law_k31_thrifty" "_law_k31_thrifty" st_law_k31_thrifty f fd ∧ mg "_law_k31_thrifty" = some (.ref f) ∧ Binds K fd ["plain", "first", "due", "highest"] []
  f_law_k31_due : ∃ f fd, Fun K "_law_k31_due" "_law_k31_due" st_law_k31_due f fd ∧ mg "_law_k31_due" = some (.ref f) ∧ Binds K fd ["plain", "first", "last", "crowns"] []
  f_law_k31_asked : ∃ f fd, Fun K "_law_k31_asked" "_law_k31_asked" st_law_k31_asked f fd ∧ mg "_law_k31_asked" = some (.ref f) ∧ Binds K fd ["ladder", "plain", "first", "last", "crowns"] []
  f_law_k31_bent : ∃ f fd, Fun K "_law_k31_bent" "_law_k31_bent" st_law_k31_bent f fd ∧ mg "_law_k31_bent" = some (.ref f) ∧ Binds K fd ["stock", "last", "crowns"] []
  f_law_k31_made : ∃ f fd, Fun K "_law_k31_made" "_law_k31_made" st_law_k31_made f fd ∧ mg "_law_k31_made" = some (.ref f) ∧ Binds K fd ["stock", "plain", "first"] []
  f_law_k31_long : ∃ f fd, Fun K "_law_k31_long" "_law_k31_long" st_law_k31_long f fd ∧ fd.code = .ref Z.c_law_k31_long ∧ mg "_law_k31_long" = some (.ref f) ∧ Binds K fd ["stock"] []
  f_law : ∃ f fd, Fun K "law" "law" st_law f fd ∧ fd.code = .ref Z.c_law ∧ mg "law" = some (.ref f) ∧ Binds K fd ["script"] []
def tabs (Z : Ad) : List (Addr × Str) := [(Z.p_law_k31_long, lq "_law_k31_long"), (Z.p_law, lq "law")]
structure Bas (Z : Ad) (mg : Str → Option Value) (base : Heap) : Prop where
  b_law_k31_long : LamX.TabB base mg Z.c_law_k31_long Z.p_law_k31_long
  b_law : LamX.TabB base mg Z.c_law Z.p_law
  ne_law_law_k31_long : Z.p_law ≠ Z.p_law_k31_long
theorem tabs_law_k31_long (Z : Ad) : (Z.p_law_k31_long, lq "_law_k31_long") ∈ tabs Z := by simp [tabs]
theorem tabu_law_k31_long {Z : Ad} {mg : Str → Option Value} {base : Heap} (B : Bas Z mg base) : ∀ p ∈ tabs Z, p.1 = Z.p_law_k31_long → p.2 = lq "_law_k31_long" := by
  intro p hp e
  simp only [tabs, List.mem_cons, List.not_mem_nil, or_false] at hp
  rcases hp with rfl | rfl
  · rfl
  · exact absurd e B.ne_law_law_k31_long
theorem tabs_law (Z : Ad) : (Z.p_law, lq "law") ∈ tabs Z := by simp [tabs]
theorem tabu_law {Z : Ad} {mg : Str → Option Value} {base : Heap} (B : Bas Z mg base) : ∀ p ∈ tabs Z, p.1 = Z.p_law → p.2 = lq "law" := by
  intro p hp e
  simp only [tabs, List.mem_cons, List.not_mem_nil, or_false] at hp
  rcases hp with rfl | rfl
  · exact absurd e.symm B.ne_law_law_k31_long
  · rfl
end L31

set_option Elab.async false
set_option linter.all false
set_option maxRecDepth 100000
set_option maxHeartbeats 4000000
/-! ladders: weights, slack, the rows from the top -/
namespace Ld
/-- sums over the first n -/
def sm (f : Nat → Int) : Nat → Int
  | 0 => 0
  | n + 1 => sm f n + f n
theorem sm_congr {f g : Nat → Int} : ∀ {n : Nat}, (∀ i, i < n → f i = g i) → sm f n = sm g n
  | 0, _ => rfl
  | n + 1, h => by rw [sm, sm, sm_congr fun i hi => h i (by omega), h n (by omega)]
theorem sm_add (f g : Nat → Int) : ∀ n, sm (fun i => f i + g i) n = sm f n + sm g n
  | 0 => rfl
  | n + 1 => by rw [sm, sm, sm, sm_add f g n]; omega
theorem sm_sub (f g : Nat → Int) : ∀ n, sm (fun i => f i - g i) n = sm f n - sm g n
  | 0 => rfl
  | n + 1 => by rw [sm, sm, sm, sm_sub f g n]; omega
theorem sm_mul (c : Int) (f : Nat → Int) : ∀ n, sm (fun i => c * f i) n = c * sm f n
  | 0 => by simp [sm]
  | n + 1 => by rw [sm, sm, sm_mul c f n, Int.mul_add]
theorem sm_zero : ∀ n, sm (fun _ => 0) n = 0
  | 0 => rfl
  | n + 1 => by rw [sm, sm_zero n]; rfl
/-- the sum of the one that is chosen -/
theorem sm_one (a : Nat) (x : Nat → Int) : ∀ n, sm (fun i => if i = a then x i else 0) n = if a < n then x a else 0
  | 0 => by simp [sm]
  | n + 1 => by
    rw [sm, sm_one a x n]
    by_cases h : n = a
    · subst h
      simp
    · by_cases h2 : a < n
      · rw [if_pos h2, if_neg h, if_pos (by omega)]; omega
      · rw [if_neg h2, if_neg h, if_neg (by omega)]; omega
theorem sm_swap (f : Nat → Nat → Int) (m : Nat) : ∀ n, sm (fun i => sm (fun j => f i j) m) n = sm (fun j => sm (fun i => f i j) n) m
  | 0 => by simp only [sm]; rw [sm_zero]
  | n + 1 => by
    simp only [sm]
    rw [sm_swap f m n, sm_add]
/-- what a fall finds -/
def lowV (v : Nat → Int) (f : Int) : Int := if f < 0 then 0 else v f.toNat
def grow (L : Int) (fs : Nat → Int) (x : Int) (ch : Nat → Int) : Nat → List Int
  | 0 => [x]
  | n + 1 => grow L fs x ch n ++ [L * (grow L fs x ch n).getD n 0 - (L - 1) * lowV (fun i => (grow L fs x ch n).getD i 0) (fs n) + ch n]
def gv (L : Int) (fs : Nat → Int) (x : Int) (ch : Nat → Int) (i : Nat) : Int := (grow L fs x ch i).getD i 0
theorem grow_len (L : Int) (fs : Nat → Int) (x : Int) (ch : Nat → Int) : ∀ n, (grow L fs x ch n).length = n + 1
  | 0 => rfl
  | n + 1 => by rw [grow, List.length_append, grow_len L fs x ch n]; rfl
theorem grow_get (L : Int) (fs : Nat → Int) (x : Int) (ch : Nat → Int) : ∀ n i, i ≤ n → (grow L fs x ch n).getD i 0 = gv L fs x ch i
  | 0, i, h => by
    have : i = 0 := by omega
    subst this
    rfl
  | n + 1, i, h => by
    by_cases e : i = n + 1
    · subst e; rfl
    · rw [← grow_get L fs x ch n i (by omega), grow, List.getD_eq_getElem?_getD, List.getD_eq_getElem?_getD, List.getElem?_append_left (by rw [grow_len]; omega)]
      exact List.getD_eq_getElem?_getD.symm
theorem gv_zero (L : Int) (fs : Nat → Int) (x : Int) (ch : Nat → Int) : gv L fs x ch 0 = x := rfl
theorem gv_succ {L : Int} {fs : Nat → Int} {x : Int} {ch : Nat → Int} {n : Nat} (h : fs n ≤ n) : gv L fs x ch (n + 1) = L * gv L fs x ch n - (L - 1) * lowV (gv L fs x ch) (fs n) + ch n := by
  have e : gv L fs x ch (n + 1) = (grow L fs x ch (n + 1)).getD (n + 1) 0 := rfl
  rw [e, grow, List.getD_eq_getElem?_getD, List.getElem?_append_right (by rw [grow_len]; omega), grow_len, Nat.sub_self, List.getElem?_cons_zero, Option.getD_some]
  rw [grow_get L fs x ch n n (Nat.le_refl _)]
  have z : lowV (fun i => (grow L fs x ch n).getD i 0) (fs n) = lowV (gv L fs x ch) (fs n) := by
    unfold lowV
    split
    · rfl
    · exact grow_get L fs x ch n _ (by omega)
  rw [z]
/-- the falls that are right -/
def OkF (fs : Nat → Int) : Prop := ∀ i, -1 ≤ fs i ∧ fs i ≤ i ∧ (0 < i → fs i ≤ (i : Int) - 1)
def dl (a b : Nat) : Int := if b = a then 1 else 0
/-- loads and heads -/
def ld (L : Int) (fs : Nat → Int) (a b : Nat) : Int := gv L fs 0 (dl a) b
def hd (L : Int) (fs : Nat → Int) (b : Nat) : Int := gv L fs 1 (fun _ => 0) b
theorem ld_zero {L : Int} {fs : Nat → Int} (ok : OkF fs) {a : Nat} : ∀ b, b ≤ a → ld L fs a b = 0 := by
  intro b
  induction b using Nat.strongRecOn with
  | _ b ih =>
    intro hb
    cases b with
    | zero => rfl
    | succ n =>
      show gv L fs 0 (dl a) (n + 1) = 0
      rw [gv_succ (ok n).2.1]
      have h1 : gv L fs 0 (dl a) n = 0 := ih n (by omega) (by omega)
      have h2 : lowV (gv L fs 0 (dl a)) (fs n) = 0 := by
        unfold lowV
        have := ok n
        split
        · rfl
        · exact ih _ (by omega) (by omega)
      rw [h1, h2]
      simp [dl]
      omega
theorem ld_succ {L : Int} {fs : Nat → Int} (ok : OkF fs) (a n : Nat) : ld L fs a (n + 1) = L * ld L fs a n - (L - 1) * lowV (ld L fs a) (fs n) + dl a n := gv_succ (ok n).2.1
theorem hd_succ {L : Int} {fs : Nat → Int} (ok : OkF fs) (n : Nat) : hd L fs (n + 1) = L * hd L fs n - (L - 1) * lowV (hd L fs) (fs n) := by
  have := gv_succ (L := L) (x := 1) (ch := fun _ => 0) (ok n).2.1
  rw [Int.add_zero] at this
  exact this
theorem low_ld {L : Int} {fs : Nat → Int} (ok : OkF fs) {a n : Nat} (h : n ≤ a) : lowV (ld L fs a) (fs n) = 0 := by
  unfold lowV
  have := ok n
  split
  · rfl
  · exact ld_zero ok _ (by omega)
theorem ld_one {L : Int} {fs : Nat → Int} (ok : OkF fs) (a : Nat) : ld L fs a (a + 1) = 1 := by
  rw [ld_succ ok, ld_zero ok a (Nat.le_refl _), low_ld ok (Nat.le_refl _)]
  simp [dl]
/-- the row ahead of the rung a's own -/
def pr (L : Int) (fs : Nat → Int) (a b : Nat) : Int := if a = 0 then hd L fs b else ld L fs (a - 1) b
theorem lowV_add (v w : Nat → Int) (f : Int) : lowV (fun b => v b + w b) f = lowV v f + lowV w f := by unfold lowV; split <;> simp
theorem lowV_sub (v w : Nat → Int) (f : Int) : lowV (fun b => v b - w b) f = lowV v f - lowV w f := by unfold lowV; split <;> simp
theorem lowV_mul (c : Int) (v : Nat → Int) (f : Int) : lowV (fun b => c * v b) f = c * lowV v f := by unfold lowV; split <;> simp
theorem lowV_sm (v : Nat → Nat → Int) (f : Int) (k : Nat) : lowV (fun b => sm (fun e => v e b) k) f = sm (fun e => lowV (v e) f) k := by
  unfold lowV
  split
  · rw [sm_zero]
  · rfl
theorem lowV_congr {v w : Nat → Int} {f : Int} (h : ∀ i : Nat, (i : Int) = f → v i = w i) : lowV v f = lowV w f := by
  unfold lowV
  split
  · rfl
  · exact h _ (by omega)
/-- the row ahead, told by the own one and the rows of the rungs that fall there -/
theorem pr_eq {L : Int} {fs : Nat → Int} (ok : OkF fs) {a k : Nat} (ha : a < k) : ∀ b, b ≤ k → pr L fs a b = dl a b + L * ld L fs a b - (L - 1) * sm (fun e => if fs e = a then ld L fs e b else 0) k := by
  intro b
  induction b using Nat.strongRecOn with
  | _ b ih =>
    intro hb
    cases b with
    | zero =>
      rw [ld_zero ok 0 (by omega), sm_congr (g := fun _ => 0) (fun i _ => by rw [ld_zero ok 0 (by omega)]; simp), sm_zero]
      unfold pr dl
      by_cases h : a = 0
      · rw [if_pos h, if_pos h.symm]; show (1 : Int) = _; simp
      · rw [if_neg h, if_neg (by omega), ld_zero ok 0 (by omega)]; simp
    | succ n =>
      have i1 := ih n (by omega) (by omega)
      have i2 : lowV (pr L fs a) (fs n) = lowV (fun b => dl a b + L * ld L fs a b - (L - 1) * sm (fun e => if fs e = a then ld L fs e b else 0) k) (fs n) :=
        lowV_congr fun i hi => ih i (by have := (ok n).2.1; omega) (by have := (ok n).2.1; omega)
      have e1 : pr L fs a (n + 1) = L * pr L fs a n - (L - 1) * lowV (pr L fs a) (fs n) + (if a = n + 1 then 1 else 0) := by
        unfold pr
        by_cases h : a = 0
        · simp only [h, if_true]
          rw [hd_succ ok]
          have : ¬ 0 = n + 1 := by omega
          rw [if_neg this]
          show _ = L * hd L fs n - (L - 1) * lowV (hd L fs) (fs n) + 0
          omega
        · simp only [if_neg h]
          rw [ld_succ ok]
          congr 1
          unfold dl
          by_cases h2 : a = n + 1
          · rw [if_pos h2, if_pos (by omega)]
          · rw [if_neg h2, if_neg (by omega)]
      have e2 : sm (fun e => if fs e = a then ld L fs e (n + 1) else 0) k = L * sm (fun e => if fs e = a then ld L fs e n else 0) k - (L - 1) * sm (fun e => lowV (fun b => if fs e = a then ld L fs e b else 0) (fs n)) k + (if fs n = a then 1 else 0) := by
        rw [← sm_mul, ← sm_mul, ← sm_sub]
        have : (if fs n = (a : Int) then (1 : Int) else 0) = sm (fun e => if e = n then (if fs e = (a : Int) then 1 else 0) else 0) k := by
          rw [sm_one n (fun e => if fs e = (a : Int) then 1 else 0), if_pos (show n < k by omega)]
        rw [this, ← sm_add]
        refine sm_congr fun e _ => ?_
        by_cases h : fs e = a
        · simp only [if_pos h]
          rw [ld_succ ok]
          congr 1
          unfold dl
          by_cases h2 : n = e
          · subst h2; simp
          · rw [if_neg h2, if_neg (fun z => h2 z.symm)]
        · simp only [if_neg h]
          have : lowV (fun _ => (0 : Int)) (fs n) = 0 := by unfold lowV; split <;> rfl
          rw [this]
          simp
      have e3 : lowV (dl a) (fs n) = if fs n = a then 1 else 0 := by
        unfold lowV dl
        have := (ok n).1
        by_cases h : fs n < 0
        · rw [if_pos h, if_neg (by omega)]
        · rw [if_neg h]
          by_cases h2 : fs n = a
          · rw [if_pos h2, if_pos (by omega)]
          · rw [if_neg h2, if_neg (by omega)]
      rw [lowV_sub, lowV_add, lowV_mul, lowV_mul, lowV_sm, e3] at i2
      rw [e1, i1, i2, e2, ld_succ ok]
      have hd1 : dl a (n + 1) = if a = n + 1 then 1 else 0 := by
        unfold dl
        by_cases h : a = n + 1
        · rw [if_pos h, if_pos h.symm]
        · rw [if_neg h, if_neg (fun z => h z.symm)]
      rw [hd1]
      generalize sm (fun e => if fs e = (a : Int) then ld L fs e n else 0) k = S1
      generalize sm (fun e => lowV (fun b => if fs e = (a : Int) then ld L fs e b else 0) (fs n)) k = S2
      generalize (if fs n = (a : Int) then (1 : Int) else 0) = d1
      generalize (if a = n + 1 then (1 : Int) else 0) = d2
      generalize ld L fs a n = x
      generalize lowV (ld L fs a) (fs n) = y
      generalize dl a n = z
      grind
end Ld

set_option Elab.async false
set_option linter.all false
set_option maxRecDepth 100000
set_option maxHeartbeats 4000000
namespace Ld
/-- one entry of the demanded slack -/
def ent (k : Nat) (s : Nat → Int) (more lost : Int) (v : Nat → Int) (e : Int) : Int := sm (fun b => s b * v b) k + more * (v k - e) + lost * v (k - 1)
theorem ent_e (k : Nat) (s : Nat → Int) (more lost : Int) (v : Nat → Int) (e : Int) : ent k s more lost v e = ent k s more lost v 0 - more * e := by
  unfold ent
  generalize sm (fun b => s b * v b) k = x
  grind
theorem ent_congr {k : Nat} {s : Nat → Int} {more lost e : Int} {v w : Nat → Int} (h : ∀ b, b ≤ k → v b = w b) : ent k s more lost v e = ent k s more lost w e := by
  unfold ent
  rw [sm_congr (g := fun b => s b * w b) (fun i hi => by rw [h i (by omega)]), h k (by omega), h (k - 1) (by omega)]
theorem ent_lin (k : Nat) (s : Nat → Int) (more lost c d : Int) (x y z : Nat → Int) : ent k s more lost (fun b => x b + c * y b - d * z b) 0 = ent k s more lost x 0 + c * ent k s more lost y 0 - d * ent k s more lost z 0 := by
  unfold ent
  have h : sm (fun b => s b * (x b + c * y b - d * z b)) k = sm (fun b => s b * x b) k + c * sm (fun b => s b * y b) k - d * sm (fun b => s b * z b) k := by
    rw [← sm_mul, ← sm_mul, ← sm_add, ← sm_sub]
    exact sm_congr fun i _ => by grind
  rw [h]
  generalize sm (fun b => s b * x b) k = a1
  generalize sm (fun b => s b * y b) k = a2
  generalize sm (fun b => s b * z b) k = a3
  grind
theorem ent_sm (k : Nat) (s : Nat → Int) (more lost : Int) (P : Nat → Prop) [DecidablePred P] (v : Nat → Nat → Int) (m : Nat) : ent k s more lost (fun b => sm (fun e => if P e then v e b else 0) m) 0 = sm (fun e => if P e then ent k s more lost (v e) 0 else 0) m := by
  have h : ∀ e, (if P e then ent k s more lost (v e) 0 else 0) = (sm (fun b => s b * (if P e then v e b else 0)) k + more * (if P e then v e k else 0)) + lost * (if P e then v e (k - 1) else 0) := fun e => by
    by_cases he : P e
    · simp only [if_pos he]; unfold ent; grind
    · simp only [if_neg he, Int.mul_zero]; rw [sm_zero]; rfl
  rw [sm_congr fun e _ => h e, sm_add, sm_add, sm_mul, sm_mul, sm_swap]
  unfold ent
  rw [Int.sub_zero]
  congr 1
  congr 1
  exact sm_congr fun b _ => by rw [sm_mul]
theorem ent_dl {k a : Nat} (s : Nat → Int) (more lost : Int) (h : a < k) : ent k s more lost (dl a) 0 = s a + (if a = k - 1 then lost else 0) := by
  unfold ent
  rw [sm_congr (g := fun b => if b = a then s b else 0) (fun i _ => by unfold dl; split <;> simp), sm_one, if_pos h]
  unfold dl
  rw [if_neg (by omega)]
  by_cases e : a = k - 1
  · rw [if_pos e, if_pos e.symm]; simp
  · rw [if_neg e, if_neg (fun z => e z.symm)]; simp
/-- the demanded slack's entries, from heads on -/
def en (L : Int) (fs : Nat → Int) (k : Nat) (s : Nat → Int) (more lost ret : Int) (a : Nat) : Int := ent k s more lost (pr L fs a) (if a = 0 then ret else 0)
theorem pr_succ (L : Int) (fs : Nat → Int) (a : Nat) : pr L fs (a + 1) = ld L fs a := by
  funext b
  unfold pr
  rw [if_neg (by omega)]
  rfl
theorem pr_z (L : Int) (fs : Nat → Int) : pr L fs 0 = hd L fs := by
  funext b
  unfold pr
  rw [if_pos rfl]
theorem en_zero (L : Int) (fs : Nat → Int) (k : Nat) (s : Nat → Int) (more lost ret : Int) : en L fs k s more lost ret 0 = ent k s more lost (hd L fs) ret := by
  unfold en
  rw [pr_z, if_pos rfl]
theorem en_succ (L : Int) (fs : Nat → Int) (k : Nat) (s : Nat → Int) (more lost ret : Int) (a : Nat) : en L fs k s more lost ret (a + 1) = ent k s more lost (ld L fs a) 0 := by
  unfold en
  rw [pr_succ, if_neg (by omega)]
/-- the rows from the top -/
theorem en_row {L : Int} {fs : Nat → Int} (ok : OkF fs) {k a : Nat} (s : Nat → Int) (more lost ret : Int) (ha : a < k) :
    en L fs k s more lost ret a = s a + L * en L fs k s more lost ret (a + 1) - (L - 1) * sm (fun e => if fs e = a then en L fs k s more lost ret (e + 1) else 0) k + (if a = k - 1 then lost else 0) - (if a = 0 then more * ret else 0) := by
  have h1 : en L fs k s more lost ret a = ent k s more lost (pr L fs a) 0 - (if a = 0 then more * ret else 0) := by
    unfold en
    rw [ent_e]
    by_cases h : a = 0
    · simp only [if_pos h]
    · simp only [if_neg h, Int.mul_zero]
  rw [h1, ent_congr (fun b hb => pr_eq ok ha b hb), ent_lin, ent_dl _ _ _ ha, ent_sm k s more lost (fun e => fs e = (a : Int)) (ld L fs) k, en_succ]
  rw [sm_congr (f := fun e => if fs e = (a : Int) then en L fs k s more lost ret (e + 1) else 0) (g := fun e => if fs e = (a : Int) then ent k s more lost (ld L fs e) 0 else 0) (fun e _ => by simp only [en_succ])]
  generalize sm (fun e => if fs e = (a : Int) then ent k s more lost (ld L fs e) 0 else 0) k = x
  generalize (if a = k - 1 then lost else 0) = y
  generalize (if a = 0 then more * ret else 0) = z
  generalize L * ent k s more lost (ld L fs a) 0 = w
  generalize (L - 1) * x = v
  omega
theorem en_top {L : Int} {fs : Nat → Int} (ok : OkF fs) {k : Nat} (s : Nat → Int) (more lost ret : Int) (hk : 0 < k) : en L fs k s more lost ret k = more := by
  obtain ⟨j, rfl⟩ : ∃ j, k = j + 1 := ⟨k - 1, by omega⟩
  rw [en_succ]
  unfold ent
  rw [sm_congr (g := fun _ => 0) (fun i hi => by rw [ld_zero ok i (by omega)]; simp), sm_zero, ld_one ok, Nat.add_sub_cancel, ld_zero ok j (Nat.le_refl _)]
  simp
/-- sizes -/
theorem pow12 {a b : Nat} (h : a ≤ b) : 12 ^ a ≤ 12 ^ b := Nat.pow_le_pow_right (by decide) h
theorem gv_bd {L : Int} {fs : Nat → Int} {x : Int} {ch : Nat → Int} (ok : OkF fs) (h1 : 0 ≤ L) (h2 : L ≤ 6) (hx : x.natAbs ≤ 1) (hc : ∀ i, (ch i).natAbs ≤ 1) : ∀ n, (gv L fs x ch n).natAbs ≤ 12 ^ n := by
  intro n
  induction n using Nat.strongRecOn with
  | _ n ih =>
    cases n with
    | zero => exact hx
    | succ m =>
      rw [gv_succ (ok m).2.1]
      have i1 := ih m (by omega)
      have i2 : (lowV (gv L fs x ch) (fs m)).natAbs ≤ 12 ^ m := by
        unfold lowV
        have := ok m
        split
        · exact Nat.zero_le _
        · exact Nat.le_trans (ih _ (by omega)) (pow12 (by omega))
      have i3 := hc m
      have p1 : 1 ≤ 12 ^ m := Nat.one_le_pow _ _ (by decide)
      rw [Nat.pow_succ]
      generalize 12 ^ m = B at *
      generalize gv L fs x ch m = g at *
      generalize lowV (gv L fs x ch) (fs m) = l at *
      generalize ch m = c at *
      have q1 : (L * g).natAbs ≤ 6 * B := by rw [Int.natAbs_mul]; exact Nat.mul_le_mul (by omega) i1
      have q2 : ((L - 1) * l).natAbs ≤ 5 * B := by rw [Int.natAbs_mul]; exact Nat.mul_le_mul (by omega) i2
      generalize L * g = u at *
      generalize (L - 1) * l = v at *
      omega
theorem ld_bd {L : Int} {fs : Nat → Int} (ok : OkF fs) (h1 : 0 ≤ L) (h2 : L ≤ 6) (a b : Nat) (hb : b ≤ 41) : (ld L fs a b).natAbs < 2 ^ 150 :=
  Nat.lt_of_le_of_lt (gv_bd ok h1 h2 (by decide) (fun i => by unfold dl; split <;> decide) b) (Nat.lt_of_le_of_lt (pow12 hb) (by decide))
theorem hd_bd {L : Int} {fs : Nat → Int} (ok : OkF fs) (h1 : 0 ≤ L) (h2 : L ≤ 6) (b : Nat) (hb : b ≤ 41) : (hd L fs b).natAbs < 2 ^ 150 :=
  Nat.lt_of_le_of_lt (gv_bd ok h1 h2 (by decide) (fun i => by decide) b) (Nat.lt_of_le_of_lt (pow12 hb) (by decide))
theorem pr_bd {L : Int} {fs : Nat → Int} (ok : OkF fs) (h1 : 0 ≤ L) (h2 : L ≤ 6) (a b : Nat) (hb : b ≤ 41) : (pr L fs a b).natAbs < 2 ^ 150 := by
  unfold pr
  split
  · exact hd_bd ok h1 h2 b hb
  · exact ld_bd ok h1 h2 _ b hb
theorem sm_bd {f : Nat → Int} {B : Nat} : ∀ {n : Nat}, (∀ i, i < n → (f i).natAbs ≤ B) → (sm f n).natAbs ≤ n * B
  | 0, _ => by simp [sm]
  | n + 1, h => by
    have h1 := sm_bd (n := n) fun i hi => h i (by omega)
    have h2 := h n (by omega)
    rw [sm, Nat.add_mul, Nat.one_mul]
    omega
theorem en_bd {L : Int} {fs : Nat → Int} (ok : OkF fs) (h1 : 0 ≤ L) (h2 : L ≤ 6) {k : Nat} {s : Nat → Int} {more lost ret : Int} (hk : k ≤ 40) (hs : ∀ i, i < k → (s i).natAbs ≤ 2 ^ 10) (hm : more.natAbs ≤ 2 ^ 40) (hl : lost.natAbs ≤ 2 ^ 40) (hr : ret.natAbs ≤ 1) (a : Nat) :
    (en L fs k s more lost ret a).natAbs < 2 ^ 200 := by
  unfold en ent
  have b := fun i hi => pr_bd (a := a) ok h1 h2 i hi
  generalize pr L fs a = v at *
  have q1 : (sm (fun b => s b * v b) k).natAbs ≤ k * (2 ^ 10 * 2 ^ 150) := sm_bd fun i hi => by
    rw [Int.natAbs_mul]
    exact Nat.mul_le_mul (hs i hi) (Nat.le_of_lt (b i (by omega)))
  have q2 : (more * (v k - if a = 0 then ret else 0)).natAbs ≤ 2 ^ 40 * 2 ^ 151 := by
    rw [Int.natAbs_mul]
    refine Nat.mul_le_mul hm ?_
    have := b k (by omega)
    split <;> omega
  have q3 : (lost * v (k - 1)).natAbs ≤ 2 ^ 40 * 2 ^ 150 := by
    rw [Int.natAbs_mul]
    exact Nat.mul_le_mul hl (Nat.le_of_lt (b _ (by omega)))
  generalize sm (fun b => s b * v b) k = x at *
  generalize (more * (v k - if a = 0 then ret else 0)) = y at *
  generalize lost * v (k - 1) = z at *
  have q4 : k * (2 ^ 10 * 2 ^ 150) ≤ 40 * (2 ^ 10 * 2 ^ 150) := Nat.mul_le_mul_right _ hk
  omega
/-- the greatest entry below 0, less one -/
def brk (es : Nat → Int) : Nat → Option Int
  | 0 => none
  | n + 1 => if es n < 0 then some ((n : Int) - 1) else brk es n
theorem brk_some {es : Nat → Int} : ∀ {n : Nat} {b : Int}, brk es n = some b → -1 ≤ b ∧ b < (n : Int) - 1 ∧ (0 : Int) ≤ b + 1
  | 0, b, h => by cases h
  | n + 1, b, h => by
    unfold brk at h
    split at h
    · cases h; omega
    · have := brk_some h; omega
theorem brk_congr {es fs : Nat → Int} : ∀ {n : Nat}, (∀ i, i < n → es i = fs i) → brk es n = brk fs n
  | 0, _ => rfl
  | n + 1, h => by unfold brk; rw [h n (by omega), brk_congr fun i hi => h i (by omega)]
end Ld

set_option Elab.async false
set_option linter.all false
set_option maxRecDepth 100000
set_option maxHeartbeats 4000000
namespace Ld
open PySem PySem.Spec PyProof.Rows L2 Rl Eg SX
def fn (fs : List Int) : Nat → Int := fun i => fs.getD i 0
theorem fn_at {fs : List Int} {i : Nat} {f : Int} (h : fs[i]? = some f) : fn fs i = f := by unfold fn; rw [List.getD_eq_getElem?_getD, h]; rfl
def rng (n : Nat) (f : Nat → Int) : List V := (List.range n).map fun i => V.int (f i)
theorem rng_len {n : Nat} {f : Nat → Int} : (rng n f).length = n := by simp [rng]
theorem rng_at {n i : Nat} {f : Nat → Int} (h : i < n) : (rng n f)[i]? = some (.int (f i)) := by unfold rng; rw [List.getElem?_map, List.getElem?_range h]; rfl
theorem rng_succ (n : Nat) (f : Nat → Int) : rng (n + 1) f = rng n f ++ [.int (f n)] := by unfold rng; rw [List.range_succ, List.map_append]; rfl
theorem rng_fn (fs : List Int) : fs.map V.int = rng fs.length (fn fs) := by
  apply List.ext_getElem?
  intro i
  by_cases h : i < fs.length
  · rw [rng_at h, List.getElem?_map, List.getElem?_eq_getElem h, ← fn_at (List.getElem?_eq_getElem h)]; rfl
  · rw [List.getElem?_eq_none (by rw [List.length_map]; omega), List.getElem?_eq_none (by rw [rng_len]; omega)]
theorem rng_congr {n : Nat} {f g : Nat → Int} (h : ∀ i, i < n → f i = g i) : rng n f = rng n g := List.map_congr_left fun i hi => by rw [h i (List.mem_range.mp hi)]
/-- an own list of whole numbers -/
def IL (H : Hp) (p : Addr) (n : Nat) (f : Nat → Int) : Prop := H p = some (.lst (rng n f))
theorem IL.same {H H' : Hp} {p : Addr} {n : Nat} {f : Nat → Int} (h : IL H p n f) (e : Same H H') : IL H' p n f := e _ _ h
theorem IL.sq {K : PySem.W.Frag} {H : Hp} {p : Addr} {n : Nat} {f : Nat → Int} (h : IL H p n f) : SqL K H p (rng n f) := .of h
theorem IL.of {H : Hp} {p : Addr} {xs : List V} {n : Nat} {f : Nat → Int} (h : H p = some (.lst xs)) (e : xs = rng n f) : IL H p n f := by unfold IL; rw [h, e]
theorem cutV_from (xs : List V) (m : Nat) (h : m ≤ xs.length) : cutV xs (some (m : Int)) none = xs.drop m := by
  unfold cutV
  rw [HT.sIx_nat, HT.sIx_none, Nat.min_eq_left h, List.take_of_length_le (by rw [List.length_drop]; omega)]
theorem rng_drop (n m : Nat) (f : Nat → Int) : (rng n f).drop m = rng (n - m) (fun j => f (m + j)) := by
  apply List.ext_getElem?
  intro i
  rw [List.getElem?_drop]
  by_cases h : i < n - m
  · rw [rng_at h, rng_at (by omega)]
  · rw [List.getElem?_eq_none (by rw [rng_len]; omega), List.getElem?_eq_none (by rw [rng_len]; omega)]
theorem rng_cut {n m : Nat} {f : Nat → Int} (h : m ≤ n) : cutV (rng n f) (some (m : Int)) none = rng (n - m) (fun j => f (m + j)) := by
  rw [cutV_from _ _ (by rw [rng_len]; exact h), rng_drop]
theorem il_ne {H : Hp} {q D : Addr} {m : Nat} {f : Nat → Int} {qs : List Addr} (h : IL H q (m + 1) f) (e : H D = some (.lst (qs.map V.ref))) : q ≠ D := by
  intro z
  subst z
  unfold IL at h
  rw [h] at e
  injection e with e
  injection e with e
  have h0 := congrArg (fun l : List V => l[0]?) e
  rw [rng_at (by omega), List.getElem?_map] at h0
  cases hq : qs[0]? with
  | none => rw [hq] at h0; cases h0
  | some z => rw [hq] at h0; cases h0
theorem g_truL {K : PySem.W.Frag} {H : Hp} {p : Addr} {xs : List V} {Q : Bool → Hp → Prop} (h : SqL K H p xs) (k : Q (!xs.isEmpty) H) : gTru K (.ref p) H Q := ⟨_, .inl ⟨xs, h, rfl⟩, k⟩
end Ld

set_option Elab.async false
set_option linter.all false
set_option maxRecDepth 100000
set_option maxHeartbeats 4000000
/-! ladders: what grows, newcomers, crowns, prices -/
namespace Ld
theorem gv_mono {L : Int} {fs : Nat → Int} {x : Int} {ch : Nat → Int} (ok : OkF fs) (h1 : 1 ≤ L) (hx : 0 ≤ x) (hc : ∀ i, 0 ≤ ch i) : ∀ n, 0 ≤ gv L fs x ch n ∧ ∀ m, m ≤ n → gv L fs x ch m ≤ gv L fs x ch n := by
  intro n
  induction n with
  | zero => exact ⟨hx, fun m hm => by rw [show m = 0 by omega]; exact Int.le_refl _⟩
  | succ n ih =>
    obtain ⟨i1, i2⟩ := ih
    have hl : lowV (gv L fs x ch) (fs n) ≤ gv L fs x ch n := by
      unfold lowV
      have := ok n
      split
      · exact i1
      · exact i2 _ (by omega)
    have hs : gv L fs x ch n ≤ gv L fs x ch (n + 1) := by
      rw [gv_succ (ok n).2.1]
      have := hc n
      generalize lowV (gv L fs x ch) (fs n) = l at *
      generalize gv L fs x ch n = g at *
      have q : 0 ≤ (L - 1) * (g - l) := Int.mul_nonneg (by omega) (by omega)
      have e : L * g - (L - 1) * l = g + (L - 1) * (g - l) := by grind
      omega
    refine ⟨by omega, fun m hm => ?_⟩
    by_cases e : m = n + 1
    · rw [e]; exact Int.le_refl _
    · have := i2 m (by omega)
      omega
theorem ld_nn {L : Int} {fs : Nat → Int} (ok : OkF fs) (h1 : 1 ≤ L) (a b : Nat) : 0 ≤ ld L fs a b := (gv_mono ok h1 (by decide) (fun i => by unfold dl; split <;> decide) b).1
theorem ld_up {L : Int} {fs : Nat → Int} (ok : OkF fs) (h1 : 1 ≤ L) {a k : Nat} (h : a < k) : 1 ≤ ld L fs a k := by
  have h2 : gv L fs 0 (dl a) (a + 1) ≤ gv L fs 0 (dl a) k := (gv_mono ok h1 (by decide) (fun i => by unfold dl; split <;> decide) k).2 (a + 1) h
  have h3 : gv L fs 0 (dl a) (a + 1) = 1 := ld_one ok a
  show 1 ≤ gv L fs 0 (dl a) k
  omega
theorem hd_up {L : Int} {fs : Nat → Int} (ok : OkF fs) (h1 : 1 ≤ L) {m n : Nat} (h : m ≤ n) : hd L fs m ≤ hd L fs n := (gv_mono (x := 1) ok h1 (by decide) (fun i => by decide) n).2 m h
theorem hd_pos {L : Int} {fs : Nat → Int} (ok : OkF fs) (h1 : 1 ≤ L) (n : Nat) : 1 ≤ hd L fs n := by
  have := hd_up ok h1 (Nat.zero_le n)
  exact this
theorem hd_all {L : Int} {fs : Nat → Int} (ok : OkF fs) {k : Nat} (h : ∀ i, i < k → 0 ≤ fs i) : ∀ b, b ≤ k → hd L fs b = 1 := by
  intro b
  induction b using Nat.strongRecOn with
  | _ b ih =>
    intro hb
    cases b with
    | zero => rfl
    | succ n =>
      have h1 := ih n (by omega) (by omega)
      have h2 : lowV (hd L fs) (fs n) = 1 := by
        unfold lowV
        have := ok n
        have := h n (by omega)
        rw [if_neg (by omega)]
        exact ih _ (by omega) (by omega)
      rw [hd_succ ok, h1, h2]
      omega
theorem hd_out {L : Int} {fs : Nat → Int} (ok : OkF fs) (h2 : 2 ≤ L) {i k : Nat} (hi : i < k) (ho : fs i = -1) : 2 ≤ hd L fs k := by
  have h1 := hd_up (L := L) ok (by omega) (show i + 1 ≤ k by omega)
  have h3 := hd_pos (L := L) ok (by omega) i
  have h4 : lowV (hd L fs) (fs i) = 0 := by unfold lowV; rw [if_pos (by omega)]
  rw [hd_succ ok, h4, Int.mul_zero, Int.sub_zero] at h1
  have h5 : 2 * 1 ≤ L * hd L fs i := Int.mul_le_mul h2 h3 (by decide) (by omega)
  omega
theorem sm_nn {f : Nat → Int} : ∀ {n : Nat}, (∀ i, i < n → 0 ≤ f i) → 0 ≤ sm f n
  | 0, _ => by simp [sm]
  | n + 1, h => by
    have h1 := sm_nn (n := n) fun i hi => h i (by omega)
    have h2 := h n (by omega)
    rw [sm]
    omega
theorem wd_eq {L : Int} {fs : Nat → Int} (ok : OkF fs) {k : Nat} : ∀ b, b ≤ k → gv L fs 0 (fun _ => 1) b = sm (fun a => ld L fs a b) k := by
  intro b
  induction b using Nat.strongRecOn with
  | _ b ih =>
    intro hb
    cases b with
    | zero => rw [sm_congr (g := fun _ => 0) (fun i _ => ld_zero ok 0 (by omega)), sm_zero]; rfl
    | succ n =>
      have i1 := ih n (by omega) (by omega)
      have i2 : lowV (gv L fs 0 (fun _ => 1)) (fs n) = sm (fun a => lowV (ld L fs a) (fs n)) k := by
        rw [← lowV_sm]
        exact lowV_congr fun i hi => ih i (by have := (ok n).2.1; omega) (by have := (ok n).2.1; omega)
      have i3 : sm (fun a => dl a n) k = 1 := by
        rw [sm_congr (g := fun a => if a = n then 1 else 0) (fun i _ => by unfold dl; by_cases h : n = i; { rw [if_pos h, if_pos h.symm] }; { rw [if_neg h, if_neg (fun z => h z.symm)] }), sm_one n (fun _ => 1), if_pos (by omega)]
      rw [gv_succ (ok n).2.1, i1, i2, sm_congr (g := fun a => (L * ld L fs a n - (L - 1) * lowV (ld L fs a) (fs n)) + dl a n) (fun a _ => ld_succ ok a n), sm_add, sm_sub, sm_mul, sm_mul, i3]
theorem pr_0 (L : Int) (fs : Nat → Int) (ok : OkF fs) (a : Nat) : pr L fs a 0 = if a = 0 then 1 else 0 := by
  unfold pr
  split
  · rfl
  · exact ld_zero ok 0 (by omega)
theorem pr_nn {L : Int} {fs : Nat → Int} (ok : OkF fs) (h1 : 1 ≤ L) (a b : Nat) : 0 ≤ pr L fs a b := by
  unfold pr
  split
  · have := hd_pos ok h1 b; omega
  · exact ld_nn ok h1 _ _
/-- more players on rung 0 -/
theorem en_add {L : Int} {fs : Nat → Int} (ok : OkF fs) {k : Nat} (hk : 0 < k) {s s' : Nat → Int} {t : Int} (hs : ∀ b, b < k → s' b = s b - (if b = 0 then t else 0)) (more lost ret : Int) (a : Nat) :
    en L fs k s' more lost ret a = en L fs k s more lost ret a - (if a = 0 then t else 0) := by
  unfold en ent
  have h : sm (fun b => s' b * pr L fs a b) k = sm (fun b => s b * pr L fs a b) k - (if a = 0 then t else 0) := by
    rw [sm_congr (g := fun b => s b * pr L fs a b - (if b = 0 then t * pr L fs a b else 0)) (fun b hb => by rw [hs b hb]; split <;> grind), sm_sub, sm_one 0 (fun b => t * pr L fs a b), if_pos hk, pr_0 L fs ok]
    split <;> simp
  rw [h]
  omega
theorem en_nn {L : Int} {fs : Nat → Int} (ok : OkF fs) (h1 : 1 ≤ L) {k : Nat} {s : Nat → Int} {more lost ret : Int} (hs : ∀ b, b < k → 0 ≤ s b) (hm : 0 ≤ more) (hl : 0 ≤ lost) (hr : ret ≤ 1) (a : Nat) : 0 ≤ en L fs k s more lost ret a := by
  unfold en ent
  have q1 : 0 ≤ sm (fun b => s b * pr L fs a b) k := sm_nn fun i hi => Int.mul_nonneg (hs i hi) (pr_nn ok h1 _ _)
  have q2 : 0 ≤ more * (pr L fs a k - if a = 0 then ret else 0) := by
    refine Int.mul_nonneg hm ?_
    have := pr_nn ok h1 a k
    split
    · rename_i h
      subst h
      rw [pr_z]
      have := hd_pos ok h1 k
      omega
    · omega
  have q3 : 0 ≤ lost * pr L fs a (k - 1) := Int.mul_nonneg hl (pr_nn ok h1 _ _)
  omega
/-- what one crown more costs -/
def cst (L : Int) (fs : Nat → Int) (k : Nat) (ret : Int) (a : Nat) : Int := pr L fs a k - if a = 0 then ret else 0
theorem en_crown (L : Int) (fs : Nat → Int) (k : Nat) (s : Nat → Int) (more m lost ret : Int) (a : Nat) : en L fs k s (more + m) lost ret a = en L fs k s more lost ret a + m * cst L fs k ret a := by
  unfold en ent cst
  rw [Int.add_mul]
  omega
theorem en_lost (L : Int) (fs : Nat → Int) (k : Nat) (s : Nat → Int) (more lost m ret : Int) (a : Nat) : en L fs k s more (lost + m) ret a = en L fs k s more lost ret a + m * pr L fs a (k - 1) := by
  unfold en ent
  rw [Int.add_mul]
  omega
theorem cst_nn {L : Int} {fs : Nat → Int} (ok : OkF fs) (h1 : 1 ≤ L) {k : Nat} {ret : Int} (hr : ret ≤ 1) (a : Nat) : 0 ≤ cst L fs k ret a := by
  unfold cst
  have := pr_nn ok h1 a k
  split
  · rename_i h
    subst h
    rw [pr_z]
    have := hd_pos ok h1 k
    omega
  · omega
theorem cst_up {L : Int} {fs : Nat → Int} (ok : OkF fs) (h1 : 1 ≤ L) {k : Nat} {ret : Int} {a : Nat} (ha : 0 < a) (hk : a ≤ k) : 1 ≤ cst L fs k ret a := by
  unfold cst
  rw [if_neg (by omega)]
  unfold pr
  rw [if_neg (by omega)]
  have := ld_up (L := L) ok h1 (show a - 1 < k by omega)
  omega
/-- which entry is below 0 -/
theorem brk_none {es : Nat → Int} : ∀ {n : Nat}, brk es n = none ↔ ∀ i, i < n → 0 ≤ es i
  | 0 => ⟨fun _ _ h => by omega, fun _ => rfl⟩
  | n + 1 => by
    unfold brk
    have ih := brk_none (es := es) (n := n)
    by_cases h : es n < 0
    · rw [if_pos h]
      constructor
      · intro z
        cases z
      · intro z
        have := z n (by omega)
        omega
    · rw [if_neg h, ih]
      constructor
      · intro z i hi
        by_cases e : i = n
        · rw [e]; omega
        · exact z i (by omega)
      · intro z i hi
        exact z i (by omega)
theorem brk_neg {es : Nat → Int} {n i : Nat} (hi : i < n) (h : es i < 0) : ∃ b, brk es n = some b := by
  cases hb : brk es n with
  | none => have := brk_none.mp hb i hi; omega
  | some b => exact ⟨b, rfl⟩
theorem brk_one {es : Nat → Int} : ∀ {n : Nat}, 0 < n → es 0 < 0 → (∀ i, 0 < i → i < n → 0 ≤ es i) → brk es n = some (-1)
  | 0, h, _, _ => by omega
  | n + 1, _, h0, h => by
    unfold brk
    by_cases e : n = 0
    · subst e
      rw [if_pos h0]
      rfl
    · have := h n (by omega) (by omega)
      rw [if_neg (by omega)]
      exact brk_one (by omega) h0 fun i h1 h2 => h i h1 (by omega)
/-- the meetings left where all rungs above are full -/
theorem left_sum {L : Int} {fs : Nat → Int} (ok : OkF fs) {k : Nat} (s : Nat → Int) (more lost ret : Int) : sm (fun j => en L fs k s more lost ret (1 + j) + 1) k = (k : Int) + sm (fun b => s b * gv L fs 0 (fun _ => 1) b) k + more * gv L fs 0 (fun _ => 1) k + lost * gv L fs 0 (fun _ => 1) (k - 1) := by
  have h1 : ∀ n : Nat, sm (fun _ => (1 : Int)) n = n := fun n => by
    induction n with
    | zero => rfl
    | succ n ih => rw [sm, ih]; rfl
  rw [sm_add, h1, sm_congr (g := fun j => (sm (fun b => s b * ld L fs j b) k + more * ld L fs j k) + lost * ld L fs j (k - 1)) (fun j _ => by rw [Nat.add_comm, en_succ]; unfold ent; rw [Int.sub_zero]), sm_add, sm_add, sm_mul, sm_mul, sm_swap, ← wd_eq ok k (Nat.le_refl k), ← wd_eq ok (k - 1) (by omega)]
  rw [sm_congr (f := fun b => s b * gv L fs 0 (fun _ => 1) b) (g := fun b => sm (fun j => s b * ld L fs j b) k) (fun b hb => by rw [sm_mul, ← wd_eq ok b (by omega)])]
  omega
/-- rounding up -/
theorem ceil_spec {e c : Int} (he : e < 0) (hc : 0 < c) : 0 ≤ e + ((-1 - e) / c + 1) * c ∧ e + ((-1 - e) / c) * c < 0 ∧ 0 ≤ (-1 - e) / c := by
  have h1 := Int.emod_add_mul_ediv (-1 - e) c
  have h2 := Int.emod_nonneg (-1 - e) (show c ≠ 0 by omega)
  have h3 := Int.emod_lt_of_pos (-1 - e) hc
  have h4 : 0 ≤ (-1 - e) / c := Int.ediv_nonneg (by omega) (by omega)
  generalize (-1 - e) / c = q at *
  generalize (-1 - e) % c = r at *
  have h5 : (q + 1) * c = c * q + c := by grind
  have h6 : q * c = c * q := Int.mul_comm _ _
  rw [h5, h6]
  exact ⟨by omega, by omega, h4⟩
end Ld

set_option Elab.async false
set_option linter.all false
set_option maxRecDepth 100000
set_option maxHeartbeats 4000000
/-! rounds with late news -/
namespace Rd
open Ld
/-- so many come to a from one meeting on e -/
def wg (L : Int) (n : Nat) (fs : Nat → Int) (ret : Bool) (a e : Nat) : Int := (if e + 1 = a then 1 else 0) + (if e + 1 = n ∧ ret = true ∧ a = 0 then 1 else 0) + (if fs e = (a : Int) then L - 1 else 0)
def arr (L : Int) (n : Nat) (fs : Nat → Int) (ret : Bool) (kn : Nat → Int) (a : Nat) : Int := sm (fun e => wg L n fs ret a e * kn e) n
def stp (L : Int) (n : Nat) (fs : Nat → Int) (ret : Bool) (c kn : Nat → Int) (a : Nat) : Int := (c a + arr L n fs ret kn a) / L
def rws (L : Int) (n : Nat) (fs : Nat → Int) (ret : Bool) (c : Nat → Int) (late : Nat) : Nat → Nat → Int
  | 0 => fun _ => 0
  | t + 1 => stp L n fs ret c (rws L n fs ret c late (t - late))
termination_by t => t
decreasing_by omega
section
variable {L : Int} {n : Nat} {fs : Nat → Int} {ret : Bool} {c : Nat → Int} {late : Nat}
theorem rws_zero : rws L n fs ret c late 0 = fun _ => 0 := by rw [rws]
theorem rws_succ (t : Nat) : rws L n fs ret c late (t + 1) = stp L n fs ret c (rws L n fs ret c late (t - late)) := by rw [rws]
theorem arr_congr {k1 k2 : Nat → Int} {a : Nat} (h : ∀ e, e < n → k1 e = k2 e) : arr L n fs ret k1 a = arr L n fs ret k2 a := sm_congr fun e he => by rw [h e he]
theorem wg_nn (h1 : 1 ≤ L) (a e : Nat) : 0 ≤ wg L n fs ret a e := by
  unfold wg
  split <;> split <;> split <;> omega
theorem sm_le {f g : Nat → Int} : ∀ {n : Nat}, (∀ i, i < n → f i ≤ g i) → sm f n ≤ sm g n
  | 0, _ => Int.le_refl _
  | n + 1, h => by
    have := sm_le (f := f) (g := g) (n := n) fun i hi => h i (by omega)
    have h2 := h n (by omega)
    unfold sm
    omega
theorem arr_mono (h1 : 1 ≤ L) {k1 k2 : Nat → Int} {a : Nat} (h : ∀ e, e < n → k1 e ≤ k2 e) : arr L n fs ret k1 a ≤ arr L n fs ret k2 a :=
  sm_le fun e he => Int.mul_le_mul_of_nonneg_left (h e he) (wg_nn h1 a e)
theorem arr_nn (h1 : 1 ≤ L) {k1 : Nat → Int} {a : Nat} (h : ∀ e, e < n → 0 ≤ k1 e) : 0 ≤ arr L n fs ret k1 a := sm_nn fun e he => Int.mul_nonneg (wg_nn h1 a e) (h e he)
theorem stp_mono (h1 : 1 ≤ L) {k1 k2 : Nat → Int} {a : Nat} (h : ∀ e, e < n → k1 e ≤ k2 e) : stp L n fs ret c k1 a ≤ stp L n fs ret c k2 a :=
  Int.ediv_le_ediv (by omega) (by have := arr_mono (ret := ret) (fs := fs) (a := a) h1 h; omega)
theorem stp_congr {k1 k2 : Nat → Int} {a : Nat} (h : ∀ e, e < n → k1 e = k2 e) : stp L n fs ret c k1 a = stp L n fs ret c k2 a := by
  unfold stp
  rw [arr_congr h]
theorem stp_nn (h1 : 1 ≤ L) {k1 : Nat → Int} {a : Nat} (hc : 0 ≤ c a) (h : ∀ e, e < n → 0 ≤ k1 e) : 0 ≤ stp L n fs ret c k1 a :=
  Int.ediv_nonneg (by have := arr_nn (ret := ret) (fs := fs) (a := a) h1 h; omega) (by omega)
theorem rws_nn (h1 : 1 ≤ L) (hc : ∀ i, i < n → 0 ≤ c i) : ∀ t a, a < n → 0 ≤ rws L n fs ret c late t a := by
  intro t
  induction t using Nat.strongRecOn with
  | _ t ih =>
    intro a ha
    cases t with
    | zero => rw [rws_zero]; exact Int.le_refl 0
    | succ t =>
      rw [rws_succ]
      exact stp_nn h1 (hc a ha) fun e he => ih (t - late) (by omega) e he
theorem rws_step (h1 : 1 ≤ L) (hc : ∀ i, i < n → 0 ≤ c i) : ∀ t a, a < n → rws L n fs ret c late t a ≤ rws L n fs ret c late (t + 1) a := by
  intro t
  induction t using Nat.strongRecOn with
  | _ t ih =>
    intro a ha
    cases t with
    | zero =>
      have := rws_nn (late := late) (fs := fs) (ret := ret) h1 hc 1 a ha
      rw [rws_zero]
      exact this
    | succ t =>
      rw [rws_succ, rws_succ (t + 1)]
      refine stp_mono h1 fun e he => ?_
      by_cases h : t < late
      · rw [show t - late = 0 by omega, show t + 1 - late = 0 by omega]
        exact Int.le_refl _
      · rw [show t + 1 - late = (t - late) + 1 by omega]
        exact ih (t - late) (by omega) e he
theorem rws_mono (h1 : 1 ≤ L) (hc : ∀ i, i < n → 0 ≤ c i) {a : Nat} (ha : a < n) : ∀ {t s : Nat}, t ≤ s → rws L n fs ret c late t a ≤ rws L n fs ret c late s a := by
  intro t s h
  obtain ⟨d, rfl⟩ := Nat.exists_eq_add_of_le h
  induction d with
  | zero => exact Int.le_refl _
  | succ d ih => exact Int.le_trans (ih (by omega)) (rws_step h1 hc (t + d) a ha)
/-- where the rows of a round and of the round behind the news are equal, all stand still -/
theorem rws_still (h1 : 1 ≤ L) (hc : ∀ i, i < n → 0 ≤ c i) {m : Nat} (h : ∀ a, a < n → rws L n fs ret c late (m + late + 1) a = rws L n fs ret c late m a) : ∀ j, m ≤ j → ∀ a, a < n → rws L n fs ret c late j a = rws L n fs ret c late m a := by
  intro j
  induction j using Nat.strongRecOn with
  | _ j ih =>
    intro hj a ha
    by_cases h2 : j ≤ m + late + 1
    · have u := rws_mono (fs := fs) (ret := ret) (late := late) h1 hc ha hj
      have v := rws_mono (fs := fs) (ret := ret) (late := late) h1 hc ha h2
      have w := h a ha
      omega
    · obtain ⟨i, rfl⟩ : ∃ i, j = i + 1 := ⟨j - 1, by omega⟩
      rw [← h a ha, rws_succ, rws_succ (m + late), show m + late - late = m by omega]
      exact stp_congr fun e he => ih (i - late) (by omega) (by omega) e he
/-- a bound, crude -/
theorem wg_bd (h0 : 0 ≤ L) (h6 : L ≤ 6) (a e : Nat) : (wg L n fs ret a e).natAbs ≤ 8 := by
  unfold wg
  split <;> split <;> split <;> omega
theorem rws_bd (h0 : 0 < L) (h6 : L ≤ 6) (n4 : n ≤ 4) (hc : ∀ i, i < n → (c i).natAbs < 2 ^ 110) : ∀ t a, a < n → (rws L n fs ret c late t a).natAbs < 2 ^ (110 + 6 * t) := by
  intro t
  induction t using Nat.strongRecOn with
  | _ t ih =>
    intro a ha
    cases t with
    | zero => rw [rws_zero]; exact Nat.pow_pos (by decide)
    | succ t =>
      rw [rws_succ]
      have hk : ∀ e, e < n → (rws L n fs ret c late (t - late) e).natAbs ≤ 2 ^ (110 + 6 * t) := fun e he => Nat.le_of_lt (Nat.lt_of_lt_of_le (ih (t - late) (by omega) e he) (Nat.pow_le_pow_right (by decide) (by omega)))
      have h2 : (arr L n fs ret (rws L n fs ret c late (t - late)) a).natAbs ≤ 4 * (8 * 2 ^ (110 + 6 * t)) := by
        refine Nat.le_trans (sm_bd (B := 8 * 2 ^ (110 + 6 * t)) fun e he => ?_) (Nat.mul_le_mul_right _ n4)
        rw [Int.natAbs_mul]
        exact Nat.mul_le_mul (wg_bd (by omega) h6 a e) (hk e he)
      have h3 : 2 ^ 110 ≤ 2 ^ (110 + 6 * t) := Nat.pow_le_pow_right (by decide) (by omega)
      have h4 := hc a ha
      have h5 : (c a + arr L n fs ret (rws L n fs ret c late (t - late)) a).natAbs < 33 * 2 ^ (110 + 6 * t) := by omega
      have h6' : (stp L n fs ret c (rws L n fs ret c late (t - late)) a).natAbs ≤ (c a + arr L n fs ret (rws L n fs ret c late (t - late)) a).natAbs := by
        unfold stp
        exact Int.natAbs_ediv_le_natAbs _ _
      have h7 : 2 ^ (110 + 6 * (t + 1)) = 64 * 2 ^ (110 + 6 * t) := by rw [show 110 + 6 * (t + 1) = (110 + 6 * t) + 6 by omega, Nat.pow_add, Nat.mul_comm]
      rw [h7]
      omega
/-- the law's sum -/
theorem sm_pick (a : Nat) (x : Nat → Int) (n : Nat) (h : a < n) : sm (fun e => (if e = a then 1 else 0) * x e) n = x a := by
  have := sm_one a x n
  rw [if_pos h] at this
  rw [← this]
  exact sm_congr fun i hi => by split <;> simp
theorem arr_law (n0 : 0 < n) {kn : Nat → Int} {a : Nat} (ha : a < n) : arr L n fs ret kn a = (if 0 < a then kn (a - 1) else 0) + sm (fun e => if fs e = (a : Int) then (L - 1) * kn e else 0) n + (if a = 0 ∧ ret = true then kn (n - 1) else 0) := by
  unfold arr
  have e1 : ∀ e, wg L n fs ret a e * kn e = ((if e + 1 = a then 1 else 0) * kn e + (if e + 1 = n ∧ ret = true ∧ a = 0 then 1 else 0) * kn e) + (if fs e = (a : Int) then (L - 1) * kn e else 0) := fun e => by
    unfold wg
    rw [Int.add_mul, Int.add_mul]
    congr 1
    split <;> simp
  rw [show (fun e => wg L n fs ret a e * kn e) = _ from funext e1, sm_add, sm_add]
  have h1 : sm (fun e => (if e + 1 = a then 1 else 0) * kn e) n = if 0 < a then kn (a - 1) else 0 := by
    by_cases h : 0 < a
    · rw [if_pos h, ← sm_pick (a - 1) kn n (by omega)]
      exact sm_congr fun e he => by
        by_cases h2 : e + 1 = a
        · rw [if_pos h2, if_pos (by omega)]
        · rw [if_neg h2, if_neg (by omega)]
    · rw [if_neg h]
      exact Eq.trans (sm_congr (g := fun _ => 0) fun e he => by rw [if_neg (show ¬ e + 1 = a by omega), Int.zero_mul]) (sm_zero n)
  have h2 : sm (fun e => (if e + 1 = n ∧ ret = true ∧ a = 0 then 1 else 0) * kn e) n = if a = 0 ∧ ret = true then kn (n - 1) else 0 := by
    by_cases h : a = 0 ∧ ret = true
    · rw [if_pos h, ← sm_pick (n - 1) kn n (by omega)]
      exact sm_congr fun e he => by
        by_cases h2 : e + 1 = n
        · rw [if_pos ⟨h2, h.2, h.1⟩, if_pos (by omega)]
        · rw [if_neg (fun z => h2 z.1), if_neg (by omega)]
    · rw [if_neg h]
      exact Eq.trans (sm_congr (g := fun _ => 0) fun e he => by rw [if_neg (show ¬ (e + 1 = n ∧ ret = true ∧ a = 0) from fun z => h ⟨z.2.2, z.2.1⟩), Int.zero_mul]) (sm_zero n)
  rw [h1, h2]
  omega
/-- the answer of the search for a round with so many crowns -/
inductive Ans where
  | round (t : Nat) | never (t : Nat) | none
/-- by the program: the first turn at which it ends -/
structure PrA (f : Nat → Nat → Int) (n late : Nat) (cr : Int) (k : Nat) : Prop where
  lt : ∀ j, j < k → f (j + 1) (n - 1) < cr
  ne : ∀ j, j < k → late ≤ j → ∃ a, a < n ∧ f (j - late) a ≠ f (j + 1) a
def PrR (f : Nat → Nat → Int) (n late : Nat) (cr : Int) : Ans → Prop
  | .round t => ∃ k, t = k + 1 ∧ k < 300 ∧ PrA f n late cr k ∧ cr ≤ f (k + 1) (n - 1)
  | .never t => ∃ k, t = k - late ∧ k < 300 ∧ late ≤ k ∧ PrA f n late cr k ∧ f (k + 1) (n - 1) < cr ∧ ∀ a, a < n → f (k - late) a = f (k + 1) a
  | .none => PrA f n late cr 300
/-- by the law -/
structure LwA (f : Nat → Nat → Int) (n late : Nat) (cr : Int) (k : Nat) : Prop where
  lt : ∀ j, j < k → f j (n - 1) < cr
  ne : ∀ j, j < k → j + late + 1 < 301 → ∃ a, a < n ∧ f (j + late + 1) a ≠ f j a
def LwR (f : Nat → Nat → Int) (n late : Nat) (cr : Int) : Ans → Prop
  | .round t => t < 301 ∧ LwA f n late cr t ∧ cr ≤ f t (n - 1)
  | .never t => t < 301 ∧ LwA f n late cr t ∧ f t (n - 1) < cr ∧ t + late + 1 < 301 ∧ ∀ a, a < n → f (t + late + 1) a = f t a
  | .none => LwA f n late cr 301
theorem ans_eq (h1 : 1 ≤ L) (hc : ∀ i, i < n → 0 ≤ c i) (n0 : 0 < n) {cr : Int} (c1 : 1 ≤ cr) {R S : Ans} (hR : PrR (rws L n fs ret c late) n late cr R) (hS : LwR (rws L n fs ret c late) n late cr S) : R = S := by
  have hm : ∀ {t s : Nat}, t ≤ s → rws L n fs ret c late t (n - 1) ≤ rws L n fs ret c late s (n - 1) := fun h => rws_mono h1 hc (by omega) h
  have hst : ∀ {m}, (∀ a, a < n → rws L n fs ret c late (m + late + 1) a = rws L n fs ret c late m a) → ∀ j, m ≤ j → ∀ a, a < n → rws L n fs ret c late j a = rws L n fs ret c late m a := fun h => rws_still h1 hc h
  have hz : rws L n fs ret c late 0 (n - 1) = 0 := by rw [rws_zero]
  generalize rws L n fs ret c late = f at *
  cases R with
  | round t =>
    obtain ⟨k, rfl, hk, ⟨p1, p2⟩, p3⟩ := hR
    cases S with
    | round s =>
      obtain ⟨q0, ⟨q1, q2⟩, q3⟩ := hS
      by_cases h : k + 1 < s
      · have := q1 _ h; omega
      · by_cases h2 : s < k + 1
        · have hs0 : s ≠ 0 := fun z => by rw [z, hz] at q3; omega
          have := p1 (s - 1) (by omega)
          rw [show s - 1 + 1 = s by omega] at this
          omega
        · rw [show s = k + 1 by omega]
    | never s =>
      obtain ⟨q0, ⟨q1, q2⟩, q3, q4, q5⟩ := hS
      exfalso
      by_cases h : k + 1 ≤ s
      · have := hm h; omega
      · have := hst q5 (k + 1) (by omega) (n - 1) (by omega)
        omega
    | none =>
      have := hS.lt (k + 1) (by omega)
      omega
  | never t =>
    obtain ⟨k, rfl, hk, hl, ⟨p1, p2⟩, p3, p4⟩ := hR
    have p5 : ∀ a, a < n → f (k - late + late + 1) a = f (k - late) a := fun a ha => by rw [show k - late + late + 1 = k + 1 by omega]; exact (p4 a ha).symm
    cases S with
    | round s =>
      obtain ⟨q0, ⟨q1, q2⟩, q3⟩ := hS
      exfalso
      by_cases h : s ≤ k + 1
      · have := hm h; omega
      · have e1 := hst p5 s (by omega) (n - 1) (by omega)
        have e2 := hst p5 (k + 1) (by omega) (n - 1) (by omega)
        omega
    | never s =>
      obtain ⟨q0, ⟨q1, q2⟩, q3, q4, q5⟩ := hS
      congr 1
      by_cases h : s < k - late
      · obtain ⟨a, ha, hne⟩ := p2 (s + late) (by omega) (by omega)
        rw [show s + late - late = s by omega] at hne
        exact absurd (q5 a ha).symm hne
      · by_cases h2 : k - late < s
        · obtain ⟨a, ha, hne⟩ := q2 (k - late) h2 (by omega)
          exact absurd (p5 a ha) hne
        · omega
    | none =>
      obtain ⟨a, ha, hne⟩ := hS.ne (k - late) (by omega) (by omega)
      exact absurd (p5 a ha) hne
  | none =>
    cases S with
    | round s =>
      obtain ⟨q0, ⟨q1, q2⟩, q3⟩ := hS
      exfalso
      have hs0 : s ≠ 0 := fun z => by rw [z, hz] at q3; omega
      have := hR.lt (s - 1) (by omega)
      rw [show s - 1 + 1 = s by omega] at this
      omega
    | never s =>
      obtain ⟨q0, ⟨q1, q2⟩, q3, q4, q5⟩ := hS
      exfalso
      obtain ⟨a, ha, hne⟩ := hR.ne (s + late) (by omega) (by omega)
      rw [show s + late - late = s by omega] at hne
      exact absurd (q5 a ha).symm hne
    | none => rfl
/-- players: how many stand on b, known by then -/
def cnt (R Kn : Nat → Int) (m : Nat) (b : Int) (T : Nat) : Int := sm (fun i => if R i = b ∧ Kn i ≤ (T : Int) then 1 else 0) m
theorem cnt_set {R Kn : Nat → Int} {m : Nat} {b : Int} {T i : Nat} (hi : i < m) (g k : Int) : cnt (fun j => if j = i then g else R j) (fun j => if j = i then k else Kn j) m b T = cnt R Kn m b T - (if R i = b ∧ Kn i ≤ (T : Int) then 1 else 0) + (if g = b ∧ k ≤ (T : Int) then 1 else 0) := by
  have key : ∀ m, cnt (fun j => if j = i then g else R j) (fun j => if j = i then k else Kn j) m b T = cnt R Kn m b T - (if i < m then (if R i = b ∧ Kn i ≤ (T : Int) then 1 else 0) else 0) + (if i < m then (if g = b ∧ k ≤ (T : Int) then 1 else 0) else 0) := by
    intro m
    unfold cnt
    induction m with
    | zero => rw [if_neg (by omega), if_neg (by omega)]; rfl
    | succ m ih =>
      rw [sm, sm, ih]
      by_cases h : m = i
      · subst h
        rw [if_neg (Nat.lt_irrefl m), if_neg (Nat.lt_irrefl m), if_pos (Nat.lt_succ_self m), if_pos (Nat.lt_succ_self m)]
        show _ + (if (if m = m then g else R m) = b ∧ (if m = m then k else Kn m) ≤ (T : Int) then (1 : Int) else 0) = _
        rw [if_pos rfl, if_pos rfl]
        generalize (if g = b ∧ k ≤ (T : Int) then (1 : Int) else 0) = x
        show _ = _ + (if R m = b ∧ Kn m ≤ (T : Int) then (1 : Int) else 0) - _ + x
        generalize (if R m = b ∧ Kn m ≤ (T : Int) then (1 : Int) else 0) = y
        omega
      · show _ + (if (if m = i then g else R m) = b ∧ (if m = i then k else Kn m) ≤ (T : Int) then (1 : Int) else 0) = _
        rw [if_neg h, if_neg h]
        have e : (i < m + 1) = (i < m) := propext (by omega)
        simp only [e]
        generalize (if i < m then (if g = b ∧ k ≤ (T : Int) then (1 : Int) else 0) else 0) = x
        generalize (if i < m then (if R i = b ∧ Kn i ≤ (T : Int) then (1 : Int) else 0) else 0) = y
        generalize (if R m = b ∧ Kn m ≤ (T : Int) then (1 : Int) else 0) = z
        omega
  rw [key, if_pos hi, if_pos hi]
/-- where the winner, a loser goes -/
def goes (n : Nat) (fs : Nat → Int) (ret : Bool) (a : Nat) (win : Bool) : Int := if win then (if a + 1 = n then (if ret then 0 else 0 - 1) else (a : Int) + 1) else fs a
/-- what one meeting brings -/
theorem goes_wg {a b : Nat} (j w : Nat) : sm (fun q => if goes n fs ret a (decide (q = w)) = (b : Int) then 1 else 0) j = (if w < j then (if goes n fs ret a true = (b : Int) then 1 else 0) else 0) + (if fs a = (b : Int) then (j : Int) - (if w < j then 1 else 0) else 0) := by
  induction j with
  | zero =>
    rw [if_neg (show ¬ w < 0 by omega), if_neg (show ¬ w < 0 by omega)]
    show (0 : Int) = 0 + _
    split <;> omega
  | succ j ih =>
    rw [sm, ih]
    by_cases h1 : w < j
    · have e : decide (j = w) = false := decide_eq_false (by omega)
      rw [if_pos h1, if_pos h1, if_pos (show w < j + 1 by omega), if_pos (show w < j + 1 by omega)]
      show _ + (if goes n fs ret a (decide (j = w)) = (b : Int) then (1 : Int) else 0) = _
      rw [e]
      show _ + (if fs a = (b : Int) then (1 : Int) else 0) = _
      generalize (if goes n fs ret a true = (b : Int) then (1 : Int) else 0) = x
      split <;> omega
    · rw [if_neg h1, if_neg h1]
      by_cases h2 : j = w
      · subst h2
        rw [if_pos (Nat.lt_succ_self j), if_pos (Nat.lt_succ_self j)]
        show _ + (if goes n fs ret a (decide (j = j)) = (b : Int) then (1 : Int) else 0) = _
        rw [decide_eq_true rfl]
        generalize (if goes n fs ret a true = (b : Int) then (1 : Int) else 0) = x
        split <;> omega
      · have e : decide (j = w) = false := decide_eq_false h2
        rw [if_neg (show ¬ w < j + 1 by omega), if_neg (show ¬ w < j + 1 by omega)]
        show _ + (if goes n fs ret a (decide (j = w)) = (b : Int) then (1 : Int) else 0) = _
        rw [e]
        show _ + (if fs a = (b : Int) then (1 : Int) else 0) = _
        split <;> omega
theorem goes_all {a b : Nat} (ha : a < n) (hb : b < n) {w Ln : Nat} (hw : w < Ln) : sm (fun q => if goes n fs ret a (decide (q = w)) = (b : Int) then 1 else 0) Ln = wg (Ln : Int) n fs ret b a := by
  rw [goes_wg, if_pos hw, if_pos hw]
  unfold wg
  have e : (if goes n fs ret a true = (b : Int) then (1 : Int) else 0) = (if a + 1 = b then 1 else 0) + (if a + 1 = n ∧ ret = true ∧ b = 0 then 1 else 0) := by
    show (if (if a + 1 = n then (if ret then (0 : Int) else 0 - 1) else (a : Int) + 1) = (b : Int) then (1 : Int) else 0) = _
    by_cases h : a + 1 = n
    · rw [if_pos h, if_neg (show ¬ a + 1 = b by omega)]
      cases ret with
      | true =>
        by_cases h2 : b = 0
        · subst h2; rw [if_pos (show a + 1 = n ∧ true = true ∧ (0 : Nat) = 0 from ⟨h, rfl, rfl⟩)]; rfl
        · rw [if_pos rfl, if_neg (show ¬ (0 : Int) = (b : Int) by omega), if_neg (show ¬ (a + 1 = n ∧ true = true ∧ b = 0) from fun z => h2 z.2.2)]; rfl
      | false =>
        rw [if_neg (show ¬ false = true from fun z => nomatch z), if_neg (show ¬ (0 - 1 : Int) = (b : Int) by omega), if_neg (show ¬ (a + 1 = n ∧ false = true ∧ b = 0) from fun z => nomatch z.2.1)]; rfl
    · rw [if_neg h, if_neg (show ¬ (a + 1 = n ∧ ret = true ∧ b = 0) from fun z => h z.1)]
      by_cases h2 : a + 1 = b
      · rw [if_pos (show (a : Int) + 1 = (b : Int) by omega), if_pos h2]; rfl
      · rw [if_neg (show ¬ (a : Int) + 1 = (b : Int) by omega), if_neg h2]; rfl
  rw [e]
end
end Rd

set_option Elab.async false
set_option linter.all false
set_option maxRecDepth 100000
set_option maxHeartbeats 4000000
/-! bills; thrifty play -/
namespace Bl
open Ld Rd
/-- the counts behind a level meeting -/
def mv (L : Int) (n : Nat) (fs : Nat → Int) (ret : Bool) (cs : Nat → Int) (r b : Nat) : Int := cs b + (wg L n fs ret b r - if b = r then L else 0)
def bill (L : Int) (n : Nat) (fs first last : Nat → Int) (x : Int) (a : Nat) : Int := sm (fun b => last b * ld L fs a b) n - sm (fun b => first b * ld L fs a b) n + x * ld L fs a n
section
variable {L : Int} {n : Nat} {fs : Nat → Int} {ret : Bool}
theorem sm_at (a : Nat) (g : Nat → Int) (n : Nat) : sm (fun b => (if b = a then 1 else 0) * g b) n = if a < n then g a else 0 := by
  rw [← sm_one a g n]
  exact sm_congr fun i hi => by split <;> simp
theorem sm_load (ok : OkF fs) {r : Nat} (hr : r < n) (v : Nat → Int) (h0 : v 0 = 0) : sm (fun b => wg L n fs ret b r * v b) n = (if r + 1 < n then v (r + 1) else 0) + (L - 1) * lowV v (fs r) := by
  have okr := ok r
  have e : ∀ b, wg L n fs ret b r * v b = ((if b = r + 1 then 1 else 0) * v b + (if r + 1 = n ∧ ret = true ∧ b = 0 then 1 else 0) * v b) + (L - 1) * ((if fs r = (b : Int) then 1 else 0) * v b) := fun b => by
    unfold wg
    rw [Int.add_mul, Int.add_mul]
    have h1 : (if r + 1 = b then (1 : Int) else 0) = if b = r + 1 then 1 else 0 := by
      by_cases h : b = r + 1
      · rw [if_pos h, if_pos h.symm]
      · rw [if_neg h, if_neg fun z => h z.symm]
    rw [h1]
    congr 1
    split
    · rw [Int.one_mul]
    · rw [Int.zero_mul, Int.mul_zero]
  rw [show (fun b => wg L n fs ret b r * v b) = _ from funext e, sm_add, sm_add, sm_mul, sm_at]
  have h2 : sm (fun b => (if r + 1 = n ∧ ret = true ∧ b = 0 then 1 else 0) * v b) n = 0 := Eq.trans (sm_congr (g := fun _ => 0) fun b hb => by
    by_cases h : b = 0
    · subst h; rw [h0, Int.mul_zero]
    · rw [if_neg (fun z => h z.2.2), Int.zero_mul]) (sm_zero n)
  have h3 : sm (fun b => (if fs r = (b : Int) then 1 else 0) * v b) n = lowV v (fs r) := by
    unfold lowV
    by_cases h : fs r < 0
    · rw [if_pos h]
      exact Eq.trans (sm_congr (g := fun _ => 0) fun b hb => by rw [if_neg (show ¬ fs r = (b : Int) by omega), Int.zero_mul]) (sm_zero n)
    · rw [if_neg h]
      have := sm_at (fs r).toNat v n
      rw [if_pos (by omega)] at this
      rw [← this]
      exact sm_congr fun b hb => by
        by_cases h2 : b = (fs r).toNat
        · rw [if_pos h2, if_pos (show fs r = (b : Int) by omega)]
        · rw [if_neg h2, if_neg (show ¬ fs r = (b : Int) by omega)]
  rw [h2, h3, Int.add_zero]
theorem mv_load (ok : OkF fs) {r a : Nat} (hr : r < n) (cs : Nat → Int) : sm (fun b => mv L n fs ret cs r b * ld L fs a b) n = sm (fun b => cs b * ld L fs a b) n + (if a = r then 1 else 0) - (if r + 1 = n then ld L fs a n else 0) := by
  have e : ∀ b, mv L n fs ret cs r b * ld L fs a b = cs b * ld L fs a b + (wg L n fs ret b r * ld L fs a b - L * ((if b = r then 1 else 0) * ld L fs a b)) := fun b => by
    unfold mv
    rw [Int.add_mul, Int.sub_mul]
    congr 2
    split
    · rw [Int.one_mul]
    · rw [Int.zero_mul, Int.mul_zero]
  have hz : ld L fs a 0 = 0 := ld_zero ok 0 (Nat.zero_le a)
  have hs := ld_succ (L := L) ok a r
  have hd : dl a r = if a = r then 1 else 0 := by
    unfold dl
    by_cases h : a = r
    · rw [if_pos h, if_pos h.symm]
    · rw [if_neg h, if_neg fun z => h z.symm]
  rw [show (fun b => mv L n fs ret cs r b * ld L fs a b) = _ from funext e, sm_add, sm_sub, sm_mul, sm_at, if_pos hr, sm_load ok hr _ hz]
  rw [hd] at hs
  by_cases h : r + 1 = n
  · rw [if_neg (by omega), if_pos h, ← h, hs]
    omega
  · rw [if_pos (by omega), if_neg h, hs]
    omega
/-- the bill goes with the meetings -/
theorem bill_step (ok : OkF fs) {r a : Nat} (hr : r < n) (first cs : Nat → Int) (x : Int) : bill L n fs first (mv L n fs ret cs r) (x + if r + 1 = n then 1 else 0) a = bill L n fs first cs x a + if a = r then 1 else 0 := by
  unfold bill
  rw [mv_load ok hr, Int.add_mul]
  by_cases h : r + 1 = n
  · rw [if_pos h, if_pos h]
    omega
  · rw [if_neg h, if_neg h]
    omega
theorem bill_start (first : Nat → Int) (a : Nat) : bill L n fs first first 0 a = 0 := by
  unfold bill
  omega
theorem bill_top (ok : OkF fs) (n0 : 0 < n) (first last : Nat → Int) (x : Int) : bill L n fs first last x (n - 1) = x := by
  unfold bill
  have z : ∀ c : Nat → Int, sm (fun b => c b * ld L fs (n - 1) b) n = 0 := fun c => Eq.trans (sm_congr (g := fun _ => 0) fun b hb => by rw [ld_zero ok b (by omega), Int.mul_zero]) (sm_zero n)
  have o := ld_one (L := L) ok (n - 1)
  rw [show n - 1 + 1 = n by omega] at o
  rw [z, z, o]
  omega
/-- all bills together -/
theorem bill_sum (ok : OkF fs) (first last : Nat → Int) (x : Int) : sm (bill L n fs first last x) n = sm (fun b => last b * gv L fs 0 (fun _ => 1) b) n - sm (fun b => first b * gv L fs 0 (fun _ => 1) b) n + x * gv L fs 0 (fun _ => 1) n := by
  have sw : ∀ c : Nat → Int, sm (fun a => sm (fun b => c b * ld L fs a b) n) n = sm (fun b => c b * gv L fs 0 (fun _ => 1) b) n := fun c => by
    rw [sm_swap]
    exact sm_congr fun b hb => by rw [sm_mul, wd_eq (k := n) ok b (by omega)]
  show sm (fun a => sm (fun b => last b * ld L fs a b) n - sm (fun b => first b * ld L fs a b) n + x * ld L fs a n) n = _
  rw [sm_add, sm_sub, sw, sw, sm_mul, wd_eq ok n (Nat.le_refl n)]
def wt : Nat → Int
  | 0 => 0
  | n + 1 => 3 * wt n + 1
theorem wd_wt (ok : OkF fs) (l2 : 2 ≤ L) (l3 : L ≤ 3) : ∀ b, 0 ≤ gv L fs 0 (fun _ => 1) b ∧ gv L fs 0 (fun _ => 1) b ≤ wt b := by
  intro b
  refine ⟨(gv_mono ok (by omega) (Int.le_refl 0) (fun _ => by decide) b).1, ?_⟩
  induction b with
  | zero => exact Int.le_refl 0
  | succ b ih =>
    have h0 := (gv_mono (x := 0) (ch := fun _ => 1) ok (show 1 ≤ L by omega) (Int.le_refl 0) (fun _ => by decide) b).1
    rw [gv_succ (ok b).2.1, wt]
    have hl : 0 ≤ lowV (gv L fs 0 fun _ => 1) (fs b) := by
      unfold lowV
      split
      · exact Int.le_refl 0
      · exact (gv_mono (x := 0) (ch := fun _ => 1) ok (show 1 ≤ L by omega) (Int.le_refl 0) (fun _ => by decide) _).1
    have h1 : 0 ≤ (L - 1) * lowV (gv L fs 0 fun _ => 1) (fs b) := Int.mul_nonneg (by omega) hl
    have h2 : L * gv L fs 0 (fun _ => 1) b ≤ 3 * wt b := Int.le_trans (Int.mul_le_mul_of_nonneg_right l3 h0) (by omega)
    omega
theorem wt_up : ∀ {a b : Nat}, a ≤ b → wt a ≤ wt b := by
  intro a b h
  induction b with
  | zero => rw [show a = 0 by omega]; exact Int.le_refl _
  | succ b ih =>
    by_cases e : a = b + 1
    · rw [e]; exact Int.le_refl _
    · have h1 := ih (by omega)
      have h2 : 0 ≤ wt b := by clear ih h h1 e a; induction b with | zero => exact Int.le_refl 0 | succ b ih => rw [wt]; omega
      rw [wt]
      omega
theorem bill_lim (ok : OkF fs) (l2 : 2 ≤ L) (l3 : L ≤ 3) (n0 : 0 < n) (n5 : n ≤ 5) {first last : Nat → Int} {x : Int} (f0 : ∀ b, b < n → 0 ≤ first b) (h0 : ∀ b, b < n → 0 ≤ last b) (ht : sm last n ≤ 21) (x0 : 0 ≤ x) (x1 : x ≤ 16) : sm (bill L n fs first last x) n ≤ 3000 := by
  rw [bill_sum ok]
  have a1 : 0 ≤ sm (fun b => first b * gv L fs 0 (fun _ => 1) b) n := sm_nn fun b hb => Int.mul_nonneg (f0 b hb) (wd_wt ok l2 l3 b).1
  have a2 : sm (fun b => last b * gv L fs 0 (fun _ => 1) b) n ≤ sm (fun b => 40 * last b) n := sm_le fun b hb => by
    have h1 := (wd_wt ok l2 l3 b).2
    have h2 := wt_up (show b ≤ 4 by omega)
    have h3 : wt 4 = 40 := by decide
    rw [Int.mul_comm]
    exact Int.mul_le_mul_of_nonneg_right (by omega) (h0 b hb)
  rw [sm_mul] at a2
  have a3 : x * gv L fs 0 (fun _ => 1) n ≤ 16 * 121 := by
    have h1 := wd_wt ok l2 l3 n
    have h2 := wt_up (show n ≤ 5 by omega)
    have h3 : wt 5 = 121 := by decide
    exact Int.le_trans (Int.mul_le_mul_of_nonneg_right x1 h1.1) (Int.mul_le_mul_of_nonneg_left (by omega) (by decide))
  omega
/-- no meeting brings players -/
theorem wg_sum (ok : OkF fs) (l1 : 1 ≤ L) {r : Nat} (hr : r < n) : sm (fun b => wg L n fs ret b r) n ≤ L := by
  have okr := ok r
  have h1 : sm (fun b => if r + 1 = b then (1 : Int) else 0) n + sm (fun b => if r + 1 = n ∧ ret = true ∧ b = 0 then (1 : Int) else 0) n ≤ 1 := by
    by_cases h : r + 1 = n
    · rw [sm_congr (g := fun _ => 0) (fun b hb => if_neg (show ¬ r + 1 = b by omega)), sm_zero]
      have : sm (fun b => if r + 1 = n ∧ ret = true ∧ b = 0 then (1 : Int) else 0) n ≤ sm (fun b => if b = 0 then (fun _ => (1 : Int)) b else 0) n := sm_le fun b hb => by
        by_cases h0 : b = 0
        · rw [if_pos h0]
          show (if _ then (1 : Int) else 0) ≤ 1
          split <;> decide
        · rw [if_neg h0, if_neg fun z => h0 z.2.2]; exact Int.le_refl 0
      rw [sm_one, if_pos (by omega)] at this
      omega
    · rw [sm_congr (g := fun _ => 0) (f := fun b => if r + 1 = n ∧ ret = true ∧ b = 0 then (1 : Int) else 0) (fun b hb => if_neg fun z => h z.1), sm_zero]
      have e : sm (fun b => if r + 1 = b then (1 : Int) else 0) n = sm (fun b => if b = r + 1 then (fun _ => (1 : Int)) b else 0) n := sm_congr fun b hb => by
        by_cases h0 : b = r + 1
        · rw [if_pos h0, if_pos h0.symm]
        · rw [if_neg h0, if_neg fun z => h0 z.symm]
      rw [e, sm_one, if_pos (by omega)]
      decide
  have h2 : sm (fun b => if fs r = (b : Int) then L - 1 else 0) n ≤ L - 1 := by
    by_cases h : fs r < 0
    · rw [sm_congr (g := fun _ => 0) (fun b hb => if_neg (show ¬ fs r = (b : Int) by omega)), sm_zero]
      omega
    · have e : sm (fun b => if fs r = (b : Int) then L - 1 else 0) n = sm (fun b => if b = (fs r).toNat then (fun _ => L - 1) b else 0) n := sm_congr fun b hb => by
        by_cases h0 : b = (fs r).toNat
        · rw [if_pos h0, if_pos (show fs r = (b : Int) by omega)]
        · rw [if_neg h0, if_neg (show ¬ fs r = (b : Int) by omega)]
      rw [e, sm_one]
      split <;> omega
  show sm (fun b => (if r + 1 = b then 1 else 0) + (if r + 1 = n ∧ ret = true ∧ b = 0 then 1 else 0) + (if fs r = (b : Int) then L - 1 else 0)) n ≤ L
  rw [sm_add, sm_add]
  omega
theorem mv_tot (ok : OkF fs) (l1 : 1 ≤ L) {r : Nat} (hr : r < n) (cs : Nat → Int) : sm (mv L n fs ret cs r) n ≤ sm cs n := by
  have h := wg_sum (ret := ret) ok l1 hr
  show sm (fun b => cs b + (wg L n fs ret b r - if b = r then L else 0)) n ≤ _
  rw [sm_add, sm_sub]
  have e : sm (fun b => if b = r then L else 0) n = L := by
    have := sm_one r (fun _ => L) n
    rw [if_pos hr] at this
    exact this
  omega
end
end Bl

set_option Elab.async false
set_option linter.all false
set_option maxRecDepth 100000
set_option maxHeartbeats 4000000
/-! thrifty play: whichever ready rung is taken, the same is left -/
namespace Bl
open Ld Rd
structure Pl where
  cs : Nat → Int
  h : Nat → Int
  rs : List Nat
def rdy (L : Int) (s : Pl) (r : Nat) : Prop := L ≤ s.cs r ∧ 0 < s.h r
instance (L : Int) (s : Pl) (r : Nat) : Decidable (rdy L s r) := by unfold rdy; infer_instance
/-- the highest ready one -/
def hiR (L : Int) (s : Pl) : Nat → Option Nat
  | 0 => none
  | n + 1 => if rdy L s n then some n else hiR L s n
/-- the lowest ready one -/
def loR (L : Int) (s : Pl) : Nat → Option Nat
  | 0 => none
  | n + 1 => match loR L s n with
    | some r => some r
    | none => if rdy L s n then some n else none
structure Pick (L : Int) (n : Nat) (pk : Pl → Option Nat) : Prop where
  yes : ∀ s r, pk s = some r → r < n ∧ rdy L s r
  no : ∀ s, pk s = none → ∀ r, r < n → ¬ rdy L s r
theorem hi_pick (L : Int) : ∀ n, Pick L n fun s => hiR L s n
  | 0 => ⟨fun s r h => (nomatch h), fun s h r hr => by omega⟩
  | n + 1 => by
    have ih := hi_pick L n
    refine ⟨fun s r h => ?_, fun s h r hr => ?_⟩
    · unfold hiR at h
      by_cases e : rdy L s n
      · rw [if_pos e] at h
        cases h
        exact ⟨Nat.lt_succ_self _, e⟩
      · rw [if_neg e] at h
        have := ih.yes s r h
        exact ⟨by omega, this.2⟩
    · unfold hiR at h
      by_cases e : rdy L s n
      · rw [if_pos e] at h
        cases h
      · rw [if_neg e] at h
        by_cases e2 : r = n
        · rw [e2]; exact e
        · exact ih.no s h r (by omega)
theorem lo_pick (L : Int) : ∀ n, Pick L n fun s => loR L s n
  | 0 => ⟨fun s r h => (nomatch h), fun s h r hr => by omega⟩
  | n + 1 => by
    have ih := lo_pick L n
    refine ⟨fun s r h => ?_, fun s h r hr => ?_⟩
    · have h : (match loR L s n with | some r => some r | none => if rdy L s n then some n else none) = some r := h
      cases e : loR L s n with
      | some q =>
        rw [e] at h
        have hq : q = r := Option.some.inj h
        rw [hq] at e
        have := ih.yes s r e
        exact ⟨by omega, this.2⟩
      | none =>
        rw [e] at h
        by_cases e2 : rdy L s n
        · have h : (if rdy L s n then some n else none) = some r := h
          rw [if_pos e2] at h
          cases h
          exact ⟨Nat.lt_succ_self _, e2⟩
        · have h : (if rdy L s n then some n else none) = some r := h
          rw [if_neg e2] at h
          cases h
    · have h : (match loR L s n with | some r => some r | none => if rdy L s n then some n else none) = none := h
      cases e : loR L s n with
      | some q => rw [e] at h; cases h
      | none =>
        rw [e] at h
        have h : (if rdy L s n then some n else none) = none := h
        by_cases e2 : rdy L s n
        · rw [if_pos e2] at h; cases h
        · by_cases e3 : r = n
          · rw [e3]; exact e2
          · exact ih.no s e r (by omega)
def fire (L : Int) (n : Nat) (fs : Nat → Int) (ret : Bool) (s : Pl) (r : Nat) : Pl := ⟨mv L n fs ret s.cs r, fun e => if e = r then s.h r - 1 else s.h e, s.rs ++ [r]⟩
def it (L : Int) (n : Nat) (fs : Nat → Int) (ret : Bool) (pk : Pl → Option Nat) (s : Pl) : Nat → Pl
  | 0 => s
  | i + 1 => match pk (it L n fs ret pk s i) with
    | some r => fire L n fs ret (it L n fs ret pk s i) r
    | none => it L n fs ret pk s i
section
variable {L : Int} {n : Nat} {fs : Nat → Int} {ret : Bool} {pk : Pl → Option Nat}
theorem it_some {s : Pl} {i r : Nat} (h : pk (it L n fs ret pk s i) = some r) : it L n fs ret pk s (i + 1) = fire L n fs ret (it L n fs ret pk s i) r := by
  show (match pk (it L n fs ret pk s i) with | some r => fire L n fs ret (it L n fs ret pk s i) r | none => it L n fs ret pk s i) = _
  rw [h]
theorem it_none {s : Pl} {i : Nat} (h : pk (it L n fs ret pk s i) = none) : it L n fs ret pk s (i + 1) = it L n fs ret pk s i := by
  show (match pk (it L n fs ret pk s i) with | some r => fire L n fs ret (it L n fs ret pk s i) r | none => it L n fs ret pk s i) = _
  rw [h]
theorem it_stay {s : Pl} {i : Nat} (h : pk (it L n fs ret pk s i) = none) : ∀ j, i ≤ j → it L n fs ret pk s j = it L n fs ret pk s i := by
  intro j hj
  obtain ⟨d, rfl⟩ := Nat.exists_eq_add_of_le hj
  induction d with
  | zero => rfl
  | succ d ih =>
    have e := ih (by omega)
    show it L n fs ret pk s (i + d + 1) = _
    rw [it_none (by rw [e]; exact h), e]
/-- what stands: counts by what was held -/
structure Leg (L : Int) (n : Nat) (fs : Nat → Int) (ret : Bool) (s t : Pl) : Prop where
  h0 : ∀ e, e < n → 0 ≤ t.h e
  c0 : ∀ b, b < n → 0 ≤ t.cs b
  eq : ∀ b, b < n → t.cs b = s.cs b + sm (fun e => (s.h e - t.h e) * (wg L n fs ret b e - if b = e then L else 0)) n
theorem leg_start {s : Pl} (h : ∀ e, e < n → 0 ≤ s.h e) (c : ∀ b, b < n → 0 ≤ s.cs b) : Leg L n fs ret s s := ⟨h, c, fun b hb => by
  rw [sm_congr (g := fun _ => 0) fun e he => by rw [Int.sub_self, Int.zero_mul], sm_zero]
  omega⟩
theorem leg_fire (l1 : 1 ≤ L) {s t : Pl} (l : Leg L n fs ret s t) {r : Nat} (hr : r < n) (hd : rdy L t r) : Leg L n fs ret s (fire L n fs ret t r) := by
  refine ⟨fun e he => ?_, fun b hb => ?_, fun b hb => ?_⟩
  · show 0 ≤ if e = r then t.h r - 1 else t.h e
    have := l.h0 e he
    have := hd.2
    split <;> omega
  · show 0 ≤ t.cs b + (wg L n fs ret b r - if b = r then L else 0)
    have h1 := l.c0 b hb
    have h2 := wg_nn (n := n) (fs := fs) (ret := ret) l1 b r
    have h3 := hd.1
    by_cases e : b = r
    · subst e; rw [if_pos rfl]; omega
    · rw [if_neg e]; omega
  · show t.cs b + (wg L n fs ret b r - if b = r then L else 0) = _
    rw [l.eq b hb, Int.add_assoc]
    congr 1
    have e : ∀ e, (s.h e - (fire L n fs ret t r).h e) * (wg L n fs ret b e - if b = e then L else 0) = (s.h e - t.h e) * (wg L n fs ret b e - if b = e then L else 0) + (if e = r then (fun e => wg L n fs ret b e - if b = e then L else 0) e else 0) := fun e => by
      show (s.h e - if e = r then t.h r - 1 else t.h e) * _ = _
      by_cases h : e = r
      · subst h
        rw [if_pos rfl, if_pos rfl, show s.h e - (t.h e - 1) = (s.h e - t.h e) + 1 by omega, Int.add_mul, Int.one_mul]
      · rw [if_neg h, if_neg h, Int.add_zero]
    rw [show (fun e => (s.h e - (fire L n fs ret t r).h e) * (wg L n fs ret b e - if b = e then L else 0)) = _ from funext e, sm_add, sm_one, if_pos hr]
theorem leg_it (P : Pick L n pk) (l1 : 1 ≤ L) {s : Pl} (h : ∀ e, e < n → 0 ≤ s.h e) (c : ∀ b, b < n → 0 ≤ s.cs b) : ∀ i, Leg L n fs ret s (it L n fs ret pk s i)
  | 0 => leg_start h c
  | i + 1 => by
    have ih := leg_it P l1 h c i
    cases e : pk (it L n fs ret pk s i) with
    | none => rw [it_none e]; exact ih
    | some r =>
      rw [it_some e]
      obtain ⟨h1, h2⟩ := P.yes _ _ e
      exact leg_fire l1 ih h1 h2
theorem fire_sum {t : Pl} {r : Nat} (hr : r < n) : sm (fire L n fs ret t r).h n = sm t.h n - 1 := by
  show sm (fun e => if e = r then t.h r - 1 else t.h e) n = _
  have e : ∀ e, (if e = r then t.h r - 1 else t.h e) = t.h e - (if e = r then (fun _ => (1 : Int)) e else 0) := fun e => by
    by_cases h : e = r
    · rw [if_pos h, if_pos h, h]
    · rw [if_neg h, if_neg h, Int.sub_zero]
  rw [show (fun e => if e = r then t.h r - 1 else t.h e) = _ from funext e, sm_sub, sm_one, if_pos hr]
theorem it_left (P : Pick L n pk) {s : Pl} : ∀ i, pk (it L n fs ret pk s i) = none ∨ sm (it L n fs ret pk s i).h n = sm s.h n - i
  | 0 => .inr (by show sm s.h n = sm s.h n - 0; omega)
  | i + 1 => by
    cases e : pk (it L n fs ret pk s i) with
    | none => exact .inl (by rw [it_none e]; exact e)
    | some r =>
      rcases it_left P (s := s) i with h | h
      · rw [e] at h; cases h
      · rw [it_some e]
        exact .inr (by rw [fire_sum (P.yes _ _ e).1, h]; omega)
theorem sm_zero_all {f : Nat → Int} {n : Nat} (h : ∀ i, i < n → 0 ≤ f i) (hs : sm f n ≤ 0) : ∀ i, i < n → f i = 0 := by
  induction n with
  | zero => intro i hi; omega
  | succ n ih =>
    intro i hi
    have h1 := sm_nn (f := f) (n := n) fun j hj => h j (by omega)
    have h2 := h n (by omega)
    have h3 : sm f (n + 1) = sm f n + f n := rfl
    by_cases e : i = n
    · rw [e]; omega
    · exact ih (fun j hj => h j (by omega)) (by omega) i (by omega)
/-- behind so many turns nothing is ready -/
theorem it_end (P : Pick L n pk) (l1 : 1 ≤ L) {s : Pl} (h : ∀ e, e < n → 0 ≤ s.h e) (c : ∀ b, b < n → 0 ≤ s.cs b) {N : Nat} (hN : sm s.h n = (N : Int)) : pk (it L n fs ret pk s N) = none := by
  rcases it_left (fs := fs) (ret := ret) P (s := s) N with h1 | h1
  · exact h1
  · cases e : pk (it L n fs ret pk s N) with
    | none => rfl
    | some r =>
      obtain ⟨hr, h2⟩ := P.yes _ _ e
      have h3 := sm_zero_all (leg_it (fs := fs) (ret := ret) P l1 h c N).h0 (by omega) r hr
      have := h2.2
      omega
/-- where nothing is ready, no play has held more -/
theorem play_le (l1 : 1 ≤ L) {s t : Pl} (P : Pick L n pk) (h : ∀ e, e < n → 0 ≤ s.h e) (c : ∀ b, b < n → 0 ≤ s.cs b) (lt : Leg L n fs ret s t) (hm : ∀ r, r < n → ¬ rdy L t r) (hu : ∀ e, e < n → t.h e ≤ s.h e) : ∀ i e, e < n → t.h e ≤ (it L n fs ret pk s i).h e := by
  intro i
  induction i with
  | zero => exact hu
  | succ i ih =>
    intro e he
    cases hp : pk (it L n fs ret pk s i) with
    | none => rw [it_none hp]; exact ih e he
    | some r =>
      rw [it_some hp]
      obtain ⟨hr, hd⟩ := P.yes _ _ hp
      show t.h e ≤ if e = r then (it L n fs ret pk s i).h r - 1 else (it L n fs ret pk s i).h e
      by_cases her : e = r
      · rw [if_pos her, her]
        by_cases hlt : t.h r < (it L n fs ret pk s i).h r
        · omega
        · exfalso
          have heq : t.h r = (it L n fs ret pk s i).h r := by have := ih r hr; omega
          refine hm r hr ⟨?_, by rw [heq]; exact hd.2⟩
          have lA := leg_it (fs := fs) (ret := ret) P l1 h c i
          refine Int.le_trans hd.1 ?_
          rw [lA.eq r hr, lt.eq r hr]
          refine Int.add_le_add_left (sm_le fun e he => ?_) _
          by_cases h2 : r = e
          · subst h2
            rw [heq]
            exact Int.le_refl _
          · rw [if_neg h2, Int.sub_zero]
            exact Int.mul_le_mul_of_nonneg_right (by have := ih e he; omega) (wg_nn l1 r e)
      · rw [if_neg her]
        exact ih e he
theorem it_down (P : Pick L n pk) {s : Pl} : ∀ i e, e < n → (it L n fs ret pk s i).h e ≤ s.h e
  | 0, e, _ => Int.le_refl _
  | i + 1, e, he => by
    have ih := it_down P (s := s) i e he
    cases hp : pk (it L n fs ret pk s i) with
    | none => rw [it_none hp]; exact ih
    | some r =>
      rw [it_some hp]
      show (if e = r then (it L n fs ret pk s i).h r - 1 else (it L n fs ret pk s i).h e) ≤ _
      by_cases her : e = r
      · subst her; rw [if_pos rfl]; omega
      · rw [if_neg her]; exact ih
/-- the same is left in either order -/
theorem same_left {pk' : Pl → Option Nat} (P : Pick L n pk) (P' : Pick L n pk') (l1 : 1 ≤ L) {s : Pl} (h : ∀ e, e < n → 0 ≤ s.h e) (c : ∀ b, b < n → 0 ≤ s.cs b) {N : Nat} (hN : sm s.h n = (N : Int)) : (∀ e, e < n → (it L n fs ret pk s N).h e = (it L n fs ret pk' s N).h e) ∧ ∀ b, b < n → (it L n fs ret pk s N).cs b = (it L n fs ret pk' s N).cs b := by
  have a1 := play_le (pk := pk) l1 P h c (leg_it (fs := fs) (ret := ret) P' l1 h c N) (P'.no _ (it_end P' l1 h c hN)) (it_down P' N) N
  have a2 := play_le (pk := pk') l1 P' h c (leg_it (fs := fs) (ret := ret) P l1 h c N) (P.no _ (it_end P l1 h c hN)) (it_down P N) N
  have e1 : ∀ e, e < n → (it L n fs ret pk s N).h e = (it L n fs ret pk' s N).h e := fun e he => by have := a1 e he; have := a2 e he; omega
  refine ⟨e1, fun b hb => ?_⟩
  rw [(leg_it P l1 h c N).eq b hb, (leg_it P' l1 h c N).eq b hb]
  congr 1
  exact sm_congr fun e he => by rw [e1 e he]
end
end Bl

section
open PySem PySem.Spec PyProof.Rows L2 Rl Eg SX
/-! my own short words for a walk -/
-- two addresses differ
local macro_rules | `(tactic| o_reads) => `(tactic| (first
  | assumption | (refine Ne.symm ?_; assumption) | exact ne_of_none (by o_shape) (by assumption) | exact Ne.symm (ne_of_none (by o_shape) (by assumption)) | exact ne_of (by o_shape) (by o_shape) (by intro z; cases z; done)))
-- what stands at an address
local macro_rules | `(tactic| o_shape) => `(tactic| (first
  | with_reducible assumption
  | with_reducible exact upd_same
  | ((with_reducible refine Eq.trans (upd_ne ?h1) ?h2); (case h1 => o_reads); (case h2 => o_shape))
  | ((with_reducible refine same_at (by assumption) ?_); o_shape)
  | ((with_reducible refine off_at (by assumption) ?h1 ?h2); (case h1 => o_reads); (case h2 => o_shape))
  | ((with_reducible refine offs_at (by assumption) ?h1 ?h2); (case h1 => w_left); (case h2 => o_shape))))
-- not in a list of places
local macro_rules | `(tactic| w_left) => `(tactic| (repeat (first | with_reducible exact nn_nil | ((with_reducible refine nn_cons ?h1 ?_); (case h1 => o_reads)))))
-- a field among fields
local macro_rules | `(tactic| w_fin) => `(tactic| (first | with_reducible exact fld_hd | with_reducible exact pf_nil | with_reducible exact pf_hd | ((with_reducible refine' fld_tl ?h1 ?h2); (case h1 => decide +kernel); (case h2 => w_fin)) | ((with_reducible refine' pf_tl ?h1 ?h2); (case h1 => decide +kernel); (case h2 => w_fin))))
-- a list, a tuple that stands
local macro_rules | `(tactic| o_fieldsN) => `(tactic| (first | with_reducible assumption | exact SqL.of (by o_shape) | exact SqT.of (by o_shape) | ((with_reducible refine Same.seq (‹Same _ _› : Same _ _) ?_); o_fieldsN) | ((with_reducible refine Same.tup (‹Same _ _› : Same _ _) ?_); o_fieldsN)))
-- sizes and arithmetic
local macro_rules | `(tactic| pre_facts) => `(tactic| (first | omega | ((with_reducible show (0 : Int) < _); decide) | decide | ((with_reducible show (0 : Int) < _); decide +kernel) | (rw [sizeLine_eq]; omega) | ((simp only [S_cat, S_len, List.length_append, List.length_cons, List.length_nil, List.length_map, sizeLine_eq]); omega)))
local macro_rules | `(tactic| pre_facts) => `(tactic| (first | (rw [Ld.rng_len]; omega) | ((simp only [Ld.rng_len, S_cat, S_len, List.length_append, List.length_cons, List.length_nil, List.length_map, sizeLine_eq]); omega)))
-- one step
local macro_rules | `(tactic| pv_eval) => `(tactic| (first
  | ((with_reducible refine' i_var ?h0 ?_); (case h0 => rfl))
  | with_reducible refine i_c ?_
  | with_reducible refine i_cons ?_
  | with_reducible refine i_nil ?_
  | with_reducible refine i_op ?_
  | with_reducible refine i_cb ?_
  | with_reducible refine j_asg ?_
  | ((with_reducible refine' i_name ?h0 ?_); (case h0 => rfl))
  | with_reducible refine i_seqN (fun _ _ => ?_)
  | with_reducible refine i_test ?_
  | with_reducible refine g_b ?_
  | with_reducible refine i_un ?_
  | with_reducible refine i_call ?_
  | with_reducible refine i_meth ?_
  | with_reducible refine i_callS ?_
  | with_reducible refine i_methS ?_
  | with_reducible refine i_fld ?_
  | with_reducible refine i_mk ?_
  | with_reducible refine i_if ?_
  | with_reducible refine i_sl ?_
  | with_reducible refine i_nopart ?_
  | with_reducible refine i_part ?_
  | with_reducible refine g_part ?_
  | with_reducible refine i_tB ?_
  | with_reducible refine i_tru ?_
  | with_reducible refine g_truB ?_
  | with_reducible refine i_and ?_
  | with_reducible refine i_or ?_
  | with_reducible refine i_not ?_
  | with_reducible refine i_andV ?_
  | with_reducible refine i_orV ?_
  | with_reducible refine i_notV ?_
  | with_reducible refine g_andV ?_
  | with_reducible refine g_orV ?_
  | with_reducible refine g_notV ?_
  | with_reducible refine j_next ?_
  | with_reducible refine j_drop ?_
  | with_reducible refine j_ret ?_
  | with_reducible refine j_retN ?_
  | with_reducible refine i_ifS ?_
  | ((with_reducible refine' j_aug ?h0 ?_); (case h0 => rfl))
  | with_reducible refine g_ipI ?_
  | with_reducible refine j_augS ?_
  | with_reducible refine i_sub ?_
  | with_reducible refine i_for ?_
  | with_reducible refine i_lc ?_
  | with_reducible refine i_iL ?_
  | with_reducible refine i_iT ?_
  | with_reducible refine i_rng0 ?_
  | ((with_reducible refine' g_rng0 ?h0 ?h1 ?_); (case h0 => o_shape); (case h1 => (refine ⟨?_, ?_, ?_, ?_⟩ <;> (pre_facts; done))))
  | with_reducible refine i_revR ?_
  | ((with_reducible refine' g_revR ?h0 ?_); (case h0 => (pre_facts; done)))
  | with_reducible refine g_uRng (fun _ _ _ _ _ => ?_)
  | with_reducible refine i_r1 ?_
  | with_reducible refine i_r2 ?_
  | with_reducible refine i_en ?_
  | with_reducible refine i_eS ?_
  | with_reducible refine i_keys ?_
  | ((with_reducible refine' g_keys ?h0 ?_); (case h0 => o_shape))
  | with_reducible refine i_iS ?_
  | with_reducible refine g_eS ?_
  | with_reducible refine g_iS ?_
  | with_reducible refine i_bm ?_
  | with_reducible refine i_bm0 ?_
  | with_reducible refine g_bmS ?_
  | with_reducible refine i_dget2 ?_
  | with_reducible refine i_dget ?_
  | with_reducible refine i_dput ?_
  | with_reducible refine i_sfld ?_
  | with_reducible refine i_gcons ?_
  | with_reducible refine i_gnil ?_
  | with_reducible refine i_par ?_
  | with_reducible refine i_chain ?_
  | with_reducible refine i_tupN ?_
  | with_reducible refine i_lstN ?_
  | with_reducible refine iteT ?_
  | with_reducible refine iteF ?_
  | with_reducible refine i_ve ?_
  | with_reducible refine i_ost ?_
  | with_reducible refine i_raise ?_
  | with_reducible refine j_makeS ?_
  | with_reducible refine i_xf ?_
  | with_reducible refine i_xfA ?_
  | ((with_reducible refine' i_fwdP ?h0 ?_); (case h0 => rfl))
  | with_reducible refine g_isB ?_
  | with_reducible refine g_notB ?_
  | with_reducible refine i_lstRg2 ?_
  | ((with_reducible refine' i_lamc ?h0 ?_); (case h0 => rfl))
  | ((with_reducible refine' i_fwd ?h0 ?_); (case h0 => rfl))
  | ((with_reducible refine' i_callE ?h0 ?_); (case h0 => rfl))
  | with_reducible refine iteNT ?_
  | with_reducible refine iteNF ?_
  | with_reducible refine g_I0 ?_
  | ((with_reducible refine' g_pow ?h0 ?_); (case h0 => exact ⟨by decide, by decide, by decide⟩))
  | ((with_reducible refine' g_I ?h0 ?_); (case h0 => (pre_facts; done)))
  | with_reducible refine g_neg ?_
  | with_reducible refine g_addI ?_
  | ((with_reducible refine' g_addS ?h0 ?_); (case h0 => (pre_facts; done)))
  | ((with_reducible refine' g_mul ?h0 ?_); (case h0 => first | exact .inl (.inl ⟨by decide, by decide⟩) | exact .inl (.inr ⟨by decide, by decide⟩) | exact .inr (by show _ + _ < _; decide +kernel) | (refine .inl (.inl ⟨?_, ?_⟩) <;> (pre_facts; done)) | (refine .inl (.inr ⟨?_, ?_⟩) <;> (pre_facts; done))))
  | ((with_reducible refine' g_div ?h0 ?_); (case h0 => (refine .inl ⟨?_, ?_⟩ <;> (pre_facts; done))))
  | with_reducible refine g_eqI ?_
  | with_reducible refine g_neI ?_
  | with_reducible refine g_eqS ?_
  | with_reducible refine g_neS ?_
  | with_reducible refine g_uInt ?_
  | with_reducible refine g_ord ?_
  | ((with_reducible refine' g_str ?h0 ?_); (case h0 => (pre_facts; done)))
  | with_reducible refine g_abs ?_
  | with_reducible refine g_max2 ?_
  | with_reducible refine g_min2 ?_
  | with_reducible refine g_count ?_
  | with_reducible refine g_isNN ?_
  | with_reducible refine g_noNN ?_
  | ((with_reducible refine' g_isNx ?h0 ?_); (case h0 => (intro z; cases z; done)))
  | ((with_reducible refine' g_noNx ?h0 ?_); (case h0 => (intro z; cases z; done)))
  | ((with_reducible refine' g_isi ?h0 ?h1 ?_); (case h0 => first | with_reducible exact .base (.int _) | with_reducible exact .base (.str _) | with_reducible exact .base (.bl _) | with_reducible exact .base .non | exact .base (.lst (by o_shape)) | exact .base (.tup (by o_shape))); (case h1 => first | with_reducible exact kb_bb | with_reducible exact kb_ii | with_reducible exact kb_ss | with_reducible exact kb_ll | with_reducible exact kb_tt | ((with_reducible refine kb_non _ ?_); decide) | ((with_reducible refine kb_bool _ ?_); decide) | ((with_reducible refine kb_int _ ?_); decide) | ((with_reducible refine kb_str _ ?_); decide) | ((with_reducible refine kb_list _ ?_); decide) | ((with_reducible refine kb_tuple _ ?_); decide)))
  | ((with_reducible refine' g_newT ?h0 (fun _ _ _ _ _ => ?_)); (case h0 => (pre_facts; done)))
  | ((with_reducible refine' g_newL ?h0 (fun _ _ _ _ _ => ?_)); (case h0 => (pre_facts; done)))
  | with_reducible refine i_dnew (fun _ _ _ _ _ => ?_)
  | ((with_reducible refine' g_fld ?h0 ?h1 ?h2 ?h3 ?_); (case h0 => o_shape); (case h1 => assumption); (case h2 => assumption); (case h3 => w_fin))
  | ((with_reducible refine' g_sfld ?h0 ?h1 ?h2 ?h3 ?h4 ?_); (case h0 => o_shape); (case h1 => assumption); (case h2 => assumption); (case h3 => (pre_facts; done)); (case h4 => w_fin))
  | ((with_reducible refine' g_meth ?h0 ?h1 ?_); (case h0 => o_shape); (case h1 => rfl))
  | ((with_reducible refine' g_methS ?h0 ?h1 ?_); (case h0 => o_shape); (case h1 => rfl))
  | ((with_reducible refine' g_dget2 ?h0 ?_); (case h0 => exact Rd.of (by o_shape)))
  | ((with_reducible refine' g_dg ?h0 ?_); (case h0 => exact Rd.of (by o_shape)))
  | ((with_reducible refine' g_dput ?h0 ?h1 ?_); (case h0 => o_shape); (case h1 => (pre_facts; done)))
  | ((with_reducible refine' g_ixL ?h0 ?h1 ?_); (case h0 => o_fieldsN); (case h1 => rfl))
  | ((with_reducible refine' g_ixLg ?h0 ?h1 ?_); (case h0 => o_fieldsN); (case h1 => rfl))
  | ((with_reducible refine' g_ixT ?h0 ?h1 ?_); (case h0 => o_fieldsN); (case h1 => rfl))
  | ((with_reducible refine' g_setL ?h0 ?h1 ?h2 ?_); (case h0 => o_shape); (case h1 => rfl); (case h2 => rfl))
  | ((with_reducible refine' g_lenL ?h0 ?_); (case h0 => o_fieldsN))
  | ((with_reducible refine' g_lenT ?h0 ?_); (case h0 => o_fieldsN))
  | ((with_reducible refine' g_lenS ?h0 ?_); (case h0 => (pre_facts; done)))
  | ((with_reducible refine' g_iL ?h0 ?_); (case h0 => o_fieldsN))
  | ((with_reducible refine' g_en ?h0 ?_); (case h0 => o_fieldsN))
  | ((with_reducible refine' g_r1 ?h0 ?_); (case h0 => (refine ⟨?_, ?_⟩ <;> (pre_facts; done))))
  | ((with_reducible refine' g_r2 ?h0 ?_); (case h0 => (refine ⟨?_, ?_, ?_, ?_⟩ <;> (pre_facts; done))))
  | ((with_reducible refine' g_bmL ?h0 ?_); (case h0 => o_fieldsN))
  | ((with_reducible refine' g_app ?h0 ?h1 ?_); (case h0 => o_shape); (case h1 => (pre_facts; done)))
  | ((with_reducible refine' g_sum ?h0 ?_); (case h0 => o_fieldsN))
  | ((with_reducible refine' g_list ?h0 (fun _ _ _ _ _ => ?_)); (case h0 => o_fieldsN))
  | ((with_reducible refine' g_slS ?h0 ?_); (case h0 => (pre_facts; done)))
  | ((with_reducible refine' g_slL' ?h0 (fun _ _ _ _ _ => ?_)); (case h0 => o_fieldsN))
  | ((with_reducible refine' i_gtup ?h0 ?h1 ?_); (case h0 => o_fieldsN); (case h1 => rfl))
  | ((with_reducible refine' i_unl ?h0 ?h1 ?_); (case h0 => o_fieldsN); (case h1 => rfl))
  | ((with_reducible refine' t_nx ?h0 ?_); (case h0 => assumption))))
local macro_rules | `(tactic| o_readsAll) => `(tactic| (repeat pv_eval))

namespace L31
section
variable {P : Program} {w : World} {K : PySem.W.Frag} {mg : Str → Option Value} {base : Heap} {Z : Ad}
def Stk (H : Hp) (a : Addr) : Prop := ∃ s0 s1 s2, H a = some (.lst [.int s0, .int s1, .int s2])
def sp_draw : Sp := fun vs H Q _ => ∃ a m, vs = [.ref a, .int m] ∧ 0 < m ∧ m < 2 ^ 200 ∧ Stk H a ∧ ∀ r H', 0 ≤ r → r < m → Stk H' a → Off a H H' → Q (.int r) H'
theorem d_law_draw (T : Txt K w mg Z) : Dfn P w K mg base 1 "_law_draw" ["stock", "many"] (sp_draw) := by
  obtain ⟨f, fd, F, hm, hb⟩ := T.f_law_draw
  refine ⟨f, fd, F.ok sc_law_draw (fun vs H Q E h => by first | (obtain ⟨rfl, _⟩ := h; rfl) | (obtain ⟨_, rfl, _⟩ := h; rfl) | (obtain ⟨_, _, rfl, _⟩ := h; rfl) | (obtain ⟨_, _, _, rfl, _⟩ := h; rfl) | (obtain ⟨_, _, _, _, rfl, _⟩ := h; rfl) | (obtain ⟨_, _, _, _, _, rfl, _⟩ := h; rfl) | (obtain ⟨_, _, _, _, _, _, rfl, _⟩ := h; rfl) | (obtain ⟨_, _, _, _, _, _, _, rfl, _⟩ := h; rfl) | (obtain ⟨_, _, _, _, _, _, _, _, rfl, _⟩ := h; rfl) | (obtain ⟨_, _, _, _, _, _, _, _, _, rfl, _⟩ := h; rfl) | (obtain ⟨_, _, _, _, _, _, _, _, _, _, rfl, _⟩ := h; rfl) | (obtain ⟨_, _, _, _, _, _, _, _, _, _, _, rfl, _⟩ := h; rfl) | (obtain ⟨_, _, _, _, _, _, _, _, _, _, _, _, rfl, _⟩ := h; rfl) | (obtain ⟨_, _, _, _, _, _, _, _, _, _, _, _, _, rfl, _⟩ := h; rfl) | (obtain ⟨_, _, _, _, _, _, _, _, _, _, _, _, _, _, rfl, _⟩ := h; rfl) | (obtain ⟨_, _, _, _, _, _, _, _, _, _, _, _, _, _, _, rfl, _⟩ := h; rfl) | (obtain ⟨_, _, _, _, _, _, _, _, _, _, _, _, _, _, _, _, rfl, _⟩ := h; rfl)) (fun cdv A outer s H vs Q E hr h => ?_), hm, F.kp, hb⟩
  obtain ⟨a, m, rfl, h0, h1, ⟨s0, s1, s2, hH⟩, k⟩ := h
  refine ⟨_, (pss_cons (ps_if (pt_cmpR op_gt (pe_ix ix_seq (pv 0) pe_int (fun _ _ => rfl)) pe_int (nomark _)) (pss_cons (ps_set (i := 2) sc_law_draw.nd rfl (.inl rfl) (pe_op op_mod (pe_callTy call_uInt (by rfl) T.b_int bt_int (pa_cons (pe_ix ix_seq (pv 0) pe_int (fun _ _ => rfl)) pa_nil)) (pv 1)))
      (pss_cons (ps_asg (pe_op op_uDiv (pe_ix ix_seq (pv 0) pe_int (fun _ _ => rfl)) (pv 1)) (pg_sub (pv 0) pe_int set_list))
      (pss_one (ps_ret (pv 2))))) pss_nil)
      (pss_cons (ps_augS (pv 0) pe_int get_list pe_int ip_add set_list)
      (pss_cons (ps_asg (pe_op op_mod (pe_callTy call_uInt (by rfl) T.b_int bt_int (pa_cons (pe_op op_uAdd (pe_op op_uMul (pe_ix ix_seq (pv 0) pe_int (fun _ _ => rfl)) pe_int) (pe_op op_uMul (pe_ix ix_seq (pv 0) pe_int (fun _ _ => rfl)) pe_int)) pa_nil)) pe_int) (pg_sub (pv 0) pe_int set_list))
      (pss_one (ps_ret (pe_op op_mod (pe_op op_uDiv (pe_op op_mod (pe_callTy call_uInt (by rfl) T.b_int bt_int (pa_cons (pe_op op_uAdd (pe_op op_uMul (pe_ix ix_seq (pv 0) pe_int (fun _ _ => rfl)) pe_int) (pe_op op_uMul (pe_ix ix_seq (pv 0) pe_int (fun _ _ => rfl)) pe_int)) pa_nil)) pe_int) pe_int) (pv 1))))))), ?_⟩
  try dsimp only [cxOf, Cx.nox, Cx.wish]
  show (_ : TS) _ [some _, some _, none] _
  o_readsAll
  have hmb : m.natAbs < 2 ^ 200 := by omega
  refine br (fun hs => ?_) (fun hs => ?_)
  · o_readsAll
    refine g_divW h0 hmb (by decide) ?_
    o_readsAll
    exact k _ _ (Int.emod_nonneg _ (by omega)) (Int.emod_lt_of_pos _ h0) ⟨_, _, _, upd_same⟩ (off_refl _ _).upd
  · o_readsAll
    exact k _ _ (Int.emod_nonneg _ (by omega)) (Int.emod_lt_of_pos _ h0) ⟨_, _, _, upd_same⟩ (off_refl _ _).upd.upd
def sp_stock (K : PySem.W.Frag) : Sp := fun vs H Q _ => ∃ (a : Addr) (ns : List Int) (at_ : Nat), vs = [.ref a, .int at_] ∧ SqL K H a (ns.map V.int) ∧ ns.length ≤ 63 ∧ at_ < 1000000 ∧ ∀ p H', H p = none → Same H H' → Stk H' p → Q (.ref p) H'
theorem cut5 (ns : List Int) (lo hi : Option Int) : ∃ ms : List Int, cutV (ns.map V.int) lo hi = ms.map V.int ∧ ms.length ≤ ns.length := by
  unfold cutV
  rw [← List.map_drop, ← List.map_take]
  refine ⟨_, rfl, ?_⟩
  rw [List.length_take, List.length_drop]
  omega
theorem d_law_stock (T : Txt K w mg Z) : Dfn P w K mg base 1 "_law_stock" ["script", "at"] (sp_stock K) := by
  obtain ⟨f, fd, F, hm, hb⟩ := T.f_law_stock
  refine ⟨f, fd, F.ok sc_law_stock (fun vs H Q E h => by first | (obtain ⟨rfl, _⟩ := h; rfl) | (obtain ⟨_, rfl, _⟩ := h; rfl) | (obtain ⟨_, _, rfl, _⟩ := h; rfl) | (obtain ⟨_, _, _, rfl, _⟩ := h; rfl) | (obtain ⟨_, _, _, _, rfl, _⟩ := h; rfl) | (obtain ⟨_, _, _, _, _, rfl, _⟩ := h; rfl) | (obtain ⟨_, _, _, _, _, _, rfl, _⟩ := h; rfl) | (obtain ⟨_, _, _, _, _, _, _, rfl, _⟩ := h; rfl) | (obtain ⟨_, _, _, _, _, _, _, _, rfl, _⟩ := h; rfl) | (obtain ⟨_, _, _, _, _, _, _, _, _, rfl, _⟩ := h; rfl) | (obtain ⟨_, _, _, _, _, _, _, _, _, _, rfl, _⟩ := h; rfl) | (obtain ⟨_, _, _, _, _, _, _, _, _, _, _, rfl, _⟩ := h; rfl) | (obtain ⟨_, _, _, _, _, _, _, _, _, _, _, _, rfl, _⟩ := h; rfl) | (obtain ⟨_, _, _, _, _, _, _, _, _, _, _, _, _, rfl, _⟩ := h; rfl) | (obtain ⟨_, _, _, _, _, _, _, _, _, _, _, _, _, _, rfl, _⟩ := h; rfl) | (obtain ⟨_, _, _, _, _, _, _, _, _, _, _, _, _, _, _, rfl, _⟩ := h; rfl) | (obtain ⟨_, _, _, _, _, _, _, _, _, _, _, _, _, _, _, _, rfl, _⟩ := h; rfl)) (fun cdv A outer s H vs Q E hr h => ?_), hm, F.kp, hb⟩
  obtain ⟨a, ns, at_, rfl, hS, hn, ha, k⟩ := h
  refine ⟨_, (pss_cons (ps_set (i := 2) sc_law_stock.nd rfl (.inl rfl) (pe_ifExp (pt_cmpR op_lt (pv 1) (pe_callB call_uLen (by rfl) T.b_len bt_len (pa_cons (pv 0) pa_nil)) (nomark _)) (pe_callTy call_uInt (by rfl) T.b_int bt_int (pa_cons (pe_ix ix_seq (pv 0) (pv 1) (fun _ _ => rfl)) pa_nil)) (pe_op op_uAdd (pe_op op_uMul pe_int (pe_callB (cr_sum rfl) (by rfl) T.b_sum bt_sum (pa_cons (pe_lc (own := [("one", 5)]) (by rfl) sc_law_stock.nd (pi_list (pe_slice sl_u (pv 0) po_none (po_some pe_int))) (blkOk_by (N := n_law_stock) (sc := defScope st_law_stock) (by decide +kernel)) (fun _ _ _ _ _ => (pg_name (i := 5) sc_law_stock.nd rfl (.inl rfl))) (fun _ _ _ _ _ => pts_nil) (fun _ _ _ _ _ => (pe_op op_mod (pe_callTy call_uInt (by rfl) T.b_int bt_int (pa_cons (pv 5) pa_nil)) pe_int))) pa_nil))) pe_int)))
      (pss_cons (ps_set (i := 3) sc_law_stock.nd rfl (.inl rfl) (pe_op op_mod (pe_callB call_uAbs (by rfl) T.b_abs bt_abs (pa_cons (pv 2) pa_nil)) (pe_op op_uMul (pe_op op_pow pe_int pe_int) (pe_op op_pow pe_int pe_int))))
      (pss_cons (ps_set (i := 4) sc_law_stock.nd rfl (.inl rfl) (pe_op op_mod (pe_callTy call_uInt (by rfl) T.b_int bt_int (pa_cons (pe_op op_uAdd (pe_op op_uAdd (pe_op op_uAdd (pe_op op_uMul pe_int (pv 3)) (pe_ifExp (pt_cmpR op_lt (pv 2) pe_int (nomark _)) pe_int pe_int)) (pe_op op_uMul (pv 1) pe_int)) pe_int) pa_nil)) pe_int))
      (pss_one (ps_ret (pe_lst (pa_cons (pe_ifExp (pt_cmpR op_ge (pv 3) (pe_op op_pow pe_int pe_int) (nomark _)) (pv 3) pe_int) (pa_cons (pe_op op_mod (pe_callTy call_uInt (by rfl) T.b_int bt_int (pa_cons (pe_op op_uMul (pe_op op_uAdd (pv 4) pe_int) (pe_op op_uAdd (pv 4) pe_int)) pa_nil)) pe_int) (pa_cons (pv 1) pa_nil))))))))), ?_⟩
  try dsimp only [cxOf, Cx.nox, Cx.wish]
  show (_ : TS) _ [some _, some _, none, none, none, none] _
  o_readsAll
  refine jnE (fun x H1 => ∃ c : Int, x = .int c ∧ Same H H1) ?_ (fun Q' hQ => br (fun hc => ?_) (fun hc => ?_))
  · rintro x H1 ⟨c, rfl, e1⟩
    o_readsAll
    refine jnE (fun x H1 => ∃ c : Int, x = .int c ∧ Same H H1) ?_ (fun Q' hQ => br (fun hc => ?_) (fun hc => ?_))
    · rintro x H2 ⟨c2, rfl, e2⟩
      o_readsAll
      refine jnE (fun x H1 => ∃ c : Int, x = .int c ∧ Same H H1) ?_ (fun Q' hQ => br (fun hc => ?_) (fun hc => ?_))
      · rintro x H3 ⟨c3, rfl, e3⟩
        o_readsAll
        exact k _ _ (e3.free (by assumption)) (e3.trans (by assumption)) ⟨_, _, _, by assumption⟩
      · o_readsAll
        exact hQ _ _ ⟨_, rfl, e2⟩
      · o_readsAll
        exact hQ _ _ ⟨_, rfl, e2⟩
    · o_readsAll
      exact hQ _ _ ⟨_, rfl, e1⟩
    · o_readsAll
      exact hQ _ _ ⟨_, rfl, e1⟩
  · rw [List.length_map] at hc
    o_readsAll
    refine g_ixL hS (v := .int (ns[at_]'(by omega))) (atI_nat (j := at_) (by rw [List.getElem?_map, List.getElem?_eq_getElem (by omega)]; rfl)) ?_
    o_readsAll
    exact hQ _ _ ⟨_, rfl, Same.refl _⟩
  · o_readsAll
    obtain ⟨ms, em, lm⟩ := cut5 ns none (some 5)
    rename_i p H1 hp e1 h1
    rw [em] at h1
    refine l_lstP (fun i => .int ((ms.getD i 0) % 1000003)) (.of h1) (fun x => rfl) (fun D i x H' hx hD e hl => ?_) fun q H2 hq e2 h2 => ?_
    · rw [List.getElem?_map] at hx
      obtain ⟨m, hm, rfl⟩ := Option.map_eq_some_iff.mp hx
      have hi := (List.getElem?_eq_some_iff.mp hm).1
      o_readsAll
      exact g_itemP e hl hD (by rw [sizeLine_eq]; omega) (by rw [List.getD_eq_getElem?_getD, hm]; rfl)
    · rw [show (List.range (ms.map V.int).length).map (fun i => V.int ((ms.getD i 0) % 1000003)) = ((List.range ms.length).map fun i => (ms.getD i 0) % 1000003).map V.int by rw [List.map_map, List.length_map]; rfl] at h2
      o_readsAll
      exact hQ _ _ ⟨_, rfl, e1.trans e2⟩
end
end L31

namespace L31
open SX
section
variable {P : Program} {w : World} {K : PySem.W.Frag} {mg : Str → Option Value} {base : Heap} {Z : Ad}
/-- the same data, so deep at most -/
def Alk (H : Hp) : Nat → V → V → Prop
  | 0, _, _ => False
  | n + 1, x, y => (x = .non ∧ y = .non) ∨ (∃ i : Int, x = .int i ∧ y = .int i) ∨ (∃ s : Str, x = .str s ∧ y = .str s) ∨ (∃ b : Bool, x = .bl b ∧ y = .bl b) ∨
    (∃ (a b : Addr) (xs ys : List V), x = .ref a ∧ y = .ref b ∧ H a = some (.tup xs) ∧ H b = some (.tup ys) ∧ xs.length = ys.length ∧ ys.length ≤ 1000000 ∧ ∀ (i : Nat) (u v : V), xs[i]? = some u → ys[i]? = some v → Alk H n u v) ∨
    (∃ (a b : Addr) (xs ys : List V), x = .ref a ∧ y = .ref b ∧ H a = some (.lst xs) ∧ H b = some (.lst ys) ∧ xs.length = ys.length ∧ ys.length ≤ 1000000 ∧ ∀ (i : Nat) (u v : V), xs[i]? = some u → ys[i]? = some v → Alk H n u v)
theorem Alk.same {H H' : Hp} (e : Same H H') : ∀ {n : Nat} {x y : V}, Alk H n x y → Alk H' n x y
  | 0, x, y, h => h.elim
  | n + 1, x, y, h => by
    rcases h with h | h | h | h | ⟨a, b, xs, ys, h1, h2, h3, h4, h5, h6, h7⟩ | ⟨a, b, xs, ys, h1, h2, h3, h4, h5, h6, h7⟩
    · exact .inl h
    · exact .inr (.inl h)
    · exact .inr (.inr (.inl h))
    · exact .inr (.inr (.inr (.inl h)))
    · exact .inr (.inr (.inr (.inr (.inl ⟨a, b, xs, ys, h1, h2, e _ _ h3, e _ _ h4, h5, h6, fun i u v p q => Alk.same e (h7 i u v p q)⟩))))
    · exact .inr (.inr (.inr (.inr (.inr ⟨a, b, xs, ys, h1, h2, e _ _ h3, e _ _ h4, h5, h6, fun i u v p q => Alk.same e (h7 i u v p q)⟩))))
def sp_mat (n : Nat) : Sp := fun vs H Q _ => ∃ x y, vs = [x, y] ∧ Alk H n x y ∧ ∀ H', Same H H' → Q (.bl true) H'
theorem d_law_matches (T : Txt K w mg Z) : ∀ n, Dfn P w K mg base (n + 1) "_law_matches" ["answer", "due"] (sp_mat n)
  | 0 => by
    obtain ⟨f, fd, F, hm, hb⟩ := T.f_law_matches
    refine ⟨f, fd, F.ok sc_law_matches (fun vs H Q E h => by first | (obtain ⟨rfl, _⟩ := h; rfl) | (obtain ⟨_, rfl, _⟩ := h; rfl) | (obtain ⟨_, _, rfl, _⟩ := h; rfl) | (obtain ⟨_, _, _, rfl, _⟩ := h; rfl) | (obtain ⟨_, _, _, _, rfl, _⟩ := h; rfl) | (obtain ⟨_, _, _, _, _, rfl, _⟩ := h; rfl) | (obtain ⟨_, _, _, _, _, _, rfl, _⟩ := h; rfl) | (obtain ⟨_, _, _, _, _, _, _, rfl, _⟩ := h; rfl) | (obtain ⟨_, _, _, _, _, _, _, _, rfl, _⟩ := h; rfl) | (obtain ⟨_, _, _, _, _, _, _, _, _, rfl, _⟩ := h; rfl) | (obtain ⟨_, _, _, _, _, _, _, _, _, _, rfl, _⟩ := h; rfl) | (obtain ⟨_, _, _, _, _, _, _, _, _, _, _, rfl, _⟩ := h; rfl) | (obtain ⟨_, _, _, _, _, _, _, _, _, _, _, _, rfl, _⟩ := h; rfl) | (obtain ⟨_, _, _, _, _, _, _, _, _, _, _, _, _, rfl, _⟩ := h; rfl) | (obtain ⟨_, _, _, _, _, _, _, _, _, _, _, _, _, _, rfl, _⟩ := h; rfl) | (obtain ⟨_, _, _, _, _, _, _, _, _, _, _, _, _, _, _, rfl, _⟩ := h; rfl) | (obtain ⟨_, _, _, _, _, _, _, _, _, _, _, _, _, _, _, _, rfl, _⟩ := h; rfl)) (fun cdv A outer s H vs Q E hr h => ?_), hm, F.kp, hb⟩
    obtain ⟨x, y, rfl, h, k⟩ := h
    exact h.elim
  | n + 1 => by
    have D_law_matches := d_law_matches T n
    obtain ⟨f, fd, F, hm, hb⟩ := T.f_law_matches
    refine ⟨f, fd, F.ok sc_law_matches (fun vs H Q E h => by first | (obtain ⟨rfl, _⟩ := h; rfl) | (obtain ⟨_, rfl, _⟩ := h; rfl) | (obtain ⟨_, _, rfl, _⟩ := h; rfl) | (obtain ⟨_, _, _, rfl, _⟩ := h; rfl) | (obtain ⟨_, _, _, _, rfl, _⟩ := h; rfl) | (obtain ⟨_, _, _, _, _, rfl, _⟩ := h; rfl) | (obtain ⟨_, _, _, _, _, _, rfl, _⟩ := h; rfl) | (obtain ⟨_, _, _, _, _, _, _, rfl, _⟩ := h; rfl) | (obtain ⟨_, _, _, _, _, _, _, _, rfl, _⟩ := h; rfl) | (obtain ⟨_, _, _, _, _, _, _, _, _, rfl, _⟩ := h; rfl) | (obtain ⟨_, _, _, _, _, _, _, _, _, _, rfl, _⟩ := h; rfl) | (obtain ⟨_, _, _, _, _, _, _, _, _, _, _, rfl, _⟩ := h; rfl) | (obtain ⟨_, _, _, _, _, _, _, _, _, _, _, _, rfl, _⟩ := h; rfl) | (obtain ⟨_, _, _, _, _, _, _, _, _, _, _, _, _, rfl, _⟩ := h; rfl) | (obtain ⟨_, _, _, _, _, _, _, _, _, _, _, _, _, _, rfl, _⟩ := h; rfl) | (obtain ⟨_, _, _, _, _, _, _, _, _, _, _, _, _, _, _, rfl, _⟩ := h; rfl) | (obtain ⟨_, _, _, _, _, _, _, _, _, _, _, _, _, _, _, _, rfl, _⟩ := h; rfl)) (fun cdv A outer s H vs Q E hr h => ?_), hm, F.kp, hb⟩
    obtain ⟨x, y, rfl, h, k⟩ := h
    refine ⟨_, (pss_cons (ps_if (PW.pt (pw_or (pt_cmpR op_uIsN (pv 1) pe_non (nomark _)) (pw_or1 (pt_cmpR op_uIsN (pv 0) pe_non (nomark _))))) (pss_one (ps_ret (pe_and (pe_cmpR op_uIsN (pv 1) pe_non (nomark _)) (pe_one (pe_cmpR op_uIsN (pv 0) pe_non (nomark _)))))) pss_nil)
      (pss_cons (ps_if (PW.pt (pw_or (pt_u (pe_callB call_isi (by rfl) T.b_isinstance bt_isinstance (pa_cons (pv 1) (pa_cons (pe_bltn (v := .ty "bool") (by rfl) T.b_bool bt_bool rfl) pa_nil)))) (pw_or1 (pt_u (pe_callB call_isi (by rfl) T.b_isinstance bt_isinstance (pa_cons (pv 0) (pa_cons (pe_bltn (v := .ty "bool") (by rfl) T.b_bool bt_bool rfl) pa_nil))))))) (pss_one (ps_ret (pe_and (pe_callB call_isi (by rfl) T.b_isinstance bt_isinstance (pa_cons (pv 1) (pa_cons (pe_bltn (v := .ty "bool") (by rfl) T.b_bool bt_bool rfl) pa_nil))) (pe_and (pe_callB call_isi (by rfl) T.b_isinstance bt_isinstance (pa_cons (pv 0) (pa_cons (pe_bltn (v := .ty "bool") (by rfl) T.b_bool bt_bool rfl) pa_nil))) (pe_one (pe_cmpR (op_uEq hr.units) (pv 0) (pv 1) (nomark _))))))) pss_nil)
      (pss_cons (ps_if (pt_u (pe_callB call_isi (by rfl) T.b_isinstance bt_isinstance (pa_cons (pv 1) (pa_cons (pe_bltn (v := .ty "int") (by rfl) T.b_int bt_int rfl) pa_nil)))) (pss_one (ps_ret (pe_and (pe_callB call_isi (by rfl) T.b_isinstance bt_isinstance (pa_cons (pv 0) (pa_cons (pe_bltn (v := .ty "int") (by rfl) T.b_int bt_int rfl) pa_nil))) (pe_one (pe_cmpR (op_uEq hr.units) (pv 0) (pv 1) (nomark _)))))) pss_nil)
      (pss_cons (ps_if (pt_u (pe_callB call_isi (by rfl) T.b_isinstance bt_isinstance (pa_cons (pv 1) (pa_cons (pe_bltn (v := .ty "str") (by rfl) T.b_str bt_str rfl) pa_nil)))) (pss_one (ps_ret (pe_and (pe_callB call_isi (by rfl) T.b_isinstance bt_isinstance (pa_cons (pv 0) (pa_cons (pe_bltn (v := .ty "str") (by rfl) T.b_str bt_str rfl) pa_nil))) (pe_one (pe_cmpR (op_uEq hr.units) (pv 0) (pv 1) (nomark _)))))) pss_nil)
      (pss_cons (ps_if (PW.pt (pw_and (pt_u (pe_callB call_isi (by rfl) T.b_isinstance bt_isinstance (pa_cons (pv 1) (pa_cons (pe_bltn (v := .ty "tuple") (by rfl) T.b_tuple bt_tuple rfl) pa_nil)))) (pw_and1 (pt_not (pt_u (pe_callB call_isi (by rfl) T.b_isinstance bt_isinstance (pa_cons (pv 0) (pa_cons (pe_bltn (v := .ty "tuple") (by rfl) T.b_tuple bt_tuple rfl) pa_nil)))))))) (pss_one (ps_ret pe_bl)) pss_nil)
      (pss_cons (ps_if (PW.pt (pw_and (pt_u (pe_callB call_isi (by rfl) T.b_isinstance bt_isinstance (pa_cons (pv 1) (pa_cons (pe_bltn (v := .ty "list") (by rfl) T.b_list bt_list rfl) pa_nil)))) (pw_and1 (pt_not (pt_u (pe_callB call_isi (by rfl) T.b_isinstance bt_isinstance (pa_cons (pv 0) (pa_cons (pe_bltn (v := .ty "list") (by rfl) T.b_list bt_list rfl) pa_nil)))))))) (pss_one (ps_ret pe_bl)) pss_nil)
      (pss_cons (ps_if (pt_cmpR (op_uNe hr.units) (pe_callB call_uLen (by rfl) T.b_len bt_len (pa_cons (pv 0) pa_nil)) (pe_callB call_uLen (by rfl) T.b_len bt_len (pa_cons (pv 1) pa_nil)) (nomark _)) (pss_one (ps_ret pe_bl)) pss_nil)
      (pss_cons (ps_for PassesOwn.never rfl (pi_range1 (by rfl) T.b_range (pa_cons (pe_callB call_uLen (by rfl) T.b_len bt_len (pa_cons (pv 1) pa_nil)) pa_nil)) (pg_name (i := 2) sc_law_matches.nd rfl (.inl rfl))
        (pss_one (ps_if (pt_not (pt_u (pe_dfn D_law_matches (hr.mono (by omega)) (by rfl) (pa_cons (pe_ix ix_seq (pv 0) (pv 2) (fun _ _ => rfl)) (pa_cons (pe_ix ix_seq (pv 1) (pv 2) (fun _ _ => rfl)) pa_nil))))) (pss_one (ps_ret pe_bl)) pss_nil)))
      (pss_one (ps_ret pe_bl)))))))))), ?_⟩
    try dsimp only [cxOf, Cx.nox, Cx.wish]
    show (_ : TS) _ [some _, some _, none] _
    rcases h with ⟨rfl, rfl⟩ | ⟨i, rfl, rfl⟩ | ⟨z, rfl, rfl⟩ | ⟨z, rfl, rfl⟩ | ⟨a, b, xs, ys, rfl, rfl, h1, h2, hl, hs, hk⟩ | ⟨a, b, xs, ys, rfl, rfl, h1, h2, hl, hs, hk⟩
    · o_readsAll
      exact k _ (Same.refl _)
    · o_readsAll
      rw [decide_eq_true rfl]
      exact k _ (Same.refl _)
    · o_readsAll
      rw [decide_eq_true rfl]
      exact k _ (Same.refl _)
    · o_readsAll
      refine g_eqB ?_
      rw [decide_eq_true rfl]
      exact k _ (Same.refl _)
    · o_readsAll
      refine brn (fun h => absurd (by rw [hl]) h) (fun _ => ?_)
      o_readsAll
      refine f_rng (fun i σ' H' => ∃ x, σ' = [some (.ref a), some (.ref b), x] ∧ Same H H') ⟨_, rfl, Same.refl _⟩ ?_ ?_
      · rintro i σ' H1 hi ⟨x, rfl, e1⟩
        have hi' : i < ys.length := by omega
        have hx : xs[i]? = some (xs[i]'(by omega)) := List.getElem?_eq_getElem _
        have hy : ys[i]? = some (ys[i]'hi') := List.getElem?_eq_getElem _
        generalize xs[i]'(by omega) = u at hx
        generalize ys[i]'hi' = v at hy
        rw [Int.zero_add]
        o_readsAll
        refine g_ixT (.of (e1 _ _ h1)) (atI_nat hx) ?_
        o_readsAll
        refine g_ixT (.of (e1 _ _ h2)) (atI_nat hy) ?_
        o_readsAll
        refine ⟨_, _, rfl, (hk i u v hx hy).same e1, fun H2 e2 => ?_⟩
        o_readsAll
        exact ⟨_, rfl, e1.trans e2⟩
      · rintro σ' H1 ⟨x, rfl, e1⟩
        o_readsAll
        exact k _ e1
    · o_readsAll
      refine brn (fun h => absurd (by rw [hl]) h) (fun _ => ?_)
      o_readsAll
      refine f_rng (fun i σ' H' => ∃ x, σ' = [some (.ref a), some (.ref b), x] ∧ Same H H') ⟨_, rfl, Same.refl _⟩ ?_ ?_
      · rintro i σ' H1 hi ⟨x, rfl, e1⟩
        have hi' : i < ys.length := by omega
        have hx : xs[i]? = some (xs[i]'(by omega)) := List.getElem?_eq_getElem _
        have hy : ys[i]? = some (ys[i]'hi') := List.getElem?_eq_getElem _
        generalize xs[i]'(by omega) = u at hx
        generalize ys[i]'hi' = v at hy
        rw [Int.zero_add]
        o_readsAll
        refine g_ixL (.of (e1 _ _ h1)) (atI_nat hx) ?_
        o_readsAll
        refine g_ixL (.of (e1 _ _ h2)) (atI_nat hy) ?_
        o_readsAll
        refine ⟨_, _, rfl, (hk i u v hx hy).same e1, fun H2 e2 => ?_⟩
        o_readsAll
        exact ⟨_, rfl, e1.trans e2⟩
      · rintro σ' H1 ⟨x, rfl, e1⟩
        o_readsAll
        exact k _ e1
end
end L31

namespace L31
open SX Ld
section
variable {P : Program} {w : World} {K : PySem.W.Frag} {mg : Str → Option Value} {base : Heap} {Z : Ad}
def sp_grown (K : PySem.W.Frag) : Sp := fun vs H Q _ => ∃ (L x : Int) (fl ch : Addr) (n : Nat) (fs c : Nat → Int), vs = [.int L, .ref fl, .int x, .ref ch] ∧ IL H fl n fs ∧ IL H ch n c ∧ n ≤ 40 ∧ OkF fs ∧ 0 ≤ L ∧ L ≤ 6 ∧ ∀ p H', H p = none → Same H H' → IL H' p (n + 1) (gv L fs x c) → Q (.ref p) H'
theorem d_grown (T : Txt K w mg Z) : Dfn P w K mg base 1 "grown" ["lanes", "falls", "first", "charges"] (sp_grown K) := by
  obtain ⟨f, fd, F, hm, hb⟩ := T.f_grown
  refine ⟨f, fd, F.ok sc_grown (fun vs H Q E h => by first | (obtain ⟨rfl, _⟩ := h; rfl) | (obtain ⟨_, rfl, _⟩ := h; rfl) | (obtain ⟨_, _, rfl, _⟩ := h; rfl) | (obtain ⟨_, _, _, rfl, _⟩ := h; rfl) | (obtain ⟨_, _, _, _, rfl, _⟩ := h; rfl) | (obtain ⟨_, _, _, _, _, rfl, _⟩ := h; rfl) | (obtain ⟨_, _, _, _, _, _, rfl, _⟩ := h; rfl) | (obtain ⟨_, _, _, _, _, _, _, rfl, _⟩ := h; rfl) | (obtain ⟨_, _, _, _, _, _, _, _, rfl, _⟩ := h; rfl) | (obtain ⟨_, _, _, _, _, _, _, _, _, rfl, _⟩ := h; rfl) | (obtain ⟨_, _, _, _, _, _, _, _, _, _, rfl, _⟩ := h; rfl) | (obtain ⟨_, _, _, _, _, _, _, _, _, _, _, rfl, _⟩ := h; rfl) | (obtain ⟨_, _, _, _, _, _, _, _, _, _, _, _, rfl, _⟩ := h; rfl) | (obtain ⟨_, _, _, _, _, _, _, _, _, _, _, _, _, rfl, _⟩ := h; rfl) | (obtain ⟨_, _, _, _, _, _, _, _, _, _, _, _, _, _, rfl, _⟩ := h; rfl) | (obtain ⟨_, _, _, _, _, _, _, _, _, _, _, _, _, _, _, rfl, _⟩ := h; rfl) | (obtain ⟨_, _, _, _, _, _, _, _, _, _, _, _, _, _, _, _, rfl, _⟩ := h; rfl)) (fun cdv A outer s H vs Q E hr h => ?_), hm, F.kp, hb⟩
  obtain ⟨L, x, fl, ch, n, fs, c, rfl, hf, hc, hn, ok, hL, hL6, k⟩ := h
  refine ⟨_, (pss_cons (ps_set (i := 4) sc_grown.nd rfl (.inl rfl) (pe_lst (pa_cons (pv 2) pa_nil)))
      (pss_cons (ps_for PassesOwn.never rfl (pi_enum (by rfl) T.b_enumerate (pa_cons (pv 1) pa_nil)) (pg_tup (by rfl) (pgs_cons (pg_name (i := 5) sc_grown.nd rfl (.inl rfl)) (pgs_cons (pg_name (i := 6) sc_grown.nd rfl (.inl rfl)) pgs_nil)))
        (pss_cons (ps_set (i := 7) sc_grown.nd rfl (.inl rfl) (pe_ifExp (pt_cmpR (op_uEq hr.units) (pv 6) (pe_gi T.c_OUT) (nomark _)) pe_int (pe_ix ix_seq (pv 4) (pv 6) (fun _ _ => rfl))))
      (pss_one (ps_expr (pe_bm PySem.F.plainAttrs_list PySem.F.slot_list_append PySem.F.type_list_append mt_append (pv 4) (pa_cons (pe_op op_uAdd (pe_op op_sub (pe_op op_uMul (pv 0) (pe_ix ix_seq (pv 4) (pv 5) (fun _ _ => rfl))) (pe_op op_uMul (pe_op op_sub (pv 0) pe_int) (pv 7))) (pe_ix ix_seq (pv 3) (pv 5) (fun _ _ => rfl))) pa_nil))))))
      (pss_one (ps_ret (pv 4))))), ?_⟩
  try dsimp only [cxOf, Cx.nox, Cx.wish]
  show (_ : TS) _ [some _, some _, some _, some _, none, none, none, none] _
  o_readsAll
  rename_i r H1 hr e1 h1 N hN
  refine f_enum (xs := rng n fs) (fun i σ' H' => ∃ a b d, σ' = [some (.int L), some (.ref fl), some (.int x), some (.ref ch), some (.ref r), a, b, d] ∧ Same H H' ∧ IL H' r (i + 1) (gv L fs x c)) ⟨_, _, _, rfl, e1, h1⟩ ?_ ?_ ?_
  · rintro i σ' H2 hi ⟨a, b, d, rfl, e2, h2⟩
    exact (hf.same e2).sq
  · rintro i y σ' H2 T1 H3 hy ⟨a, b, d, rfl, e2, h2⟩ hT e3 h3
    have hi : i < n := by have := (List.getElem?_eq_some_iff.mp hy).1; rw [rng_len] at this; exact this
    rw [rng_at hi] at hy
    cases hy
    have hc3 := (hc.same e2).same e3
    have h23 := h2.same e3
    have okf := ok i
    o_readsAll
    refine jnE (fun y H' => y = .int (lowV (gv L fs x c) (fs i)) ∧ H' = H3) ?_ (fun Q' hQ => br (fun h => ?_) (fun h => ?_))
    · rintro y H' ⟨rfl, rfl⟩
      o_readsAll
      refine g_ixL h23.sq (atI_nat (rng_at (by omega))) ?_
      o_readsAll
      refine g_ixL hc3.sq (atI_nat (rng_at hi)) ?_
      o_readsAll
      refine ⟨_, _, _, rfl, Eg.Same.put (e2.trans e3) hr, ?_⟩
      show upd _ _ _ _ = _
      rw [upd_same, rng_succ (i + 1), gv_succ okf.2.1]
    · o_readsAll
      exact hQ _ _ ⟨by unfold lowV; rw [if_pos (by omega)], rfl⟩
    · o_readsAll
      refine g_ixL h23.sq (at_ofN (j := (fs i).toNat) (by omega) (rng_at (by omega))) ?_
      exact hQ _ _ ⟨by unfold lowV; rw [if_neg (by omega)], rfl⟩
  · rintro σ' H2 ⟨a, b, d, rfl, e2, h2⟩
    o_readsAll
    rw [rng_len] at h2
    exact k r H2 hr e2 h2
theorem c_grown {L x : Int} {fl ch : Addr} {n : Nat} {fs c : Nat → Int} {H : Hp} {Q : VK} {E : XK} (hf : IL H fl n fs) (hc : IL H ch n c) (hn : n ≤ 40) (ok : OkF fs) (hL : 0 ≤ L) (hL6 : L ≤ 6) (k : ∀ p H', H p = none → Same H H' → IL H' p (n + 1) (gv L fs x c) → Q (.ref p) H') : sp_grown K [.int L, .ref fl, .int x, .ref ch] H Q E := ⟨L, x, fl, ch, n, fs, c, rfl, hf, hc, hn, ok, hL, hL6, k⟩
def sp_row (c : Int) (v : Int → (Nat → Int) → Nat → Int) : Sp := fun vs H Q _ => ∃ (L : Int) (fl : Addr) (n : Nat) (fs : Nat → Int), vs = [.int L, .ref fl] ∧ IL H fl n fs ∧ n ≤ 40 ∧ OkF fs ∧ 0 ≤ L ∧ L ≤ 6 ∧ ∀ p H', H p = none → Same H H' → IL H' p (n + 1) (v L fs) → Q (.ref p) H'
def wd (L : Int) (fs : Nat → Int) (b : Nat) : Int := gv L fs 0 (fun _ => 1) b
theorem d_head_row (T : Txt K w mg Z) : Dfn P w K mg base 2 "head_row" ["lanes", "falls"] (sp_row 1 hd) := by
  obtain ⟨f, fd, F, hm, hb⟩ := T.f_head_row
  refine ⟨f, fd, F.ok sc_head_row (fun vs H Q E h => by first | (obtain ⟨rfl, _⟩ := h; rfl) | (obtain ⟨_, rfl, _⟩ := h; rfl) | (obtain ⟨_, _, rfl, _⟩ := h; rfl) | (obtain ⟨_, _, _, rfl, _⟩ := h; rfl) | (obtain ⟨_, _, _, _, rfl, _⟩ := h; rfl) | (obtain ⟨_, _, _, _, _, rfl, _⟩ := h; rfl) | (obtain ⟨_, _, _, _, _, _, rfl, _⟩ := h; rfl) | (obtain ⟨_, _, _, _, _, _, _, rfl, _⟩ := h; rfl) | (obtain ⟨_, _, _, _, _, _, _, _, rfl, _⟩ := h; rfl) | (obtain ⟨_, _, _, _, _, _, _, _, _, rfl, _⟩ := h; rfl) | (obtain ⟨_, _, _, _, _, _, _, _, _, _, rfl, _⟩ := h; rfl) | (obtain ⟨_, _, _, _, _, _, _, _, _, _, _, rfl, _⟩ := h; rfl) | (obtain ⟨_, _, _, _, _, _, _, _, _, _, _, _, rfl, _⟩ := h; rfl) | (obtain ⟨_, _, _, _, _, _, _, _, _, _, _, _, _, rfl, _⟩ := h; rfl) | (obtain ⟨_, _, _, _, _, _, _, _, _, _, _, _, _, _, rfl, _⟩ := h; rfl) | (obtain ⟨_, _, _, _, _, _, _, _, _, _, _, _, _, _, _, rfl, _⟩ := h; rfl) | (obtain ⟨_, _, _, _, _, _, _, _, _, _, _, _, _, _, _, _, rfl, _⟩ := h; rfl)) (fun cdv A outer s H vs Q E hr h => ?_), hm, F.kp, hb⟩
  obtain ⟨L, fl, n, fs, rfl, hf, hn, ok, hL, hL6, k⟩ := h
  have D_grown := d_grown (P := P) (base := base) T
  refine ⟨_, (pss_one (ps_ret (pe_dfn D_grown (hr.mono (by decide)) (by rfl) (pa_cons (pv 0) (pa_cons (pv 1) (pa_cons pe_int (pa_cons (pe_lc (own := [("_", 2)]) (by rfl) sc_head_row.nd (pi_list (pv 1)) (blkOk_by (N := n_head_row) (sc := defScope st_head_row) (by decide +kernel)) (fun _ _ _ _ _ => (pg_name (i := 2) sc_head_row.nd rfl (.inl rfl))) (fun _ _ _ _ _ => pts_nil) (fun _ _ _ _ _ => pe_int)) pa_nil))))))), ?_⟩
  try dsimp only [cxOf, Cx.nox, Cx.wish]
  show (_ : TS) _ [some _, some _, none] _
  o_readsAll
  refine l_lstP (fun i => .int 0) (xs := rng n fs) hf.sq (fun x => rfl) (fun D i x H' hx hD e hl => ?_) fun q H2 hq e2 h2 => ?_
  · have hi := (List.getElem?_eq_some_iff.mp hx).1
    rw [rng_len] at hi
    o_readsAll
    exact g_itemP e hl hD (by rw [sizeLine_eq]; omega) rfl
  · rw [rng_len] at h2
    o_readsAll
    refine c_grown (hf.same e2) h2 hn ok hL hL6 fun p H3 hp e3 h3 => ?_
    exact k p H3 (e2.free hp) (e2.trans e3) h3
theorem d_worth_row (T : Txt K w mg Z) : Dfn P w K mg base 2 "worth_row" ["lanes", "falls"] (sp_row 0 wd) := by
  obtain ⟨f, fd, F, hm, hb⟩ := T.f_worth_row
  refine ⟨f, fd, F.ok sc_worth_row (fun vs H Q E h => by first | (obtain ⟨rfl, _⟩ := h; rfl) | (obtain ⟨_, rfl, _⟩ := h; rfl) | (obtain ⟨_, _, rfl, _⟩ := h; rfl) | (obtain ⟨_, _, _, rfl, _⟩ := h; rfl) | (obtain ⟨_, _, _, _, rfl, _⟩ := h; rfl) | (obtain ⟨_, _, _, _, _, rfl, _⟩ := h; rfl) | (obtain ⟨_, _, _, _, _, _, rfl, _⟩ := h; rfl) | (obtain ⟨_, _, _, _, _, _, _, rfl, _⟩ := h; rfl) | (obtain ⟨_, _, _, _, _, _, _, _, rfl, _⟩ := h; rfl) | (obtain ⟨_, _, _, _, _, _, _, _, _, rfl, _⟩ := h; rfl) | (obtain ⟨_, _, _, _, _, _, _, _, _, _, rfl, _⟩ := h; rfl) | (obtain ⟨_, _, _, _, _, _, _, _, _, _, _, rfl, _⟩ := h; rfl) | (obtain ⟨_, _, _, _, _, _, _, _, _, _, _, _, rfl, _⟩ := h; rfl) | (obtain ⟨_, _, _, _, _, _, _, _, _, _, _, _, _, rfl, _⟩ := h; rfl) | (obtain ⟨_, _, _, _, _, _, _, _, _, _, _, _, _, _, rfl, _⟩ := h; rfl) | (obtain ⟨_, _, _, _, _, _, _, _, _, _, _, _, _, _, _, rfl, _⟩ := h; rfl) | (obtain ⟨_, _, _, _, _, _, _, _, _, _, _, _, _, _, _, _, rfl, _⟩ := h; rfl)) (fun cdv A outer s H vs Q E hr h => ?_), hm, F.kp, hb⟩
  obtain ⟨L, fl, n, fs, rfl, hf, hn, ok, hL, hL6, k⟩ := h
  have D_grown := d_grown (P := P) (base := base) T
  refine ⟨_, (pss_one (ps_ret (pe_dfn D_grown (hr.mono (by decide)) (by rfl) (pa_cons (pv 0) (pa_cons (pv 1) (pa_cons pe_int (pa_cons (pe_lc (own := [("_", 2)]) (by rfl) sc_worth_row.nd (pi_list (pv 1)) (blkOk_by (N := n_worth_row) (sc := defScope st_worth_row) (by decide +kernel)) (fun _ _ _ _ _ => (pg_name (i := 2) sc_worth_row.nd rfl (.inl rfl))) (fun _ _ _ _ _ => pts_nil) (fun _ _ _ _ _ => pe_int)) pa_nil))))))), ?_⟩
  try dsimp only [cxOf, Cx.nox, Cx.wish]
  show (_ : TS) _ [some _, some _, none] _
  o_readsAll
  refine l_lstP (fun i => .int 1) (xs := rng n fs) hf.sq (fun x => rfl) (fun D i x H' hx hD e hl => ?_) fun q H2 hq e2 h2 => ?_
  · have hi := (List.getElem?_eq_some_iff.mp hx).1
    rw [rng_len] at hi
    o_readsAll
    exact g_itemP e hl hD (by rw [sizeLine_eq]; omega) rfl
  · rw [rng_len] at h2
    o_readsAll
    refine c_grown (hf.same e2) h2 hn ok hL hL6 fun p H3 hp e3 h3 => ?_
    exact k p H3 (e2.free hp) (e2.trans e3) h3
/-- the rows of loads -/
def RowsAt (H : Hp) (ps : List Addr) (n : Nat) (L : Int) (fs : Nat → Int) : Prop := ∀ a q, ps[a]? = some q → IL H q (n + 1) (ld L fs a)
theorem RowsAt.snoc {H : Hp} {qs : List Addr} {n : Nat} {L : Int} {fs : Nat → Int} {r D : Addr} {o : HO} (h : RowsAt H qs n L fs) (hr : IL H r (n + 1) (ld L fs qs.length)) (e : H D = some (.lst (qs.map V.ref))) : RowsAt (upd H D o) (qs ++ [r]) n L fs := by
  intro a q hq
  by_cases ha : a < qs.length
  · rw [List.getElem?_append_left ha] at hq
    show upd _ _ _ _ = _
    rw [upd_ne (il_ne (h a q hq) e)]
    exact h a q hq
  · have ha2 := (List.getElem?_eq_some_iff.mp hq).1
    rw [List.length_append, List.length_cons, List.length_nil] at ha2
    rw [List.getElem?_append_right (by omega), show a - qs.length = 0 by omega] at hq
    cases hq
    show upd _ _ _ _ = _
    rw [upd_ne (il_ne hr e), show a = qs.length by omega]
    exact hr
theorem RowsAt.same {H H' : Hp} {ps : List Addr} {n : Nat} {L : Int} {fs : Nat → Int} (h : RowsAt H ps n L fs) (e : Same H H') : RowsAt H' ps n L fs := fun a q hq => (h a q hq).same e
def sp_lrows : Sp := fun vs H Q _ => ∃ (L : Int) (fl : Addr) (n : Nat) (fs : Nat → Int), vs = [.int L, .ref fl] ∧ IL H fl n fs ∧ n ≤ 40 ∧ OkF fs ∧ 0 ≤ L ∧ L ≤ 6 ∧ ∀ p ps H', H p = none → Same H H' → H' p = some (.lst (ps.map V.ref)) → ps.length = n → RowsAt H' ps n L fs → (∀ q ∈ ps, H q = none) → Q (.ref p) H'
theorem d_load_rows (T : Txt K w mg Z) : Dfn P w K mg base 2 "load_rows" ["lanes", "falls"] (sp_lrows) := by
  obtain ⟨f, fd, F, hm, hb⟩ := T.f_load_rows
  refine ⟨f, fd, F.ok sc_load_rows (fun vs H Q E h => by first | (obtain ⟨rfl, _⟩ := h; rfl) | (obtain ⟨_, rfl, _⟩ := h; rfl) | (obtain ⟨_, _, rfl, _⟩ := h; rfl) | (obtain ⟨_, _, _, rfl, _⟩ := h; rfl) | (obtain ⟨_, _, _, _, rfl, _⟩ := h; rfl) | (obtain ⟨_, _, _, _, _, rfl, _⟩ := h; rfl) | (obtain ⟨_, _, _, _, _, _, rfl, _⟩ := h; rfl) | (obtain ⟨_, _, _, _, _, _, _, rfl, _⟩ := h; rfl) | (obtain ⟨_, _, _, _, _, _, _, _, rfl, _⟩ := h; rfl) | (obtain ⟨_, _, _, _, _, _, _, _, _, rfl, _⟩ := h; rfl) | (obtain ⟨_, _, _, _, _, _, _, _, _, _, rfl, _⟩ := h; rfl) | (obtain ⟨_, _, _, _, _, _, _, _, _, _, _, rfl, _⟩ := h; rfl) | (obtain ⟨_, _, _, _, _, _, _, _, _, _, _, _, rfl, _⟩ := h; rfl) | (obtain ⟨_, _, _, _, _, _, _, _, _, _, _, _, _, rfl, _⟩ := h; rfl) | (obtain ⟨_, _, _, _, _, _, _, _, _, _, _, _, _, _, rfl, _⟩ := h; rfl) | (obtain ⟨_, _, _, _, _, _, _, _, _, _, _, _, _, _, _, rfl, _⟩ := h; rfl) | (obtain ⟨_, _, _, _, _, _, _, _, _, _, _, _, _, _, _, _, rfl, _⟩ := h; rfl)) (fun cdv A outer s H vs Q E hr h => ?_), hm, F.kp, hb⟩
  obtain ⟨L, fl, n, fs, rfl, hf, hn, ok, hL, hL6, k⟩ := h
  have D_grown := d_grown (P := P) (base := base) T
  refine ⟨_, (pss_cons (ps_set (i := 2) sc_load_rows.nd rfl (.inr rfl) (pe_callTy call_uRng (by rfl) T.b_range bt_range (pa_cons (pe_callB call_uLen (by rfl) T.b_len bt_len (pa_cons (pv 1) pa_nil)) pa_nil)))
      (pss_one (ps_ret (pe_lc (own := [("a", 3)]) (by rfl) sc_load_rows.nd (pi_range1 (by rfl) T.b_range (pa_cons (pe_callB call_uLen (by rfl) T.b_len bt_len (pa_cons (pv 1) pa_nil)) pa_nil)) (blkOk_by (N := n_load_rows) (sc := defScope st_load_rows) (by decide +kernel)) (fun _ _ _ _ _ => (pg_name (i := 3) sc_load_rows.nd rfl (.inr rfl))) (fun _ _ _ _ _ => pts_nil) (fun _ _ _ _ _ => (pe_dfn D_grown (hr.mono (by decide)) (by rfl) (pa_cons (pv 0) (pa_cons (pv 1) (pa_cons pe_int (pa_cons (pe_lc (own := [("b", 4)]) (by rfl) sc_load_rows.nd (pi_rng (pv 2)) (blkOk_by (N := n_load_rows) (sc := (⟨.function, [(PySem.Str.ofString ".0", .local), (PySem.Str.ofString "a", .cell), (PySem.Str.ofString "grown", .globalImplicit), (PySem.Str.ofString "falls", .cell), (PySem.Str.ofString "lanes", .cell), (PySem.Str.ofString "rungs", .cell)], false, false, []⟩ : Scope)) (by decide +kernel)) (fun _ _ _ _ _ => (pg_name (i := 4) sc_load_rows.nd rfl (.inl rfl))) (fun _ _ _ _ _ => pts_nil) (fun _ _ _ _ _ => (pe_ifExp (pt_cmpR (op_uEqK (K := K) rfl hr.units) (pv 4) (pv 3) (nomark _)) pe_int pe_int))) pa_nil)))))))))), ?_⟩
  try dsimp only [cxOf, Cx.nox, Cx.wish]
  show (_ : TS) _ [some _, some _, none, none, none] _
  o_readsAll
  rename_i N hN rp H1 hrp e1 h1
  rw [rng_len, Int.toNat_natCast]
  refine l_it walk_range (fun D i acc H' => ∃ ps : List Addr, acc = ps.map V.ref ∧ ps.length = i ∧ Same H1 H' ∧ RowsAt H' ps n L fs ∧ ∀ q ∈ ps, H1 q = none) (fun D hD => ⟨[], rfl, rfl, Eg.Same.put (Same.refl _) hD, (fun _ _ h => nomatch h), fun _ h => nomatch h⟩) (fun _ _ _ _ _ _ _ _ => trivial) (fun D i x acc H2 H3 hD hi e l p y => ?_) (fun D acc H' hD e l p => ?_)
  · obtain ⟨ps, rfl, hpl, e2, hR, hfr⟩ := p
    obtain ⟨y1, y2⟩ := y
    subst y1 y2
    refine ⟨rfl, ?_⟩
    have h3 := e2 _ _ h1
    rw [rng_len] at h3
    o_readsAll
    refine l_rngP (fun b => .int (dl i b)) (fun x => rfl) (fun D' b H4 hb hD' e4 h4 => ?_) fun q H4 hq e4 h4 => ?_
    · rw [Int.sub_zero, Int.toNat_natCast] at hb
      o_readsAll
      refine br (fun h => ?_) (fun h => ?_)
      · o_readsAll
        exact g_itemP e4 h4 hD' (by rw [sizeLine_eq]; omega) (by unfold Ld.dl; rw [if_pos (by omega)])
      · o_readsAll
        exact g_itemP e4 h4 hD' (by rw [sizeLine_eq]; omega) (by unfold Ld.dl; rw [if_neg (by omega)])
    · rw [Int.sub_zero, Int.toNat_natCast] at h4
      o_readsAll
      refine c_grown (((hf.same e1).same e2).same e4) h4 hn ok hL hL6 fun r H5 hr5 e5 h5 => ?_
      refine g_item (e5 _ _ (e4 _ _ e)) l (by rw [sizeLine_eq]; omega) ⟨ps ++ [r], by rw [List.map_append]; rfl, by rw [List.length_append, hpl]; rfl, Eg.Same.put ((e2.trans e4).trans e5) hD, RowsAt.snoc ((hR.same e4).same e5) (by rw [hpl]; exact h5) (e5 _ _ (e4 _ _ e)), fun q hq => by
        rcases List.mem_append.mp hq with h | h
        · exact hfr q h
        · rw [List.mem_singleton.mp h]; exact (e2.trans e4).free hr5⟩
  · obtain ⟨ps, rfl, hpl, e2, hR, hfr⟩ := p
    exact k D ps H' (e1.free hD) (e1.trans e2) e hpl hR fun q hq => e1.free (hfr q hq)
end
end L31

namespace L31
open SX Ld
section
variable {P : Program} {w : World} {K : PySem.W.Frag} {mg : Str → Option Value} {base : Heap} {Z : Ad}
def sp_bound (K : PySem.W.Frag) (w : World) (Z : Ad) : Sp := fun vs H Q _ => ∃ (what : Str) (n lim : Int), vs = [.str what, .int n] ∧ KDct K w Z.a_LIMITS what (.int lim) ∧ n ≤ lim ∧ ∀ H', Same H H' → Q .non H'
theorem d_bound (T : Txt K w mg Z) : Dfn P w K mg base 3 "bound" ["what", "number"] (sp_bound K w Z) := by
  obtain ⟨f, fd, F, hm, hb⟩ := T.f_bound
  refine ⟨f, fd, F.ok sc_bound (fun vs H Q E h => by first | (obtain ⟨rfl, _⟩ := h; rfl) | (obtain ⟨_, rfl, _⟩ := h; rfl) | (obtain ⟨_, _, rfl, _⟩ := h; rfl) | (obtain ⟨_, _, _, rfl, _⟩ := h; rfl) | (obtain ⟨_, _, _, _, rfl, _⟩ := h; rfl) | (obtain ⟨_, _, _, _, _, rfl, _⟩ := h; rfl) | (obtain ⟨_, _, _, _, _, _, rfl, _⟩ := h; rfl) | (obtain ⟨_, _, _, _, _, _, _, rfl, _⟩ := h; rfl) | (obtain ⟨_, _, _, _, _, _, _, _, rfl, _⟩ := h; rfl) | (obtain ⟨_, _, _, _, _, _, _, _, _, rfl, _⟩ := h; rfl) | (obtain ⟨_, _, _, _, _, _, _, _, _, _, rfl, _⟩ := h; rfl) | (obtain ⟨_, _, _, _, _, _, _, _, _, _, _, rfl, _⟩ := h; rfl) | (obtain ⟨_, _, _, _, _, _, _, _, _, _, _, _, rfl, _⟩ := h; rfl) | (obtain ⟨_, _, _, _, _, _, _, _, _, _, _, _, _, rfl, _⟩ := h; rfl) | (obtain ⟨_, _, _, _, _, _, _, _, _, _, _, _, _, _, rfl, _⟩ := h; rfl) | (obtain ⟨_, _, _, _, _, _, _, _, _, _, _, _, _, _, _, rfl, _⟩ := h; rfl) | (obtain ⟨_, _, _, _, _, _, _, _, _, _, _, _, _, _, _, _, rfl, _⟩ := h; rfl)) (fun cdv A outer s H vs Q E hr h => ?_), hm, F.kp, hb⟩
  obtain ⟨what, n, lim, rfl, hd, hl, k⟩ := h
  refine ⟨_, (pss_one (ps_if (pt_cmpR op_gt (pv 1) (pe_ix ix_kdict (pe_gr T.c_LIMITS) (pv 0) (fun _ _ => rfl)) (nomark _)) (pss_one ps_never) pss_nil)), ?_⟩
  try dsimp only [cxOf, Cx.nox, Cx.wish]
  show (_ : TS) _ [some _, some _] _
  o_readsAll
  refine g_kd hd ?_
  o_readsAll
  refine br (fun h => absurd h (by omega)) (fun _ => ?_)
  o_readsAll
  exact k _ (Same.refl _)
theorem c_bound {what : Str} {n lim : Int} {H : Hp} {Q : VK} {E : XK} (hd : KDct K w Z.a_LIMITS what (.int lim)) (hl : n ≤ lim) (k : ∀ H', Same H H' → Q .non H') : sp_bound K w Z [.str what, .int n] H Q E := ⟨what, n, lim, rfl, hd, hl, k⟩
/-- a demand -/
def DemAt (C : Addr) (H : Hp) (d : Addr) (c dr hu st : Int) : Prop := ∃ dx, H d = some (.ins C dx [("crowns_number", .int c), ("drops_number", .int dr), ("hung_number", .int hu), ("struck_number", .int st)])
theorem DemAt.same {C : Addr} {H H' : Hp} {d : Addr} {c dr hu st : Int} (h : DemAt C H d c dr hu st) (e : Same H H') : DemAt C H' d c dr hu st := by
  obtain ⟨dx, h⟩ := h
  exact ⟨dx, e _ _ h⟩
def sp_deinit (C : Addr) : Sp := fun vs H Q _ => ∃ (x dx : Addr) (c dr hu st : Int), vs = [.ref x, .int c, .int dr, .int hu, .int st] ∧ H x = some (.ins C dx []) ∧ 1 ≤ c ∧ 0 ≤ dr ∧ 0 ≤ hu ∧ 0 ≤ st ∧ ∀ H', Off x H H' → DemAt C H' x c dr hu st → Q .non H'
def sp_dcr (C : Addr) (f : Int → Int → Int → Int → Int) : Sp := fun vs H Q _ => ∃ (d : Addr) (c dr hu st : Int), vs = [.ref d] ∧ DemAt C H d c dr hu st ∧ Q (.int (f c dr hu st)) H
end
end L31

namespace L31
open SX Ld
section
variable {P : Program} {w : World} {K : PySem.W.Frag} {mg : Str → Option Value} {base : Heap} {Z : Ad}
def LadAt (C : Addr) (H : Hp) (l : Addr) (L : Int) (n : Nat) (fs : Nat → Int) (ret : Bool) : Prop := ∃ (dx fl lt hl wl : Addr) (ps : List Addr), H l = some (.ins C dx [("lanes_number", .int L), ("falls_list", .ref fl), ("returns_kept", .bl ret), ("loads_table", .ref lt), ("heads_list", .ref hl), ("worths_list", .ref wl)]) ∧ IL H fl n fs ∧ H lt = some (.lst (ps.map V.ref)) ∧ ps.length = n ∧ RowsAt H ps n L fs ∧ IL H hl (n + 1) (hd L fs) ∧ IL H wl (n + 1) (wd L fs)
theorem LadAt.same {C : Addr} {H H' : Hp} {l : Addr} {L : Int} {n : Nat} {fs : Nat → Int} {ret : Bool} (h : LadAt C H l L n fs ret) (e : Same H H') : LadAt C H' l L n fs ret := by
  obtain ⟨dx, fl, lt, hl, wl, ps, a, b, c, d, f, g, i⟩ := h
  exact ⟨dx, fl, lt, hl, wl, ps, e _ _ a, b.same e, e _ _ c, d, f.same e, g.same e, i.same e⟩
/-- a ladder whose parts are all new -/
def LadFr (C : Addr) (H0 H : Hp) (l : Addr) (L : Int) (n : Nat) (fs : Nat → Int) (ret : Bool) : Prop := ∃ (dx fl lt hl wl : Addr) (ps : List Addr), (H l = some (.ins C dx [("lanes_number", .int L), ("falls_list", .ref fl), ("returns_kept", .bl ret), ("loads_table", .ref lt), ("heads_list", .ref hl), ("worths_list", .ref wl)]) ∧ IL H fl n fs ∧ H lt = some (.lst (ps.map V.ref)) ∧ ps.length = n ∧ RowsAt H ps n L fs ∧ IL H hl (n + 1) (hd L fs) ∧ IL H wl (n + 1) (wd L fs)) ∧ H0 fl = none ∧ H0 lt = none ∧ H0 hl = none ∧ H0 wl = none ∧ ∀ q ∈ ps, H0 q = none
theorem LadFr.at {C : Addr} {H0 H : Hp} {l : Addr} {L : Int} {n : Nat} {fs : Nat → Int} {ret : Bool} (h : LadFr C H0 H l L n fs ret) : LadAt C H l L n fs ret := by
  obtain ⟨dx, fl, lt, hl, wl, ps, h1, h2⟩ := h
  exact ⟨dx, fl, lt, hl, wl, ps, h1⟩
theorem LadFr.mono {C : Addr} {H1 H0 H : Hp} {l : Addr} {L : Int} {n : Nat} {fs : Nat → Int} {ret : Bool} (h : LadFr C H0 H l L n fs ret) (e : Same H1 H0) : LadFr C H1 H l L n fs ret := by
  obtain ⟨dx, fl, lt, hl, wl, ps, a, f1, f2, f3, f4, f5⟩ := h
  exact ⟨dx, fl, lt, hl, wl, ps, a, e.free f1, e.free f2, e.free f3, e.free f4, fun q hq => e.free (f5 q hq)⟩
theorem LadFr.same {C : Addr} {H0 H H' : Hp} {l : Addr} {L : Int} {n : Nat} {fs : Nat → Int} {ret : Bool} (h : LadFr C H0 H l L n fs ret) (e : Same H H') : LadFr C H0 H' l L n fs ret := by
  obtain ⟨dx, fl, lt, hl, wl, ps, ⟨a, b, c, d, f, g, i⟩, h2⟩ := h
  exact ⟨dx, fl, lt, hl, wl, ps, ⟨e _ _ a, b.same e, e _ _ c, d, f.same e, g.same e, i.same e⟩, h2⟩
theorem LadFr.off {C s : Addr} {H0 H H' : Hp} {l : Addr} {L : Int} {n : Nat} {fs : Nat → Int} {ret : Bool} {u : HO} (h : LadFr C H0 H l L n fs ret) (hs : H0 s = some u) (nl : l ≠ s) (o : Off s H H') : LadFr C H0 H' l L n fs ret := by
  obtain ⟨dx, fl, lt, hl, wl, ps, ⟨a, b, c, d, f, g, i⟩, f1, f2, f3, f4, f5⟩ := h
  have ne : ∀ {x : Addr}, H0 x = none → x ≠ s := fun hx => (ne_of_none hs hx).symm
  exact ⟨dx, fl, lt, hl, wl, ps, ⟨o _ _ nl a, o _ _ (ne f1) b, o _ _ (ne f2) c, d, fun j q hq => o _ _ (ne (f5 q (List.mem_of_getElem? hq))) (f j q hq), o _ _ (ne f3) g, o _ _ (ne f4) i⟩, f1, f2, f3, f4, f5⟩
def sp_wrung (K : PySem.W.Frag) : Sp := fun vs H Q _ => ∃ (L : Int) (fl : Addr) (n : Nat) (fs : Nat → Int), vs = [.int L, .ref fl] ∧ IL H fl n fs ∧ 2 ≤ L ∧ 0 < n ∧ n ≤ 40 ∧ OkF fs ∧ ∀ H', Same H H' → Q .non H'
theorem d_wrong_rung (T : Txt K w mg Z) : Dfn P w K mg base 1 "wrong_rung" ["lanes", "falls"] (sp_wrung K) := by
  obtain ⟨f, fd, F, hm, hb⟩ := T.f_wrong_rung
  refine ⟨f, fd, F.ok sc_wrong_rung (fun vs H Q E h => by first | (obtain ⟨rfl, _⟩ := h; rfl) | (obtain ⟨_, rfl, _⟩ := h; rfl) | (obtain ⟨_, _, rfl, _⟩ := h; rfl) | (obtain ⟨_, _, _, rfl, _⟩ := h; rfl) | (obtain ⟨_, _, _, _, rfl, _⟩ := h; rfl) | (obtain ⟨_, _, _, _, _, rfl, _⟩ := h; rfl) | (obtain ⟨_, _, _, _, _, _, rfl, _⟩ := h; rfl) | (obtain ⟨_, _, _, _, _, _, _, rfl, _⟩ := h; rfl) | (obtain ⟨_, _, _, _, _, _, _, _, rfl, _⟩ := h; rfl) | (obtain ⟨_, _, _, _, _, _, _, _, _, rfl, _⟩ := h; rfl) | (obtain ⟨_, _, _, _, _, _, _, _, _, _, rfl, _⟩ := h; rfl) | (obtain ⟨_, _, _, _, _, _, _, _, _, _, _, rfl, _⟩ := h; rfl) | (obtain ⟨_, _, _, _, _, _, _, _, _, _, _, _, rfl, _⟩ := h; rfl) | (obtain ⟨_, _, _, _, _, _, _, _, _, _, _, _, _, rfl, _⟩ := h; rfl) | (obtain ⟨_, _, _, _, _, _, _, _, _, _, _, _, _, _, rfl, _⟩ := h; rfl) | (obtain ⟨_, _, _, _, _, _, _, _, _, _, _, _, _, _, _, rfl, _⟩ := h; rfl) | (obtain ⟨_, _, _, _, _, _, _, _, _, _, _, _, _, _, _, _, rfl, _⟩ := h; rfl)) (fun cdv A outer s H vs Q E hr h => ?_), hm, F.kp, hb⟩
  obtain ⟨L, fl, n, fs, rfl, hf, hL, h0, hn, ok, k⟩ := h
  have hfe : (rng n fs).isEmpty = false := by
    cases n with
    | zero => omega
    | succ m => rw [rng_succ]; simp
  refine ⟨_, (pss_cons (ps_if (PW.pt (pw_or (pt_cmpR op_lt (pv 0) pe_int (nomark _)) (pw_or1 (pt_not (pt_u (pv 1)))))) (pss_one (ps_ret (pe_un un_neg pe_int))) pss_nil)
      (pss_cons (ps_for PassesOwn.never rfl (pi_enum (by rfl) T.b_enumerate (pa_cons (pv 1) pa_nil)) (pg_tup (by rfl) (pgs_cons (pg_name (i := 2) sc_wrong_rung.nd rfl (.inl rfl)) (pgs_cons (pg_name (i := 3) sc_wrong_rung.nd rfl (.inl rfl)) pgs_nil)))
        (pss_cons (ps_set (i := 4) sc_wrong_rung.nd rfl (.inl rfl) (pe_ifExp (pt_cmpR op_gt (pv 2) pe_int (nomark _)) (pe_op op_sub (pv 2) pe_int) pe_int))
      (pss_one (ps_if (pt_not (pt_chain op_le op_le (pe_gi T.c_OUT) (pv 3) (pv 4))) (pss_one (ps_ret (pv 2))) pss_nil))))
      (pss_one (ps_ret pe_non)))), ?_⟩
  try dsimp only [cxOf, Cx.nox, Cx.wish]
  show (_ : TS) _ [some _, some _, none, none, none] _
  o_readsAll
  refine brF (decide_eq_false (by omega)) ?_
  o_readsAll
  refine g_truL hf.sq ?_
  rw [hfe]
  o_readsAll
  refine brF rfl ?_
  o_readsAll
  refine f_enum (xs := rng n fs) (fun i σ' H' => ∃ a b d, σ' = [some (.int L), some (.ref fl), a, b, d] ∧ Same H H') ⟨_, _, _, rfl, Same.refl _⟩ ?_ ?_ ?_
  · rintro i σ' H2 hi ⟨a, b, d, rfl, e2⟩
    exact (hf.same e2).sq
  · rintro i y σ' H2 T1 H3 hy ⟨a, b, d, rfl, e2⟩ hT e3 h3
    have hi : i < n := by have := (List.getElem?_eq_some_iff.mp hy).1; rw [rng_len] at this; exact this
    rw [rng_at hi] at hy
    cases hy
    have okf := ok i
    o_readsAll
    refine jnE (fun y H' => ∃ t : Int, y = .int t ∧ H' = H3 ∧ fs i ≤ t) ?_ (fun Q' hQ => br (fun h => ?_) (fun h => ?_))
    · rintro y H' ⟨t, rfl, rfl, ht⟩
      o_readsAll
      refine ⟨_, rfl, ?_⟩
      refine brT (decide_eq_true (by omega)) ?_
      o_readsAll
      refine brF (by rw [decide_eq_true ht]; rfl) ?_
      o_readsAll
      exact ⟨_, _, _, rfl, e2.trans e3⟩
    · o_readsAll
      exact hQ _ _ ⟨_, rfl, rfl, by omega⟩
    · o_readsAll
      exact hQ _ _ ⟨_, rfl, rfl, by omega⟩
  · rintro σ' H2 ⟨a, b, d, rfl, e2⟩
    o_readsAll
    exact k _ e2
theorem c_row {c : Int} {v : Int → (Nat → Int) → Nat → Int} {L : Int} {fl : Addr} {n : Nat} {fs : Nat → Int} {H : Hp} {Q : VK} {E : XK} (hf : IL H fl n fs) (hn : n ≤ 40) (ok : OkF fs) (hL : 0 ≤ L) (hL6 : L ≤ 6) (k : ∀ p H', H p = none → Same H H' → IL H' p (n + 1) (v L fs) → Q (.ref p) H') : sp_row c v [.int L, .ref fl] H Q E := ⟨L, fl, n, fs, rfl, hf, hn, ok, hL, hL6, k⟩
theorem c_lrows {L : Int} {fl : Addr} {n : Nat} {fs : Nat → Int} {H : Hp} {Q : VK} {E : XK} (hf : IL H fl n fs) (hn : n ≤ 40) (ok : OkF fs) (hL : 0 ≤ L) (hL6 : L ≤ 6) (k : ∀ p ps H', H p = none → Same H H' → H' p = some (.lst (ps.map V.ref)) → ps.length = n → RowsAt H' ps n L fs → (∀ q ∈ ps, H q = none) → Q (.ref p) H') : sp_lrows [.int L, .ref fl] H Q E := ⟨L, fl, n, fs, rfl, hf, hn, ok, hL, hL6, k⟩
theorem c_wrung {L : Int} {fl : Addr} {n : Nat} {fs : Nat → Int} {H : Hp} {Q : VK} {E : XK} (hf : IL H fl n fs) (hL : 2 ≤ L) (h0 : 0 < n) (hn : n ≤ 40) (ok : OkF fs) (k : ∀ H', Same H H' → Q .non H') : sp_wrung K [.int L, .ref fl] H Q E := ⟨L, fl, n, fs, rfl, hf, hL, h0, hn, ok, k⟩
def sp_linit (C : Addr) : Sp := fun vs H Q _ => ∃ (x dx fl : Addr) (L : Int) (n : Nat) (fs : Nat → Int) (ret : Bool), vs = [.ref x, .int L, .ref fl, .bl ret] ∧ H x = some (.ins C dx []) ∧ IL H fl n fs ∧ x ≠ fl ∧ 2 ≤ L ∧ L ≤ 6 ∧ 0 < n ∧ n ≤ 40 ∧ OkF fs ∧ ∀ H', Off x H H' → LadFr C H H' x L n fs ret → Q .non H'
theorem d_Ladder_init (T : Txt K w mg Z) : Ini P w K mg base 4 "Ladder" Z.a_Ladder ["self", "lanes", "falls", "returns"] (sp_linit Z.a_Ladder) := by
  obtain ⟨f, fd, F, hM, hm, hb⟩ := T.f_Ladder_init
  refine ⟨f, fd, F.ok sc_Ladder_init (fun vs H Q E h => by first | (obtain ⟨rfl, _⟩ := h; rfl) | (obtain ⟨_, rfl, _⟩ := h; rfl) | (obtain ⟨_, _, rfl, _⟩ := h; rfl) | (obtain ⟨_, _, _, rfl, _⟩ := h; rfl) | (obtain ⟨_, _, _, _, rfl, _⟩ := h; rfl) | (obtain ⟨_, _, _, _, _, rfl, _⟩ := h; rfl) | (obtain ⟨_, _, _, _, _, _, rfl, _⟩ := h; rfl) | (obtain ⟨_, _, _, _, _, _, _, rfl, _⟩ := h; rfl) | (obtain ⟨_, _, _, _, _, _, _, _, rfl, _⟩ := h; rfl) | (obtain ⟨_, _, _, _, _, _, _, _, _, rfl, _⟩ := h; rfl) | (obtain ⟨_, _, _, _, _, _, _, _, _, _, rfl, _⟩ := h; rfl) | (obtain ⟨_, _, _, _, _, _, _, _, _, _, _, rfl, _⟩ := h; rfl) | (obtain ⟨_, _, _, _, _, _, _, _, _, _, _, _, rfl, _⟩ := h; rfl) | (obtain ⟨_, _, _, _, _, _, _, _, _, _, _, _, _, rfl, _⟩ := h; rfl) | (obtain ⟨_, _, _, _, _, _, _, _, _, _, _, _, _, _, rfl, _⟩ := h; rfl) | (obtain ⟨_, _, _, _, _, _, _, _, _, _, _, _, _, _, _, rfl, _⟩ := h; rfl) | (obtain ⟨_, _, _, _, _, _, _, _, _, _, _, _, _, _, _, _, rfl, _⟩ := h; rfl)) (fun cdv A outer s H vs Q E hr h => ?_), hM, hm, hb⟩
  obtain ⟨x, dx, fl, L, n, fs, ret, rfl, hx, hf, nf, hL, hL6, h0, hn, ok, k⟩ := h
  have k1 := T.k_LIMITS_lanes
  have k2 := T.k_LIMITS_rungs
  have D_bound := d_bound (P := P) (base := base) T
  have D_wrong_rung := d_wrong_rung (P := P) (base := base) T
  have D_load_rows := d_load_rows (P := P) (base := base) T
  have D_head_row := d_head_row (P := P) (base := base) T
  have D_worth_row := d_worth_row (P := P) (base := base) T
  have l_Ladder := T.l_Ladder
  have n_Ladder_lanes_number := T.n_Ladder_lanes_number
  have n_Ladder_falls_list := T.n_Ladder_falls_list
  have n_Ladder_returns_kept := T.n_Ladder_returns_kept
  have n_Ladder_loads_table := T.n_Ladder_loads_table
  have n_Ladder_heads_list := T.n_Ladder_heads_list
  have n_Ladder_worths_list := T.n_Ladder_worths_list
  refine ⟨_, (pss_cons (ps_expr (pe_dfn D_bound (hr.mono (by decide)) (by rfl) (pa_cons pe_str (pa_cons (pv 1) pa_nil))))
      (pss_cons (ps_expr (pe_dfn D_bound (hr.mono (by decide)) (by rfl) (pa_cons pe_str (pa_cons (pe_callB call_uLen (by rfl) T.b_len bt_len (pa_cons (pv 2) pa_nil)) pa_nil))))
      (pss_cons (ps_set (i := 4) sc_Ladder_init.nd rfl (.inl rfl) (pe_dfn D_wrong_rung (hr.mono (by decide)) (by rfl) (pa_cons (pv 1) (pa_cons (pv 2) pa_nil))))
      (pss_cons (ps_if (pt_cmpR op_uNotN (pv 4) pe_non (nomark _)) (pss_one ps_never) pss_nil)
      (pss_cons (ps_fld (pv 0) (pv 1) rfl)
      (pss_cons (ps_fld (pv 0) (pe_callTy call_uList (by rfl) T.b_list bt_list (pa_cons (pv 2) pa_nil)) rfl)
      (pss_cons (ps_fld (pv 0) (pv 3) rfl)
      (pss_cons (ps_fld (pv 0) (pe_dfn D_load_rows (hr.mono (by decide)) (by rfl) (pa_cons (pv 1) (pa_cons (pv 2) pa_nil))) rfl)
      (pss_cons (ps_fld (pv 0) (pe_dfn D_head_row (hr.mono (by decide)) (by rfl) (pa_cons (pv 1) (pa_cons (pv 2) pa_nil))) rfl)
      (pss_one (ps_fld (pv 0) (pe_dfn D_worth_row (hr.mono (by decide)) (by rfl) (pa_cons (pv 1) (pa_cons (pv 2) pa_nil))) rfl))))))))))), ?_⟩
  try dsimp only [cxOf, Cx.nox, Cx.wish]
  show (_ : TS) _ [some _, some _, some _, some _, none] _
  o_readsAll
  refine c_bound k1 hL6 fun H1 e1 => ?_
  have hf1 := hf.same e1
  o_readsAll
  refine c_bound k2 (by rw [rng_len]; omega) fun H2 e2 => ?_
  have hf2 := hf1.same e2
  o_readsAll
  refine c_wrung hf2 hL h0 hn ok fun H3 e3 => ?_
  have hf3 : H3 fl = some (.lst (rng n fs)) := hf2.same e3
  have hx3 := e3 _ _ (e2 _ _ (e1 _ _ hx))
  o_readsAll
  rename_i fl2 H4 ff e4 h4 N1 hN1 N2 hN2
  have hf4 : H4 fl = some (.lst (rng n fs)) := by o_shape
  have nf2 : x ≠ fl2 := ne_of_none upd_same ff
  refine c_lrows (by unfold IL; o_shape) hn ok (by omega) hL6 fun lt ps H5 flt e5 h5 hpl hR hfr => ?_
  have nlt : x ≠ lt := (ne_of_none upd_same flt)
  have nps : ∀ q ∈ ps, q ≠ x := fun q hq => by
    obtain ⟨a, ha, rfl⟩ := List.mem_iff_getElem.mp hq
    exact ne_of (hR a _ (List.getElem?_eq_getElem ha)) (e5 _ _ upd_same) (by intro z; cases z)
  have hf5 : H5 fl = some (.lst (rng n fs)) := by o_shape
  have hx5 := e5 _ _ upd_same
  o_readsAll
  refine c_row (by unfold IL; o_shape) hn ok (by omega) hL6 fun hp H6 fhp e6 h6 => ?_
  have nhp : x ≠ hp := ne_of_none upd_same fhp
  have hf6 : H6 fl = some (.lst (rng n fs)) := by o_shape
  have hx6 := e6 _ _ upd_same
  o_readsAll
  refine c_row (by unfold IL; o_shape) hn ok (by omega) hL6 fun wp H7 fwp e7 h7 => ?_
  have nwp : x ≠ wp := ne_of_none upd_same fwp
  have hx7 := e7 _ _ upd_same
  o_readsAll
  have o3 : Off x H H3 := off_of ((e1.trans e2).trans e3)
  refine k _ ((((((((((((o3.upd).same e4).upd).upd).same e5).upd).same e6).upd).same e7).upd))) ⟨dx, fl2, lt, hp, wp, ps, ⟨upd_same, ?_, ?_, hpl, ?_, ?_, ?_⟩, ?_, ?_, ?_, ?_, ?_⟩
  · unfold IL
    o_shape
  · o_shape
  · intro a q hq
    have nq := nps q (List.mem_of_getElem? hq)
    have h := hR a q hq
    unfold IL at h ⊢
    o_shape
  · unfold IL at h6 ⊢
    o_shape
  · unfold IL at h7 ⊢
    o_shape
  · exact ((e1.trans e2).trans e3).free (upd_none ff)
  · exact ((e1.trans e2).trans e3).free (upd_none (e4.free (upd_none (upd_none flt))))
  · exact ((e1.trans e2).trans e3).free (upd_none (e4.free (upd_none (upd_none (e5.free (upd_none fhp))))))
  · exact ((e1.trans e2).trans e3).free (upd_none (e4.free (upd_none (upd_none (e5.free (upd_none (e6.free (upd_none fwp))))))))
  · exact fun q hq => ((e1.trans e2).trans e3).free (upd_none (e4.free (upd_none (upd_none (hfr q hq)))))
theorem c_lmake {C fl : Addr} {L : Int} {n : Nat} {fs : Nat → Int} {ret : Bool} {H : Hp} {Q : VK} {E : XK} (hf : IL H fl n fs) (hL : 2 ≤ L) (hL6 : L ≤ 6) (h0 : 0 < n) (hn : n ≤ 40) (ok : OkF fs) (k : ∀ l H', H l = none → Same H H' → LadFr C H H' l L n fs ret → Q (.ref l) H') : gMake C (sp_linit C) E [.int L, .ref fl, .bl ret] H Q := by
  intro x dx hx hdx hne
  have n1 : fl ≠ x := ne_of_none hf hx
  have n2 : fl ≠ dx := ne_of_none hf hdx
  refine ⟨x, dx, fl, L, n, fs, ret, rfl, upd_same, by unfold IL; rw [upd_ne n1, upd_ne n2]; exact hf, n1.symm, hL, hL6, h0, hn, ok, fun H' o hl => ⟨rfl, k x H' hx (fun b u q => o b u (ne_of_none q hx) ?_) ?_⟩⟩
  · rw [upd_ne (ne_of_none q hx), upd_ne (ne_of_none q hdx)]
    exact q
  · obtain ⟨dx2, fl2, lt, hh, wl, ps, a, f1, f2, f3, f4, f5⟩ := hl
    exact ⟨dx2, fl2, lt, hh, wl, ps, a, upd_none (upd_none f1), upd_none (upd_none f2), upd_none (upd_none f3), upd_none (upd_none f4), fun q hq => upd_none (upd_none (f5 q hq))⟩
def sp_lnum (C : Addr) (f : Int → Nat → Bool → V) : Sp := fun vs H Q _ => ∃ (l : Addr) (L : Int) (n : Nat) (fs : Nat → Int) (ret : Bool), vs = [.ref l] ∧ LadAt C H l L n fs ret ∧ Q (f L n ret) H
theorem d_Ladder_lanes (T : Txt K w mg Z) : Mth P w K mg base 1 Z.a_Ladder "lanes" ["self"] (sp_lnum Z.a_Ladder fun L _ _ => .int L) := by
  obtain ⟨f, fd, F, hm, hb⟩ := T.f_Ladder_lanes
  refine ⟨⟨f, fd, F.ok sc_Ladder_lanes (fun vs H Q E h => by first | (obtain ⟨rfl, _⟩ := h; rfl) | (obtain ⟨_, rfl, _⟩ := h; rfl) | (obtain ⟨_, _, rfl, _⟩ := h; rfl) | (obtain ⟨_, _, _, rfl, _⟩ := h; rfl) | (obtain ⟨_, _, _, _, rfl, _⟩ := h; rfl) | (obtain ⟨_, _, _, _, _, rfl, _⟩ := h; rfl) | (obtain ⟨_, _, _, _, _, _, rfl, _⟩ := h; rfl) | (obtain ⟨_, _, _, _, _, _, _, rfl, _⟩ := h; rfl) | (obtain ⟨_, _, _, _, _, _, _, _, rfl, _⟩ := h; rfl) | (obtain ⟨_, _, _, _, _, _, _, _, _, rfl, _⟩ := h; rfl) | (obtain ⟨_, _, _, _, _, _, _, _, _, _, rfl, _⟩ := h; rfl) | (obtain ⟨_, _, _, _, _, _, _, _, _, _, _, rfl, _⟩ := h; rfl) | (obtain ⟨_, _, _, _, _, _, _, _, _, _, _, _, rfl, _⟩ := h; rfl) | (obtain ⟨_, _, _, _, _, _, _, _, _, _, _, _, _, rfl, _⟩ := h; rfl) | (obtain ⟨_, _, _, _, _, _, _, _, _, _, _, _, _, _, rfl, _⟩ := h; rfl) | (obtain ⟨_, _, _, _, _, _, _, _, _, _, _, _, _, _, _, rfl, _⟩ := h; rfl) | (obtain ⟨_, _, _, _, _, _, _, _, _, _, _, _, _, _, _, _, rfl, _⟩ := h; rfl)) (fun cdv A outer s H vs Q E hr h => ?_), hm, hb⟩, T.l_Ladder⟩
  obtain ⟨l, L, n, fs, ret, rfl, ⟨dx, fl, lt, hl, wl, ps, h1, h2, h3, h4, h5, h6, h7⟩, k⟩ := h
  have l_Ladder := T.l_Ladder
  have n_Ladder_lanes_number := T.n_Ladder_lanes_number
  refine ⟨_, (pss_one (ps_ret (pe_fld (pv 0) rfl))), ?_⟩
  try dsimp only [cxOf, Cx.nox, Cx.wish]
  show (_ : TS) _ [some _] _
  o_readsAll
theorem d_Ladder_rungs (T : Txt K w mg Z) : Mth P w K mg base 1 Z.a_Ladder "rungs" ["self"] (sp_lnum Z.a_Ladder fun _ n _ => .int (n : Int)) := by
  obtain ⟨f, fd, F, hm, hb⟩ := T.f_Ladder_rungs
  refine ⟨⟨f, fd, F.ok sc_Ladder_rungs (fun vs H Q E h => by first | (obtain ⟨rfl, _⟩ := h; rfl) | (obtain ⟨_, rfl, _⟩ := h; rfl) | (obtain ⟨_, _, rfl, _⟩ := h; rfl) | (obtain ⟨_, _, _, rfl, _⟩ := h; rfl) | (obtain ⟨_, _, _, _, rfl, _⟩ := h; rfl) | (obtain ⟨_, _, _, _, _, rfl, _⟩ := h; rfl) | (obtain ⟨_, _, _, _, _, _, rfl, _⟩ := h; rfl) | (obtain ⟨_, _, _, _, _, _, _, rfl, _⟩ := h; rfl) | (obtain ⟨_, _, _, _, _, _, _, _, rfl, _⟩ := h; rfl) | (obtain ⟨_, _, _, _, _, _, _, _, _, rfl, _⟩ := h; rfl) | (obtain ⟨_, _, _, _, _, _, _, _, _, _, rfl, _⟩ := h; rfl) | (obtain ⟨_, _, _, _, _, _, _, _, _, _, _, rfl, _⟩ := h; rfl) | (obtain ⟨_, _, _, _, _, _, _, _, _, _, _, _, rfl, _⟩ := h; rfl) | (obtain ⟨_, _, _, _, _, _, _, _, _, _, _, _, _, rfl, _⟩ := h; rfl) | (obtain ⟨_, _, _, _, _, _, _, _, _, _, _, _, _, _, rfl, _⟩ := h; rfl) | (obtain ⟨_, _, _, _, _, _, _, _, _, _, _, _, _, _, _, rfl, _⟩ := h; rfl) | (obtain ⟨_, _, _, _, _, _, _, _, _, _, _, _, _, _, _, _, rfl, _⟩ := h; rfl)) (fun cdv A outer s H vs Q E hr h => ?_), hm, hb⟩, T.l_Ladder⟩
  obtain ⟨l, L, n, fs, ret, rfl, ⟨dx, fl, lt, hl, wl, ps, h1, h2, h3, h4, h5, h6, h7⟩, k⟩ := h
  unfold IL at h2
  have l_Ladder := T.l_Ladder
  have n_Ladder_falls_list := T.n_Ladder_falls_list
  refine ⟨_, (pss_one (ps_ret (pe_callB call_uLen (by rfl) T.b_len bt_len (pa_cons (pe_fld (pv 0) rfl) pa_nil)))), ?_⟩
  try dsimp only [cxOf, Cx.nox, Cx.wish]
  show (_ : TS) _ [some _] _
  o_readsAll
  rw [rng_len]
  exact k
theorem d_Ladder_returns (T : Txt K w mg Z) : Mth P w K mg base 1 Z.a_Ladder "returns" ["self"] (sp_lnum Z.a_Ladder fun _ _ ret => .bl ret) := by
  obtain ⟨f, fd, F, hm, hb⟩ := T.f_Ladder_returns
  refine ⟨⟨f, fd, F.ok sc_Ladder_returns (fun vs H Q E h => by first | (obtain ⟨rfl, _⟩ := h; rfl) | (obtain ⟨_, rfl, _⟩ := h; rfl) | (obtain ⟨_, _, rfl, _⟩ := h; rfl) | (obtain ⟨_, _, _, rfl, _⟩ := h; rfl) | (obtain ⟨_, _, _, _, rfl, _⟩ := h; rfl) | (obtain ⟨_, _, _, _, _, rfl, _⟩ := h; rfl) | (obtain ⟨_, _, _, _, _, _, rfl, _⟩ := h; rfl) | (obtain ⟨_, _, _, _, _, _, _, rfl, _⟩ := h; rfl) | (obtain ⟨_, _, _, _, _, _, _, _, rfl, _⟩ := h; rfl) | (obtain ⟨_, _, _, _, _, _, _, _, _, rfl, _⟩ := h; rfl) | (obtain ⟨_, _, _, _, _, _, _, _, _, _, rfl, _⟩ := h; rfl) | (obtain ⟨_, _, _, _, _, _, _, _, _, _, _, rfl, _⟩ := h; rfl) | (obtain ⟨_, _, _, _, _, _, _, _, _, _, _, _, rfl, _⟩ := h; rfl) | (obtain ⟨_, _, _, _, _, _, _, _, _, _, _, _, _, rfl, _⟩ := h; rfl) | (obtain ⟨_, _, _, _, _, _, _, _, _, _, _, _, _, _, rfl, _⟩ := h; rfl) | (obtain ⟨_, _, _, _, _, _, _, _, _, _, _, _, _, _, _, rfl, _⟩ := h; rfl) | (obtain ⟨_, _, _, _, _, _, _, _, _, _, _, _, _, _, _, _, rfl, _⟩ := h; rfl)) (fun cdv A outer s H vs Q E hr h => ?_), hm, hb⟩, T.l_Ladder⟩
  obtain ⟨l, L, n, fs, ret, rfl, ⟨dx, fl, lt, hl, wl, ps, h1, h2, h3, h4, h5, h6, h7⟩, k⟩ := h
  have l_Ladder := T.l_Ladder
  have n_Ladder_returns_kept := T.n_Ladder_returns_kept
  refine ⟨_, (pss_one (ps_ret (pe_fld (pv 0) rfl))), ?_⟩
  try dsimp only [cxOf, Cx.nox, Cx.wish]
  show (_ : TS) _ [some _] _
  o_readsAll
/-- told weights are new lists -/
structure WFr (H : Hp) (lp hp wp : Addr) (ps : List Addr) : Prop where
  l : H lp = none
  h : H hp = none
  w : H wp = none
  p : ∀ q ∈ ps, H q = none ∧ q ≠ lp ∧ q ≠ hp ∧ q ≠ wp
  lh : lp ≠ hp
  lw : lp ≠ wp
  hw : hp ≠ wp
def sp_weights (C : Addr) : Sp := fun vs H Q _ => ∃ (l : Addr) (L : Int) (n : Nat) (fs : Nat → Int) (ret : Bool), vs = [.ref l] ∧ LadAt C H l L n fs ret ∧ n ≤ 40 ∧ ∀ H' p lp hp wp ps, Same H H' → H' p = some (.tup [.ref lp, .ref hp, .ref wp]) → H' lp = some (.lst (ps.map V.ref)) → ps.length = n → RowsAt H' ps n L fs → IL H' hp (n + 1) (hd L fs) → IL H' wp (n + 1) (wd L fs) → WFr H lp hp wp ps → Q (.ref p) H'
theorem d_Ladder_weights (T : Txt K w mg Z) : Mth P w K mg base 1 Z.a_Ladder "weights" ["self"] (sp_weights Z.a_Ladder) := by
  obtain ⟨f, fd, F, hm, hb⟩ := T.f_Ladder_weights
  refine ⟨⟨f, fd, F.ok sc_Ladder_weights (fun vs H Q E h => by first | (obtain ⟨rfl, _⟩ := h; rfl) | (obtain ⟨_, rfl, _⟩ := h; rfl) | (obtain ⟨_, _, rfl, _⟩ := h; rfl) | (obtain ⟨_, _, _, rfl, _⟩ := h; rfl) | (obtain ⟨_, _, _, _, rfl, _⟩ := h; rfl) | (obtain ⟨_, _, _, _, _, rfl, _⟩ := h; rfl) | (obtain ⟨_, _, _, _, _, _, rfl, _⟩ := h; rfl) | (obtain ⟨_, _, _, _, _, _, _, rfl, _⟩ := h; rfl) | (obtain ⟨_, _, _, _, _, _, _, _, rfl, _⟩ := h; rfl) | (obtain ⟨_, _, _, _, _, _, _, _, _, rfl, _⟩ := h; rfl) | (obtain ⟨_, _, _, _, _, _, _, _, _, _, rfl, _⟩ := h; rfl) | (obtain ⟨_, _, _, _, _, _, _, _, _, _, _, rfl, _⟩ := h; rfl) | (obtain ⟨_, _, _, _, _, _, _, _, _, _, _, _, rfl, _⟩ := h; rfl) | (obtain ⟨_, _, _, _, _, _, _, _, _, _, _, _, _, rfl, _⟩ := h; rfl) | (obtain ⟨_, _, _, _, _, _, _, _, _, _, _, _, _, _, rfl, _⟩ := h; rfl) | (obtain ⟨_, _, _, _, _, _, _, _, _, _, _, _, _, _, _, rfl, _⟩ := h; rfl) | (obtain ⟨_, _, _, _, _, _, _, _, _, _, _, _, _, _, _, _, rfl, _⟩ := h; rfl)) (fun cdv A outer s H vs Q E hr h => ?_), hm, hb⟩, T.l_Ladder⟩
  obtain ⟨l, L, n, fs, ret, rfl, ⟨dx, fl, lt, hl, wl, ps, h1, h2, h3, h4, h5, h6, h7⟩, hn, k⟩ := h
  unfold IL at h6 h7
  have l_Ladder := T.l_Ladder
  have n_Ladder_loads_table := T.n_Ladder_loads_table
  have n_Ladder_heads_list := T.n_Ladder_heads_list
  have n_Ladder_worths_list := T.n_Ladder_worths_list
  refine ⟨_, (pss_one (ps_ret (pe_tup (pa_cons (pe_lc (own := [("row", 1)]) (by rfl) sc_Ladder_weights.nd (pi_list (pe_fld (pv 0) rfl)) (blkOk_by (N := n_Ladder_weights) (sc := defScope st_Ladder_weights) (by decide +kernel)) (fun _ _ _ _ _ => (pg_name (i := 1) sc_Ladder_weights.nd rfl (.inl rfl))) (fun _ _ _ _ _ => pts_nil) (fun _ _ _ _ _ => (pe_callTy (call_uListK (K := K) rfl) (by rfl) T.b_list bt_list (pa_cons (pv 1) pa_nil)))) (pa_cons (pe_callTy call_uList (by rfl) T.b_list bt_list (pa_cons (pe_fld (pv 0) rfl) pa_nil)) (pa_cons (pe_callTy call_uList (by rfl) T.b_list bt_list (pa_cons (pe_fld (pv 0) rfl) pa_nil)) pa_nil)))))), ?_⟩
  try dsimp only [cxOf, Cx.nox, Cx.wish]
  show (_ : TS) _ [some _, none] _
  o_readsAll
  refine l_it (walk_list (xs := ps.map V.ref)) (fun D i acc H' => ∃ qs : List Addr, acc = qs.map V.ref ∧ qs.length = i ∧ Same H H' ∧ RowsAt H' qs n L fs ∧ ∀ q ∈ qs, H q = none ∧ q ≠ D) (fun D hD => ⟨[], rfl, rfl, Eg.Same.put (Same.refl _) hD, (fun _ _ h => nomatch h), fun _ h => nomatch h⟩) (fun D i acc H' hD _ _ p => ?_) (fun D i x acc H2 H3 hD hi e l p y => ?_) (fun D acc H' hD e l p => ?_)
  · obtain ⟨qs, rfl, hql, e2, hR, hF⟩ := p
    exact .of (e2 _ _ h3)
  · obtain ⟨qs, rfl, hql, e2, hR, hF⟩ := p
    obtain ⟨y1, y2⟩ := y
    subst y1
    rw [List.length_map] at hi
    rw [List.getElem?_map, List.getElem?_eq_getElem hi] at y2
    cases y2
    have hrow := (h5 i _ (List.getElem?_eq_getElem hi)).same e2
    unfold IL at hrow
    refine ⟨rfl, ?_⟩
    o_readsAll
    rename_i r H5 hr5 e5 h5'
    exact g_item (e5 _ _ e) l (by rw [sizeLine_eq]; omega) ⟨qs ++ [r], by rw [List.map_append]; rfl, by rw [List.length_append, hql]; rfl, Eg.Same.put (e2.trans e5) hD, RowsAt.snoc (hR.same e5) (by rw [hql]; exact h5') (e5 _ _ e), fun q hq => by
      rcases List.mem_append.mp hq with z | z
      · exact hF q z
      · rw [List.mem_singleton.mp z]; exact ⟨e2.free hr5, (ne_of_none e hr5).symm⟩⟩
  · obtain ⟨qs, rfl, hql, e2, hR, hF⟩ := p
    have k6 := e2 _ _ h6
    have k7 := e2 _ _ h7
    have k1 := e2 _ _ h1
    rw [List.length_map] at hql
    o_readsAll
    rename_i hp H3 fhp e3 hh3 wp H4 fwp e4 hh4 p H5 fp e5 hh5
    refine k H5 p D hp wp qs ((((e2.trans e3).trans e4).trans e5)) hh5 (e5 _ _ (e4 _ _ (e3 _ _ e))) (by omega) (((hR.same e3).same e4).same e5) ?_ ?_ ⟨hD, e2.free fhp, e2.free (e3.free fwp), fun q hq => ?_, ne_of_none e fhp, ne_of_none (e3 _ _ e) fwp, ne_of_none hh3 fwp⟩
    · exact e5 _ _ (e4 _ _ hh3)
    · exact e5 _ _ hh4
    · obtain ⟨i, hi, rfl⟩ := List.mem_iff_getElem.mp hq
      have hr := hR i _ (List.getElem?_eq_getElem hi)
      exact ⟨(hF _ hq).1, (hF _ hq).2, ne_of_none hr fhp, ne_of_none (e3 _ _ hr) fwp⟩
end
end L31

namespace L31
open SX Ld
section
variable {P : Program} {w : World} {K : PySem.W.Frag} {mg : Str → Option Value} {base : Heap} {Z : Ad}
def sp_wcount : Sp := fun vs H Q _ => ∃ (c : Addr) (n : Nat) (cs : Nat → Int), vs = [.ref c, .int (n : Int)] ∧ IL H c n cs ∧ n ≤ 40 ∧ (∀ i, i < n → 0 ≤ cs i) ∧ ∀ H', Same H H' → Q .non H'
theorem d_wrong_count (T : Txt K w mg Z) : Dfn P w K mg base 1 "wrong_count" ["counts", "rungs"] (sp_wcount) := by
  obtain ⟨f, fd, F, hm, hb⟩ := T.f_wrong_count
  refine ⟨f, fd, F.ok sc_wrong_count (fun vs H Q E h => by first | (obtain ⟨rfl, _⟩ := h; rfl) | (obtain ⟨_, rfl, _⟩ := h; rfl) | (obtain ⟨_, _, rfl, _⟩ := h; rfl) | (obtain ⟨_, _, _, rfl, _⟩ := h; rfl) | (obtain ⟨_, _, _, _, rfl, _⟩ := h; rfl) | (obtain ⟨_, _, _, _, _, rfl, _⟩ := h; rfl) | (obtain ⟨_, _, _, _, _, _, rfl, _⟩ := h; rfl) | (obtain ⟨_, _, _, _, _, _, _, rfl, _⟩ := h; rfl) | (obtain ⟨_, _, _, _, _, _, _, _, rfl, _⟩ := h; rfl) | (obtain ⟨_, _, _, _, _, _, _, _, _, rfl, _⟩ := h; rfl) | (obtain ⟨_, _, _, _, _, _, _, _, _, _, rfl, _⟩ := h; rfl) | (obtain ⟨_, _, _, _, _, _, _, _, _, _, _, rfl, _⟩ := h; rfl) | (obtain ⟨_, _, _, _, _, _, _, _, _, _, _, _, rfl, _⟩ := h; rfl) | (obtain ⟨_, _, _, _, _, _, _, _, _, _, _, _, _, rfl, _⟩ := h; rfl) | (obtain ⟨_, _, _, _, _, _, _, _, _, _, _, _, _, _, rfl, _⟩ := h; rfl) | (obtain ⟨_, _, _, _, _, _, _, _, _, _, _, _, _, _, _, rfl, _⟩ := h; rfl) | (obtain ⟨_, _, _, _, _, _, _, _, _, _, _, _, _, _, _, _, rfl, _⟩ := h; rfl)) (fun cdv A outer s H vs Q E hr h => ?_), hm, F.kp, hb⟩
  obtain ⟨c, n, cs, rfl, hc, hn, h0, k⟩ := h
  unfold IL at hc
  refine ⟨_, (pss_cons (ps_if (pt_cmpR (op_uNe hr.units) (pe_callB call_uLen (by rfl) T.b_len bt_len (pa_cons (pv 0) pa_nil)) (pv 1) (nomark _)) (pss_one (ps_ret (pe_un un_neg pe_int))) pss_nil)
      (pss_cons (ps_for PassesOwn.never rfl (pi_enum (by rfl) T.b_enumerate (pa_cons (pv 0) pa_nil)) (pg_tup (by rfl) (pgs_cons (pg_name (i := 2) sc_wrong_count.nd rfl (.inl rfl)) (pgs_cons (pg_name (i := 3) sc_wrong_count.nd rfl (.inl rfl)) pgs_nil)))
        (pss_one (ps_if (pt_cmpR op_lt (pv 3) pe_int (nomark _)) (pss_one (ps_ret (pv 2))) pss_nil)))
      (pss_one (ps_ret pe_non)))), ?_⟩
  try dsimp only [cxOf, Cx.nox, Cx.wish]
  show (_ : TS) _ [some _, some _, none, none] _
  o_readsAll
  rw [rng_len]
  refine brn (fun h => absurd rfl h) (fun _ => ?_)
  o_readsAll
  refine f_enum (xs := rng n cs) (fun i σ' H' => ∃ a b, σ' = [some (.ref c), some (.int (n : Int)), a, b] ∧ Same H H') ⟨_, _, rfl, Same.refl _⟩ ?_ ?_ ?_
  · rintro i σ' H2 hi ⟨a, b, rfl, e2⟩
    exact .of (e2 _ _ hc)
  · rintro i y σ' H2 T1 H3 hy ⟨a, b, rfl, e2⟩ hT e3 h3
    have hi : i < n := by have := (List.getElem?_eq_some_iff.mp hy).1; rw [rng_len] at this; exact this
    rw [rng_at hi] at hy
    cases hy
    have := h0 i hi
    o_readsAll
    refine brF (decide_eq_false (by omega)) ?_
    o_readsAll
    exact ⟨_, _, rfl, e2.trans e3⟩
  · rintro σ' H2 ⟨a, b, rfl, e2⟩
    o_readsAll
    exact k _ e2
theorem c_wcount {c : Addr} {n : Nat} {cs : Nat → Int} {H : Hp} {Q : VK} {E : XK} (hc : IL H c n cs) (hn : n ≤ 40) (h0 : ∀ i, i < n → 0 ≤ cs i) (k : ∀ H', Same H H' → Q .non H') : sp_wcount [.ref c, .int (n : Int)] H Q E := ⟨c, n, cs, rfl, hc, hn, h0, k⟩
theorem c_lnum {C l : Addr} {L : Int} {n : Nat} {fs : Nat → Int} {ret : Bool} {f : Int → Nat → Bool → V} {H : Hp} {Q : VK} {E : XK} (h : LadAt C H l L n fs ret) (k : Q (f L n ret) H) : sp_lnum C f [.ref l] H Q E := ⟨l, L, n, fs, ret, rfl, h, k⟩
theorem c_dcr {C d : Addr} {c dr hu st : Int} {f : Int → Int → Int → Int → Int} {H : Hp} {Q : VK} {E : XK} (h : DemAt C H d c dr hu st) (k : Q (.int (f c dr hu st)) H) : sp_dcr C f [.ref d] H Q E := ⟨d, c, dr, hu, st, rfl, h, k⟩
theorem c_weights {C l : Addr} {L : Int} {n : Nat} {fs : Nat → Int} {ret : Bool} {H : Hp} {Q : VK} {E : XK} (h : LadAt C H l L n fs ret) (hn : n ≤ 40) (k : ∀ H' p lp hp wp ps, Same H H' → H' p = some (.tup [.ref lp, .ref hp, .ref wp]) → H' lp = some (.lst (ps.map V.ref)) → ps.length = n → RowsAt H' ps n L fs → IL H' hp (n + 1) (hd L fs) → IL H' wp (n + 1) (wd L fs) → Q (.ref p) H') : sp_weights C [.ref l] H Q E := ⟨l, L, n, fs, ret, rfl, h, hn, fun H' p lp hp wp ps a b c d e f g _ => k H' p lp hp wp ps a b c d e f g⟩
theorem c_weightsF {C l : Addr} {L : Int} {n : Nat} {fs : Nat → Int} {ret : Bool} {H : Hp} {Q : VK} {E : XK} (h : LadAt C H l L n fs ret) (hn : n ≤ 40) (k : ∀ H' p lp hp wp ps, Same H H' → H' p = some (.tup [.ref lp, .ref hp, .ref wp]) → H' lp = some (.lst (ps.map V.ref)) → ps.length = n → RowsAt H' ps n L fs → IL H' hp (n + 1) (hd L fs) → IL H' wp (n + 1) (wd L fs) → WFr H lp hp wp ps → Q (.ref p) H') : sp_weights C [.ref l] H Q E := ⟨l, L, n, fs, ret, rfl, h, hn, k⟩
def TabAt (C CL : Addr) (H : Hp) (t : Addr) (L : Int) (n : Nat) (fs : Nat → Int) (ret : Bool) (cs : Nat → Int) : Prop := ∃ dx l cl, H t = some (.ins C dx [("ladder_kept", .ref l), ("counts_list", .ref cl)]) ∧ IL H cl n cs ∧ LadAt CL H l L n fs ret
theorem TabAt.same {C CL : Addr} {H H' : Hp} {t : Addr} {L : Int} {n : Nat} {fs : Nat → Int} {ret : Bool} {cs : Nat → Int} (h : TabAt C CL H t L n fs ret cs) (e : Same H H') : TabAt C CL H' t L n fs ret cs := by
  obtain ⟨dx, l, cl, a, b, c⟩ := h
  exact ⟨dx, l, cl, e _ _ a, b.same e, c.same e⟩
def sp_tinit (C CL : Addr) : Sp := fun vs H Q _ => ∃ (x dx l c : Addr) (L : Int) (n : Nat) (fs : Nat → Int) (ret : Bool) (cs : Nat → Int), vs = [.ref x, .ref l, .ref c] ∧ H x = some (.ins C dx []) ∧ LadAt CL H l L n fs ret ∧ IL H c n cs ∧ n ≤ 40 ∧ (∀ i, i < n → 0 ≤ cs i) ∧ x ≠ l ∧ x ≠ c ∧ ∀ H' cl, H cl = none → Off x H H' → H' x = some (.ins C dx [("ladder_kept", .ref l), ("counts_list", .ref cl)]) → IL H' cl n cs → Q .non H'
theorem d_Table_init (T : Txt K w mg Z) : Ini P w K mg base 3 "Table" Z.a_Table ["self", "ladder", "counts"] (sp_tinit Z.a_Table Z.a_Ladder) := by
  obtain ⟨f, fd, F, hM, hm, hb⟩ := T.f_Table_init
  refine ⟨f, fd, F.ok sc_Table_init (fun vs H Q E h => by first | (obtain ⟨rfl, _⟩ := h; rfl) | (obtain ⟨_, rfl, _⟩ := h; rfl) | (obtain ⟨_, _, rfl, _⟩ := h; rfl) | (obtain ⟨_, _, _, rfl, _⟩ := h; rfl) | (obtain ⟨_, _, _, _, rfl, _⟩ := h; rfl) | (obtain ⟨_, _, _, _, _, rfl, _⟩ := h; rfl) | (obtain ⟨_, _, _, _, _, _, rfl, _⟩ := h; rfl) | (obtain ⟨_, _, _, _, _, _, _, rfl, _⟩ := h; rfl) | (obtain ⟨_, _, _, _, _, _, _, _, rfl, _⟩ := h; rfl) | (obtain ⟨_, _, _, _, _, _, _, _, _, rfl, _⟩ := h; rfl) | (obtain ⟨_, _, _, _, _, _, _, _, _, _, rfl, _⟩ := h; rfl) | (obtain ⟨_, _, _, _, _, _, _, _, _, _, _, rfl, _⟩ := h; rfl) | (obtain ⟨_, _, _, _, _, _, _, _, _, _, _, _, rfl, _⟩ := h; rfl) | (obtain ⟨_, _, _, _, _, _, _, _, _, _, _, _, _, rfl, _⟩ := h; rfl) | (obtain ⟨_, _, _, _, _, _, _, _, _, _, _, _, _, _, rfl, _⟩ := h; rfl) | (obtain ⟨_, _, _, _, _, _, _, _, _, _, _, _, _, _, _, rfl, _⟩ := h; rfl) | (obtain ⟨_, _, _, _, _, _, _, _, _, _, _, _, _, _, _, _, rfl, _⟩ := h; rfl)) (fun cdv A outer s H vs Q E hr h => ?_), hM, hm, hb⟩
  obtain ⟨x, dx, l, c, L, n, fs, ret, cs, rfl, hx, hl, hc, hn, h0, nl, nc, k⟩ := h
  have hl' := hl
  obtain ⟨ldx, fl, lt, hh, wl, ps, a1, a2, a3, a4, a5, a6, a7⟩ := hl'
  have D_wrong_count := d_wrong_count (P := P) (base := base) T
  have D_Ladder_rungs := d_Ladder_rungs (P := P) (base := base) T
  have l_Table := T.l_Table
  have n_Table_ladder_kept := T.n_Table_ladder_kept
  have n_Table_counts_list := T.n_Table_counts_list
  refine ⟨_, (pss_cons (ps_set (i := 3) sc_Table_init.nd rfl (.inl rfl) (pe_dfn D_wrong_count (hr.mono (by decide)) (by rfl) (pa_cons (pv 2) (pa_cons (pe_mth0 D_Ladder_rungs (hr.mono (by decide)) (pv 1)) pa_nil))))
      (pss_cons (ps_if (pt_cmpR op_uNotN (pv 3) pe_non (nomark _)) (pss_one ps_never) pss_nil)
      (pss_cons (ps_fld (pv 0) (pv 1) rfl)
      (pss_one (ps_fld (pv 0) (pe_callTy call_uList (by rfl) T.b_list bt_list (pa_cons (pv 2) pa_nil)) rfl))))), ?_⟩
  try dsimp only [cxOf, Cx.nox, Cx.wish]
  show (_ : TS) _ [some _, some _, some _, none] _
  o_readsAll
  refine c_lnum hl ?_
  o_readsAll
  refine c_wcount hc hn h0 fun H1 e1 => ?_
  have hx1 := e1 _ _ hx
  have hc1 : H1 c = some (.lst (rng n cs)) := hc.same e1
  o_readsAll
  rename_i cl H2 fcl e2 h2
  have ncl : x ≠ cl := ne_of_none upd_same fcl
  have fcl0 : H cl = none := e1.free ((by rw [upd_ne ncl.symm] at fcl; exact fcl))
  refine k _ cl fcl0 ((((off_of e1).upd).same e2).upd) upd_same ?_
  unfold IL
  o_shape
theorem c_tmakeF {C CL l c : Addr} {L : Int} {n : Nat} {fs : Nat → Int} {ret : Bool} {cs : Nat → Int} {H : Hp} {Q : VK} {E : XK} (hl : LadAt CL H l L n fs ret) (hc : IL H c n cs) (hn : n ≤ 40) (h0 : ∀ i, i < n → 0 ≤ cs i) (k : ∀ t H', H t = none → Same H H' → TabAt C CL H' t L n fs ret cs → (∃ dx cl, H cl = none ∧ H' t = some (.ins C dx [("ladder_kept", .ref l), ("counts_list", .ref cl)]) ∧ IL H' cl n cs) → Q (.ref t) H') : gMake C (sp_tinit C CL) E [.ref l, .ref c] H Q := by
  intro x dx hx hdx hne
  have e0 : Same H (upd (upd H dx (.own x)) x (.ins C dx [])) := fun b u q => by rw [upd_ne (ne_of_none q hx), upd_ne (ne_of_none q hdx)]; exact q
  have n1 : x ≠ c := (ne_of_none hc hx).symm
  have n2 : x ≠ l := by
    obtain ⟨_, _, _, _, _, _, a, _⟩ := hl
    exact (ne_of_none a hx).symm
  refine ⟨x, dx, l, c, L, n, fs, ret, cs, rfl, upd_same, hl.same e0, hc.same e0, hn, h0, n2, n1, fun H' cl fcl o h1 h2 => ⟨rfl, ?_⟩⟩
  have e1 : Same H H' := fun b u q => o b u (ne_of_none q hx) (e0 b u q)
  exact k x H' hx e1 ⟨dx, l, cl, h1, h2, hl.same e1⟩ ⟨dx, cl, e0.free fcl, h1, h2⟩
theorem c_tmake {C CL l c : Addr} {L : Int} {n : Nat} {fs : Nat → Int} {ret : Bool} {cs : Nat → Int} {H : Hp} {Q : VK} {E : XK} (hl : LadAt CL H l L n fs ret) (hc : IL H c n cs) (hn : n ≤ 40) (h0 : ∀ i, i < n → 0 ≤ cs i) (k : ∀ t H', H t = none → Same H H' → TabAt C CL H' t L n fs ret cs → Q (.ref t) H') : gMake C (sp_tinit C CL) E [.ref l, .ref c] H Q := c_tmakeF hl hc hn h0 fun t H' a b c _ => k t H' a b c
def sp_tlad (C CL : Addr) : Sp := fun vs H Q _ => ∃ (t : Addr) (L : Int) (n : Nat) (fs : Nat → Int) (ret : Bool) (cs : Nat → Int), vs = [.ref t] ∧ TabAt C CL H t L n fs ret cs ∧ ∀ l, LadAt CL H l L n fs ret → Q (.ref l) H
theorem d_Table_ladder (T : Txt K w mg Z) : Mth P w K mg base 1 Z.a_Table "ladder" ["self"] (sp_tlad Z.a_Table Z.a_Ladder) := by
  obtain ⟨f, fd, F, hm, hb⟩ := T.f_Table_ladder
  refine ⟨⟨f, fd, F.ok sc_Table_ladder (fun vs H Q E h => by first | (obtain ⟨rfl, _⟩ := h; rfl) | (obtain ⟨_, rfl, _⟩ := h; rfl) | (obtain ⟨_, _, rfl, _⟩ := h; rfl) | (obtain ⟨_, _, _, rfl, _⟩ := h; rfl) | (obtain ⟨_, _, _, _, rfl, _⟩ := h; rfl) | (obtain ⟨_, _, _, _, _, rfl, _⟩ := h; rfl) | (obtain ⟨_, _, _, _, _, _, rfl, _⟩ := h; rfl) | (obtain ⟨_, _, _, _, _, _, _, rfl, _⟩ := h; rfl) | (obtain ⟨_, _, _, _, _, _, _, _, rfl, _⟩ := h; rfl) | (obtain ⟨_, _, _, _, _, _, _, _, _, rfl, _⟩ := h; rfl) | (obtain ⟨_, _, _, _, _, _, _, _, _, _, rfl, _⟩ := h; rfl) | (obtain ⟨_, _, _, _, _, _, _, _, _, _, _, rfl, _⟩ := h; rfl) | (obtain ⟨_, _, _, _, _, _, _, _, _, _, _, _, rfl, _⟩ := h; rfl) | (obtain ⟨_, _, _, _, _, _, _, _, _, _, _, _, _, rfl, _⟩ := h; rfl) | (obtain ⟨_, _, _, _, _, _, _, _, _, _, _, _, _, _, rfl, _⟩ := h; rfl) | (obtain ⟨_, _, _, _, _, _, _, _, _, _, _, _, _, _, _, rfl, _⟩ := h; rfl) | (obtain ⟨_, _, _, _, _, _, _, _, _, _, _, _, _, _, _, _, rfl, _⟩ := h; rfl)) (fun cdv A outer s H vs Q E hr h => ?_), hm, hb⟩, T.l_Table⟩
  obtain ⟨t, L, n, fs, ret, cs, rfl, ⟨dx, l, cl, h1, h2, h3⟩, k⟩ := h
  have l_Table := T.l_Table
  have n_Table_ladder_kept := T.n_Table_ladder_kept
  refine ⟨_, (pss_one (ps_ret (pe_fld (pv 0) rfl))), ?_⟩
  try dsimp only [cxOf, Cx.nox, Cx.wish]
  show (_ : TS) _ [some _] _
  o_readsAll
  exact k l h3
def sp_tcnt (C CL : Addr) : Sp := fun vs H Q _ => ∃ (t : Addr) (L : Int) (n : Nat) (fs : Nat → Int) (ret : Bool) (cs : Nat → Int), vs = [.ref t] ∧ TabAt C CL H t L n fs ret cs ∧ ∀ p H', H p = none → Same H H' → IL H' p n cs → Q (.ref p) H'
theorem d_Table_counts (T : Txt K w mg Z) : Mth P w K mg base 1 Z.a_Table "counts" ["self"] (sp_tcnt Z.a_Table Z.a_Ladder) := by
  obtain ⟨f, fd, F, hm, hb⟩ := T.f_Table_counts
  refine ⟨⟨f, fd, F.ok sc_Table_counts (fun vs H Q E h => by first | (obtain ⟨rfl, _⟩ := h; rfl) | (obtain ⟨_, rfl, _⟩ := h; rfl) | (obtain ⟨_, _, rfl, _⟩ := h; rfl) | (obtain ⟨_, _, _, rfl, _⟩ := h; rfl) | (obtain ⟨_, _, _, _, rfl, _⟩ := h; rfl) | (obtain ⟨_, _, _, _, _, rfl, _⟩ := h; rfl) | (obtain ⟨_, _, _, _, _, _, rfl, _⟩ := h; rfl) | (obtain ⟨_, _, _, _, _, _, _, rfl, _⟩ := h; rfl) | (obtain ⟨_, _, _, _, _, _, _, _, rfl, _⟩ := h; rfl) | (obtain ⟨_, _, _, _, _, _, _, _, _, rfl, _⟩ := h; rfl) | (obtain ⟨_, _, _, _, _, _, _, _, _, _, rfl, _⟩ := h; rfl) | (obtain ⟨_, _, _, _, _, _, _, _, _, _, _, rfl, _⟩ := h; rfl) | (obtain ⟨_, _, _, _, _, _, _, _, _, _, _, _, rfl, _⟩ := h; rfl) | (obtain ⟨_, _, _, _, _, _, _, _, _, _, _, _, _, rfl, _⟩ := h; rfl) | (obtain ⟨_, _, _, _, _, _, _, _, _, _, _, _, _, _, rfl, _⟩ := h; rfl) | (obtain ⟨_, _, _, _, _, _, _, _, _, _, _, _, _, _, _, rfl, _⟩ := h; rfl) | (obtain ⟨_, _, _, _, _, _, _, _, _, _, _, _, _, _, _, _, rfl, _⟩ := h; rfl)) (fun cdv A outer s H vs Q E hr h => ?_), hm, hb⟩, T.l_Table⟩
  obtain ⟨t, L, n, fs, ret, cs, rfl, ⟨dx, l, cl, h1, h2, h3⟩, k⟩ := h
  unfold IL at h2
  have l_Table := T.l_Table
  have n_Table_counts_list := T.n_Table_counts_list
  refine ⟨_, (pss_one (ps_ret (pe_callTy call_uList (by rfl) T.b_list bt_list (pa_cons (pe_fld (pv 0) rfl) pa_nil)))), ?_⟩
  try dsimp only [cxOf, Cx.nox, Cx.wish]
  show (_ : TS) _ [some _] _
  o_readsAll
  exact k _ _ (by assumption) (by assumption) (by assumption)
theorem c_tlad {C CL t : Addr} {L : Int} {n : Nat} {fs : Nat → Int} {ret : Bool} {cs : Nat → Int} {H : Hp} {Q : VK} {E : XK} (h : TabAt C CL H t L n fs ret cs) (k : ∀ l, LadAt CL H l L n fs ret → Q (.ref l) H) : sp_tlad C CL [.ref t] H Q E := ⟨t, L, n, fs, ret, cs, rfl, h, k⟩
theorem c_tcnt {C CL t : Addr} {L : Int} {n : Nat} {fs : Nat → Int} {ret : Bool} {cs : Nat → Int} {H : Hp} {Q : VK} {E : XK} (h : TabAt C CL H t L n fs ret cs) (k : ∀ p H', H p = none → Same H H' → IL H' p n cs → Q (.ref p) H') : sp_tcnt C CL [.ref t] H Q E := ⟨t, L, n, fs, ret, cs, rfl, h, k⟩
theorem rng_ints (n : Nat) (f : Nat → Int) : rng n f = ((List.range n).map f).map V.int := by unfold rng; rw [List.map_map]; rfl
theorem sum_rng (f : Nat → Int) : ∀ n, ((List.range n).map f).sum = sm f n
  | 0 => rfl
  | n + 1 => by rw [List.range_succ, List.map_append, List.sum_append, sum_rng f n, sm]; simp
theorem g_sumI {p : Addr} {n : Nat} {f : Nat → Int} {H : Hp} {Q : VK} (h : IL H p n f) (k : Q (.int (sm f n)) H) : rSum K [.ref p] H Q := g_sum (ns := (List.range n).map f) (by rw [← rng_ints]; exact h.sq) (by rw [sum_rng]; exact k)
def sp_weighed : Sp := fun vs H Q _ => ∃ (c r : Addr) (n m : Nat) (s v : Nat → Int), vs = [.ref c, .ref r] ∧ IL H c n s ∧ IL H r m v ∧ n ≤ m ∧ m ≤ 41 ∧ (∀ i, i < n → (s i).natAbs < 2 ^ 250 ∧ (v i).natAbs < 2 ^ 250) ∧ ∀ H', Same H H' → Q (.int (sm (fun b => s b * v b) n)) H'
theorem c_weighed {c r : Addr} {n m : Nat} {s v : Nat → Int} {H : Hp} {Q : VK} {E : XK} (hc : IL H c n s) (hr : IL H r m v) (hnm : n ≤ m) (hm : m ≤ 41) (hb : ∀ i, i < n → (s i).natAbs < 2 ^ 250 ∧ (v i).natAbs < 2 ^ 250) (k : ∀ H', Same H H' → Q (.int (sm (fun b => s b * v b) n)) H') : sp_weighed [.ref c, .ref r] H Q E := ⟨c, r, n, m, s, v, rfl, hc, hr, hnm, hm, hb, k⟩
end
end L31

namespace L31
open SX Ld
section
variable {P : Program} {w : World} {K : PySem.W.Frag} {mg : Str → Option Value} {base : Heap} {Z : Ad}
theorem c_draw {a : Addr} {m : Int} {H : Hp} {Q : VK} {E : XK} (h0 : 0 < m) (h1 : m < 2 ^ 200) (hs : Stk H a) (k : ∀ r H', 0 ≤ r → r < m → Stk H' a → Off a H H' → Q (.int r) H') : sp_draw [.ref a, .int m] H Q E := ⟨a, m, rfl, h0, h1, hs, k⟩
theorem c_stock {a : Addr} {ns : List Int} {at_ : Nat} {H : Hp} {Q : VK} {E : XK} (h : SqL K H a (ns.map V.int)) (hn : ns.length ≤ 63) (ha : at_ < 1000000) (k : ∀ p H', H p = none → Same H H' → Stk H' p → Q (.ref p) H') : sp_stock K [.ref a, .int (at_ : Int)] H Q E := ⟨a, ns, at_, rfl, h, hn, ha, k⟩
theorem Stk.same {H H' : Hp} {a : Addr} (h : Stk H a) (e : Same H H') : Stk H' a := by obtain ⟨x, y, z, h⟩ := h; exact ⟨x, y, z, e _ _ h⟩
theorem Stk.ne {H : Hp} {a b : Addr} (h : Stk H a) (hb : H b = none) : a ≠ b := by obtain ⟨x, y, z, h⟩ := h; exact ne_of_none h hb
theorem Stk.put {H : Hp} {a b : Addr} {o : HO} (h : Stk H a) (n : a ≠ b) : Stk (upd H b o) a := by obtain ⟨x, y, z, h⟩ := h; exact ⟨x, y, z, by rw [upd_ne n]; exact h⟩
theorem Off.putN {H H' : Hp} {a b : Addr} {o : HO} (h : Off a H H') (n : H b = none) : Off a H (upd H' b o) := fun c u hc q => by rw [upd_ne (ne_of_none q n)]; exact h c u hc q
theorem Stk.free {H H' : Hp} {a p : Addr} (s : Stk H' a) (o : Off a H H') (h : H' p = none) : H p = none := by obtain ⟨x, y, z, q⟩ := s; exact off_free o q h
/-- falls so far -/
def FalL (l : List Int) : Prop := ∀ (j : Nat) (f : Int), l[j]? = some f → -1 ≤ f ∧ f ≤ j ∧ (0 < j → f ≤ (j : Int) - 1)
theorem FalL.ok {l : List Int} (h : FalL l) : OkF (fn l) := fun i => by
  unfold fn
  rw [List.getD_eq_getElem?_getD]
  cases hi : l[i]? with
  | none => simp; omega
  | some f => exact h i f hi
theorem FalL.snoc {l : List Int} {f : Int} (h : FalL l) (h1 : -1 ≤ f) (h2 : f ≤ l.length) (h3 : 0 < l.length → f ≤ (l.length : Int) - 1) : FalL (l ++ [f]) := fun j g hg => by
  by_cases hj : j < l.length
  · rw [List.getElem?_append_left hj] at hg
    exact h j g hg
  · have hl := (List.getElem?_eq_some_iff.mp hg).1
    rw [List.length_append, List.length_cons, List.length_nil] at hl
    rw [List.getElem?_append_right (by omega), show j - l.length = 0 by omega] at hg
    cases hg
    rw [show j = l.length by omega]
    exact ⟨h1, h2, h3⟩
def sp_falls : Sp := fun vs H Q _ => ∃ (st : Addr) (n : Nat), vs = [.ref st, .int (n : Int)] ∧ n ≤ 41 ∧ Stk H st ∧ ∀ p (l : List Int) H', H p = none → Stk H' st → Off st H H' → H' p = some (.lst (l.map V.int)) → l.length = n → FalL l → Q (.ref p) H'
theorem d_law_e_falls (T : Txt K w mg Z) : Dfn P w K mg base 2 "_law_e_falls" ["stock", "rungs"] (sp_falls) := by
  obtain ⟨f, fd, F, hm, hb⟩ := T.f_law_e_falls
  refine ⟨f, fd, F.ok sc_law_e_falls (fun vs H Q E h => by first | (obtain ⟨rfl, _⟩ := h; rfl) | (obtain ⟨_, rfl, _⟩ := h; rfl) | (obtain ⟨_, _, rfl, _⟩ := h; rfl) | (obtain ⟨_, _, _, rfl, _⟩ := h; rfl) | (obtain ⟨_, _, _, _, rfl, _⟩ := h; rfl) | (obtain ⟨_, _, _, _, _, rfl, _⟩ := h; rfl) | (obtain ⟨_, _, _, _, _, _, rfl, _⟩ := h; rfl) | (obtain ⟨_, _, _, _, _, _, _, rfl, _⟩ := h; rfl) | (obtain ⟨_, _, _, _, _, _, _, _, rfl, _⟩ := h; rfl) | (obtain ⟨_, _, _, _, _, _, _, _, _, rfl, _⟩ := h; rfl) | (obtain ⟨_, _, _, _, _, _, _, _, _, _, rfl, _⟩ := h; rfl) | (obtain ⟨_, _, _, _, _, _, _, _, _, _, _, rfl, _⟩ := h; rfl) | (obtain ⟨_, _, _, _, _, _, _, _, _, _, _, _, rfl, _⟩ := h; rfl) | (obtain ⟨_, _, _, _, _, _, _, _, _, _, _, _, _, rfl, _⟩ := h; rfl) | (obtain ⟨_, _, _, _, _, _, _, _, _, _, _, _, _, _, rfl, _⟩ := h; rfl) | (obtain ⟨_, _, _, _, _, _, _, _, _, _, _, _, _, _, _, rfl, _⟩ := h; rfl) | (obtain ⟨_, _, _, _, _, _, _, _, _, _, _, _, _, _, _, _, rfl, _⟩ := h; rfl)) (fun cdv A outer s H vs Q E hr h => ?_), hm, F.kp, hb⟩
  obtain ⟨st, n, rfl, n40, hs, k⟩ := h
  have D_law_draw := d_law_draw (P := P) (base := base) T
  refine ⟨_, (pss_cons (ps_set (i := 2) sc_law_e_falls.nd rfl (.inl rfl) (pe_dfn D_law_draw (hr.mono (by decide)) (by rfl) (pa_cons (pv 0) (pa_cons pe_int pa_nil))))
      (pss_cons (ps_set (i := 3) sc_law_e_falls.nd rfl (.inl rfl) (pe_lst pa_nil))
      (pss_cons (ps_for PassesOwn.never rfl (pi_range1 (by rfl) T.b_range (pa_cons (pv 1) pa_nil)) (pg_name (i := 4) sc_law_e_falls.nd rfl (.inl rfl))
        (pss_one (ps_if (pt_cmpR (op_uEq hr.units) (pv 2) pe_int (nomark _)) (pss_one (ps_expr (pe_bm PySem.F.plainAttrs_list PySem.F.slot_list_append PySem.F.type_list_append mt_append (pv 3) (pa_cons pe_int pa_nil)))) (pss_one (ps_if (pt_cmpR (op_uEq hr.units) (pv 2) pe_int (nomark _)) (pss_one (ps_expr (pe_bm PySem.F.plainAttrs_list PySem.F.slot_list_append PySem.F.type_list_append mt_append (pv 3) (pa_cons (pe_callB (call_uMax2 rfl) (by rfl) T.b_max bt_max (pa_cons pe_int (pa_cons (pe_op op_sub (pv 4) pe_int) pa_nil))) pa_nil)))) (pss_one (ps_if (pt_cmpR (op_uEq hr.units) (pv 2) pe_int (nomark _)) (pss_one (ps_expr (pe_bm PySem.F.plainAttrs_list PySem.F.slot_list_append PySem.F.type_list_append mt_append (pv 3) (pa_cons (pe_un un_neg pe_int) pa_nil)))) (pss_one (ps_if (pt_cmpR op_lt (pv 2) pe_int (nomark _)) (pss_one (ps_expr (pe_bm PySem.F.plainAttrs_list PySem.F.slot_list_append PySem.F.type_list_append mt_append (pv 3) (pa_cons (pe_ifExp (pt_cmpR op_gt (pv 4) pe_int (nomark _)) (pe_dfn D_law_draw (hr.mono (by decide)) (by rfl) (pa_cons (pv 0) (pa_cons (pv 4) pa_nil))) pe_int) pa_nil)))) (pss_one (ps_expr (pe_bm PySem.F.plainAttrs_list PySem.F.slot_list_append PySem.F.type_list_append mt_append (pv 3) (pa_cons (pe_ifExp (pt_cmpR op_gt (pv 4) pe_int (nomark _)) (pe_op op_sub (pe_dfn D_law_draw (hr.mono (by decide)) (by rfl) (pa_cons (pv 0) (pa_cons (pe_op op_uAdd (pv 4) pe_int) pa_nil))) pe_int) (pe_op op_sub pe_int (pe_dfn D_law_draw (hr.mono (by decide)) (by rfl) (pa_cons (pv 0) (pa_cons pe_int pa_nil))))) pa_nil)))))))))))))
      (pss_one (ps_ret (pv 3)))))), ?_⟩
  try dsimp only [cxOf, Cx.nox, Cx.wish]
  show (_ : TS) _ [some _, some _, none, none, none] _
  o_readsAll
  refine c_draw (by decide) (by decide) hs fun kd H1 kd0 kd1 s1 o1 => ?_
  o_readsAll
  rename_i fl H2 ffl e2 h2 N hN
  rw [Int.toNat_natCast]
  have ffl0 : H fl = none := s1.free o1 ffl
  have n1 : st ≠ fl := s1.ne ffl
  refine f_rng (fun i σ' H' => ∃ (x : Option V) (l : List Int), σ' = [some (.ref st), some (.int (n : Int)), some (.int kd), some (.ref fl), x] ∧ Stk H' st ∧ Off st H H' ∧ H' fl = some (.lst (l.map V.int)) ∧ l.length = i ∧ FalL l) ⟨_, [], rfl, s1.same e2, o1.same e2, h2, rfl, fun _ _ h => nomatch h⟩ ?_ ?_
  · rintro i σ' H3 hi ⟨x, l, rfl, s3, o3, h3, hl, hF⟩
    rw [Int.zero_add]
    have hsz : (l.map V.int).length < sizeLine := by rw [List.length_map, sizeLine_eq]; omega
    have fin : ∀ (f : Int) (H4 : Hp), Stk H4 st → Off st H H4 → -1 ≤ f → f ≤ i → (0 < i → f ≤ (i : Int) - 1) → ∃ (x' : Option V) (l' : List Int), [some (V.ref st), some (.int (n : Int)), some (.int kd), some (.ref fl), some (.int (i : Int))] = [some (.ref st), some (.int (n : Int)), some (.int kd), some (.ref fl), x'] ∧ Stk (upd H4 fl (.lst (l.map V.int ++ [.int f]))) st ∧ Off st H (upd H4 fl (.lst (l.map V.int ++ [.int f]))) ∧ (upd H4 fl (.lst (l.map V.int ++ [.int f]))) fl = some (.lst (l'.map V.int)) ∧ l'.length = i + 1 ∧ FalL l' := fun f H4 s4 o4 f1 f2 f3 =>
      ⟨_, l ++ [f], rfl, s4.put n1, Off.putN o4 ffl0, by rw [upd_same, List.map_append]; rfl, by rw [List.length_append, hl]; rfl, hF.snoc f1 (by omega) (by omega)⟩
    have hd : ∀ {H4 : Hp}, Off st H3 H4 → H4 fl = some (.lst (l.map V.int)) := fun o => o _ _ n1.symm h3
    o_readsAll
    refine br (fun h => ?_) (fun h => ?_)
    · o_readsAll
      exact fin _ _ s3 o3 (by decide) (by omega) (by omega)
    · o_readsAll
      refine br (fun h => ?_) (fun h => ?_)
      · o_readsAll
        exact fin _ _ s3 o3 (by split <;> omega) (by split <;> omega) (by split <;> omega)
      · o_readsAll
        refine br (fun h => ?_) (fun h => ?_)
        · o_readsAll
          exact fin _ _ s3 o3 (by decide) (by omega) (by omega)
        · o_readsAll
          refine br (fun h => ?_) (fun h => ?_)
          · o_readsAll
            refine br (fun h => ?_) (fun h => ?_)
            · o_readsAll
              refine c_draw (by omega) (by omega) s3 fun r H4 r0 r1 s4 o4 => ?_
              have h4 := hd o4
              o_readsAll
              exact fin _ _ s4 (o3.trans o4) (by omega) (by omega) (by omega)
            · o_readsAll
              exact fin _ _ s3 o3 (by decide) (by omega) (by omega)
          · o_readsAll
            refine br (fun h => ?_) (fun h => ?_)
            · o_readsAll
              refine c_draw (by omega) (by omega) s3 fun r H4 r0 r1 s4 o4 => ?_
              have h4 := hd o4
              o_readsAll
              exact fin _ _ s4 (o3.trans o4) (by omega) (by omega) (by omega)
            · o_readsAll
              refine c_draw (by omega) (by omega) s3 fun r H4 r0 r1 s4 o4 => ?_
              have h4 := hd o4
              o_readsAll
              exact fin _ _ s4 (o3.trans o4) (by omega) (by omega) (by omega)
  · rintro σ' H3 ⟨x, l, rfl, s3, o3, h3, hl, hF⟩
    o_readsAll
    exact k fl l H3 ffl0 s3 o3 h3 hl hF
end
end L31

namespace L31
open SX Ld
section
variable {P : Program} {w : World} {K : PySem.W.Frag} {mg : Str → Option Value} {base : Heap} {Z : Ad}
theorem c_fallsL {st : Addr} {n : Nat} {H : Hp} {Q : VK} {E : XK} (n40 : n ≤ 41) (hs : Stk H st) (k : ∀ p (l : List Int) H', H p = none → Stk H' st → Off st H H' → H' p = some (.lst (l.map V.int)) → l.length = n → FalL l → Q (.ref p) H') : sp_falls [.ref st, .int (n : Int)] H Q E := ⟨st, n, rfl, n40, hs, k⟩
theorem c_falls {st : Addr} {n : Nat} {H : Hp} {Q : VK} {E : XK} (n0 : 0 < n) (n40 : n ≤ 40) (hs : Stk H st) (k : ∀ p fs H', H p = none → Stk H' st → Off st H H' → IL H' p n fs → OkF fs → Q (.ref p) H') : sp_falls [.ref st, .int (n : Int)] H Q E :=
  c_fallsL (by omega) hs fun p l H' hp hs' ho h hl hF => k p (fn l) H' hp hs' ho (by unfold IL; rw [h, rng_fn, hl]) hF.ok
/-- a ladder as the law has it -/
def PlA (H : Hp) (p : Addr) (L : Int) (n : Nat) (fs : Nat → Int) (ret : Bool) : Prop := ∃ fl, H p = some (.lst [.int L, .ref fl, .bl ret]) ∧ IL H fl n fs
theorem PlA.same {H H' : Hp} {p : Addr} {L : Int} {n : Nat} {fs : Nat → Int} {ret : Bool} (h : PlA H p L n fs ret) (e : Same H H') : PlA H' p L n fs ret := by
  obtain ⟨fl, a, b⟩ := h
  exact ⟨fl, e _ _ a, b.same e⟩
def sp_elad : Sp := fun vs H Q _ => ∃ (st : Addr) (lo hi wi : Nat), vs = [.ref st, .int (lo : Int), .int (hi : Int), .int (wi : Int)] ∧ 1 ≤ lo ∧ lo ≤ hi ∧ hi ≤ 40 ∧ 3 ≤ wi ∧ wi ≤ 6 ∧ Stk H st ∧ ∀ p L n fs ret H', H p = none → Stk H' st → Off st H H' → PlA H' p L n fs ret → (∀ fl, H' p = some (.lst [.int L, .ref fl, .bl ret]) → st ≠ fl) → 2 ≤ L → L ≤ wi → lo ≤ n → n ≤ hi → OkF fs → (∃ l : List Int, l.length = n ∧ fs = fn l ∧ FalL l) → Q (.ref p) H'
theorem d_law_e_ladder (T : Txt K w mg Z) : Dfn P w K mg base 3 "_law_e_ladder" ["stock", "least", "most", "widest"] (sp_elad) := by
  obtain ⟨f, fd, F, hm, hb⟩ := T.f_law_e_ladder
  refine ⟨f, fd, F.ok sc_law_e_ladder (fun vs H Q E h => by first | (obtain ⟨rfl, _⟩ := h; rfl) | (obtain ⟨_, rfl, _⟩ := h; rfl) | (obtain ⟨_, _, rfl, _⟩ := h; rfl) | (obtain ⟨_, _, _, rfl, _⟩ := h; rfl) | (obtain ⟨_, _, _, _, rfl, _⟩ := h; rfl) | (obtain ⟨_, _, _, _, _, rfl, _⟩ := h; rfl) | (obtain ⟨_, _, _, _, _, _, rfl, _⟩ := h; rfl) | (obtain ⟨_, _, _, _, _, _, _, rfl, _⟩ := h; rfl) | (obtain ⟨_, _, _, _, _, _, _, _, rfl, _⟩ := h; rfl) | (obtain ⟨_, _, _, _, _, _, _, _, _, rfl, _⟩ := h; rfl) | (obtain ⟨_, _, _, _, _, _, _, _, _, _, rfl, _⟩ := h; rfl) | (obtain ⟨_, _, _, _, _, _, _, _, _, _, _, rfl, _⟩ := h; rfl) | (obtain ⟨_, _, _, _, _, _, _, _, _, _, _, _, rfl, _⟩ := h; rfl) | (obtain ⟨_, _, _, _, _, _, _, _, _, _, _, _, _, rfl, _⟩ := h; rfl) | (obtain ⟨_, _, _, _, _, _, _, _, _, _, _, _, _, _, rfl, _⟩ := h; rfl) | (obtain ⟨_, _, _, _, _, _, _, _, _, _, _, _, _, _, _, rfl, _⟩ := h; rfl) | (obtain ⟨_, _, _, _, _, _, _, _, _, _, _, _, _, _, _, _, rfl, _⟩ := h; rfl)) (fun cdv A outer s H vs Q E hr h => ?_), hm, F.kp, hb⟩
  obtain ⟨st, lo, hi, wi, rfl, lo1, lohi, hi40, wi3, wi6, hs, k⟩ := h
  have D_law_draw := d_law_draw (P := P) (base := base) T
  have D_law_e_falls := d_law_e_falls (P := P) (base := base) T
  refine ⟨_, (pss_cons (ps_set (i := 4) sc_law_e_ladder.nd rfl (.inl rfl) (pe_op op_uAdd (pv 1) (pe_dfn D_law_draw (hr.mono (by decide)) (by rfl) (pa_cons (pv 0) (pa_cons (pe_op op_uAdd (pe_op op_sub (pv 2) (pv 1)) pe_int) pa_nil)))))
      (pss_cons (ps_set (i := 5) sc_law_e_ladder.nd rfl (.inl rfl) (pe_ifExp (pt_cmpR op_gt (pe_dfn D_law_draw (hr.mono (by decide)) (by rfl) (pa_cons (pv 0) (pa_cons pe_int pa_nil))) pe_int (nomark _)) pe_int (pe_op op_uAdd pe_int (pe_dfn D_law_draw (hr.mono (by decide)) (by rfl) (pa_cons (pv 0) (pa_cons (pe_op op_sub (pv 3) pe_int) pa_nil))))))
      (pss_one (ps_ret (pe_lst (pa_cons (pv 5) (pa_cons (pe_dfn D_law_e_falls (hr.mono (by decide)) (by rfl) (pa_cons (pv 0) (pa_cons (pv 4) pa_nil))) (pa_cons (pe_cmpR (op_uEq hr.units) (pe_dfn D_law_draw (hr.mono (by decide)) (by rfl) (pa_cons (pv 0) (pa_cons pe_int pa_nil))) pe_int (nomark _)) pa_nil)))))))), ?_⟩
  try dsimp only [cxOf, Cx.nox, Cx.wish]
  show (_ : TS) _ [some _, some _, some _, some _, none, none] _
  o_readsAll
  refine c_draw (by omega) (by omega) hs fun r1 H1 r10 r11 s1 o1 => ?_
  o_readsAll
  refine c_draw (by decide) (by decide) s1 fun r2 H2 r20 r21 s2 o2 => ?_
  o_readsAll
  have o12 := o1.trans o2
  refine jnE (fun x H' => ∃ L : Int, x = .int L ∧ 2 ≤ L ∧ L ≤ wi ∧ Stk H' st ∧ Off st H H') ?_ (fun Q' hQ => br (fun h => ?_) (fun h => ?_))
  · rintro x H3 ⟨L, rfl, l2, l6, s3, o3⟩
    o_readsAll
    rw [show ((lo : Int) + r1 : Int) = ((lo + r1.toNat : Nat) : Int) by omega]
    refine c_fallsL (by omega) s3 fun fl l H4 ffl s4 o4 h4 hll hF => ?_
    o_readsAll
    refine c_draw (by decide) (by decide) s4 fun r5 H5 r50 r51 s5 o5 => ?_
    have nf : st ≠ fl := s3.ne ffl
    have h5 := o5 _ _ nf.symm h4
    o_readsAll
    rename_i p H6 fp e6 h6
    have o35 := (o3.trans o4).trans o5
    exact k p L (lo + r1.toNat) (fn l) _ H6 (s5.free o35 fp) (s5.same e6) (o35.same e6) ⟨fl, h6, by unfold IL; rw [e6 _ _ h5, rng_fn, hll]⟩ (fun fl' h' => by rw [h6] at h'; cases h'; exact nf) l2 l6 (by omega) (by omega) hF.ok ⟨l, hll, rfl, hF⟩
  · o_readsAll
    exact hQ _ _ ⟨_, rfl, by omega, by omega, s2, o12⟩
  · o_readsAll
    refine c_draw (by omega) (by omega) s2 fun r3 H3 r30 r31 s3 o3 => ?_
    o_readsAll
    exact hQ _ _ ⟨_, rfl, by omega, by omega, s3, o12.trans o3⟩
theorem c_elad {st : Addr} {lo hi wi : Nat} {H : Hp} {Q : VK} {E : XK} (lo1 : 1 ≤ lo) (lh : lo ≤ hi) (h40 : hi ≤ 40) (w3 : 3 ≤ wi) (w6 : wi ≤ 6) (hs : Stk H st) (k : ∀ p L n fs ret H', H p = none → Stk H' st → Off st H H' → PlA H' p L n fs ret → (∀ fl, H' p = some (.lst [.int L, .ref fl, .bl ret]) → st ≠ fl) → 2 ≤ L → L ≤ wi → lo ≤ n → n ≤ hi → OkF fs → Q (.ref p) H') : sp_elad [.ref st, .int (lo : Int), .int (hi : Int), .int (wi : Int)] H Q E := ⟨st, lo, hi, wi, rfl, lo1, lh, h40, w3, w6, hs, fun p L n fs ret H' a b c d e f g h i j _ => k p L n fs ret H' a b c d e f g h i j⟩
theorem c_eladL {st : Addr} {lo hi wi : Nat} {H : Hp} {Q : VK} {E : XK} (lo1 : 1 ≤ lo) (lh : lo ≤ hi) (h40 : hi ≤ 40) (w3 : 3 ≤ wi) (w6 : wi ≤ 6) (hs : Stk H st) (k : ∀ p L (l : List Int) ret H', H p = none → Stk H' st → Off st H H' → PlA H' p L l.length (fn l) ret → (∀ fl, H' p = some (.lst [.int L, .ref fl, .bl ret]) → st ≠ fl) → 2 ≤ L → L ≤ wi → lo ≤ l.length → l.length ≤ hi → FalL l → Q (.ref p) H') : sp_elad [.ref st, .int (lo : Int), .int (hi : Int), .int (wi : Int)] H Q E := ⟨st, lo, hi, wi, rfl, lo1, lh, h40, w3, w6, hs, fun p L n fs ret H' a b c d e f g h i _ z => by
  obtain ⟨l, rfl, rfl, hF⟩ := z
  exact k p L l ret H' a b c d e f g h i hF⟩
def sp_low (K : PySem.W.Frag) : Sp := fun vs H Q _ => ∃ (r : Addr) (f : Int) (m : Nat) (v : Nat → Int), vs = [.ref r, .int f] ∧ IL H r m v ∧ f < m ∧ Q (.int (lowV v f)) H
theorem d_law_e_low (T : Txt K w mg Z) : Dfn P w K mg base 1 "_law_e_low" ["row", "fall"] (sp_low K) := by
  obtain ⟨f, fd, F, hm, hb⟩ := T.f_law_e_low
  refine ⟨f, fd, F.ok sc_law_e_low (fun vs H Q E h => by first | (obtain ⟨rfl, _⟩ := h; rfl) | (obtain ⟨_, rfl, _⟩ := h; rfl) | (obtain ⟨_, _, rfl, _⟩ := h; rfl) | (obtain ⟨_, _, _, rfl, _⟩ := h; rfl) | (obtain ⟨_, _, _, _, rfl, _⟩ := h; rfl) | (obtain ⟨_, _, _, _, _, rfl, _⟩ := h; rfl) | (obtain ⟨_, _, _, _, _, _, rfl, _⟩ := h; rfl) | (obtain ⟨_, _, _, _, _, _, _, rfl, _⟩ := h; rfl) | (obtain ⟨_, _, _, _, _, _, _, _, rfl, _⟩ := h; rfl) | (obtain ⟨_, _, _, _, _, _, _, _, _, rfl, _⟩ := h; rfl) | (obtain ⟨_, _, _, _, _, _, _, _, _, _, rfl, _⟩ := h; rfl) | (obtain ⟨_, _, _, _, _, _, _, _, _, _, _, rfl, _⟩ := h; rfl) | (obtain ⟨_, _, _, _, _, _, _, _, _, _, _, _, rfl, _⟩ := h; rfl) | (obtain ⟨_, _, _, _, _, _, _, _, _, _, _, _, _, rfl, _⟩ := h; rfl) | (obtain ⟨_, _, _, _, _, _, _, _, _, _, _, _, _, _, rfl, _⟩ := h; rfl) | (obtain ⟨_, _, _, _, _, _, _, _, _, _, _, _, _, _, _, rfl, _⟩ := h; rfl) | (obtain ⟨_, _, _, _, _, _, _, _, _, _, _, _, _, _, _, _, rfl, _⟩ := h; rfl)) (fun cdv A outer s H vs Q E hr h => ?_), hm, F.kp, hb⟩
  obtain ⟨r, f, m, v, rfl, hr', hf, k⟩ := h
  refine ⟨_, (pss_one (ps_ret (pe_ifExp (pt_cmpR op_ge (pv 1) pe_int (nomark _)) (pe_ix ix_seq (pv 0) (pv 1) (fun _ _ => rfl)) pe_int))), ?_⟩
  try dsimp only [cxOf, Cx.nox, Cx.wish]
  show (_ : TS) _ [some _, some _] _
  o_readsAll
  refine br (fun h => ?_) (fun h => ?_)
  · o_readsAll
    refine g_ixL hr'.sq (at_ofN (j := f.toNat) (by omega) (rng_at (by omega))) ?_
    unfold lowV at k
    rw [if_neg (by omega)] at k
    exact k
  · o_readsAll
    unfold lowV at k
    rw [if_pos (by omega)] at k
    exact k
theorem c_low {r : Addr} {f : Int} {m : Nat} {v : Nat → Int} {H : Hp} {Q : VK} {E : XK} (hr : IL H r m v) (hf : f < m) (k : Q (.int (lowV v f)) H) : sp_low K [.ref r, .int f] H Q E := ⟨r, f, m, v, rfl, hr, hf, k⟩
def sp_eheads : Sp := fun vs H Q _ => ∃ (p : Addr) (L : Int) (n : Nat) (fs : Nat → Int) (ret : Bool), vs = [.ref p] ∧ PlA H p L n fs ret ∧ 0 ≤ L ∧ L ≤ 6 ∧ n ≤ 40 ∧ OkF fs ∧ ∀ q H', H q = none → Same H H' → IL H' q (n + 1) (hd L fs) → Q (.ref q) H'
def sp_eloads : Sp := fun vs H Q _ => ∃ (p : Addr) (L : Int) (n : Nat) (fs : Nat → Int) (ret : Bool), vs = [.ref p] ∧ PlA H p L n fs ret ∧ 0 ≤ L ∧ L ≤ 6 ∧ n ≤ 40 ∧ OkF fs ∧ ∀ q qs H', H q = none → Same H H' → H' q = some (.lst (qs.map V.ref)) → qs.length = n → RowsAt H' qs n L fs → Q (.ref q) H'
theorem d_law_e_loads (T : Txt K w mg Z) : Dfn P w K mg base 2 "_law_e_loads" ["ladder"] (sp_eloads) := by
  obtain ⟨f, fd, F, hm, hb⟩ := T.f_law_e_loads
  refine ⟨f, fd, F.ok sc_law_e_loads (fun vs H Q E h => by first | (obtain ⟨rfl, _⟩ := h; rfl) | (obtain ⟨_, rfl, _⟩ := h; rfl) | (obtain ⟨_, _, rfl, _⟩ := h; rfl) | (obtain ⟨_, _, _, rfl, _⟩ := h; rfl) | (obtain ⟨_, _, _, _, rfl, _⟩ := h; rfl) | (obtain ⟨_, _, _, _, _, rfl, _⟩ := h; rfl) | (obtain ⟨_, _, _, _, _, _, rfl, _⟩ := h; rfl) | (obtain ⟨_, _, _, _, _, _, _, rfl, _⟩ := h; rfl) | (obtain ⟨_, _, _, _, _, _, _, _, rfl, _⟩ := h; rfl) | (obtain ⟨_, _, _, _, _, _, _, _, _, rfl, _⟩ := h; rfl) | (obtain ⟨_, _, _, _, _, _, _, _, _, _, rfl, _⟩ := h; rfl) | (obtain ⟨_, _, _, _, _, _, _, _, _, _, _, rfl, _⟩ := h; rfl) | (obtain ⟨_, _, _, _, _, _, _, _, _, _, _, _, rfl, _⟩ := h; rfl) | (obtain ⟨_, _, _, _, _, _, _, _, _, _, _, _, _, rfl, _⟩ := h; rfl) | (obtain ⟨_, _, _, _, _, _, _, _, _, _, _, _, _, _, rfl, _⟩ := h; rfl) | (obtain ⟨_, _, _, _, _, _, _, _, _, _, _, _, _, _, _, rfl, _⟩ := h; rfl) | (obtain ⟨_, _, _, _, _, _, _, _, _, _, _, _, _, _, _, _, rfl, _⟩ := h; rfl)) (fun cdv A outer s H vs Q E hr h => ?_), hm, F.kp, hb⟩
  obtain ⟨p, L, n, fs, ret, rfl, ⟨fl, h1, h2⟩, l0, l6, n40, ok, k⟩ := h
  have h2' := h2
  unfold IL at h2'
  have D_law_e_low := d_law_e_low (P := P) (base := base) T
  refine ⟨_, (pss_cons (ps_set (i := 1) sc_law_e_loads.nd rfl (.inl rfl) (pe_ix ix_seq (pv 0) pe_int (fun _ _ => rfl)))
      (pss_cons (ps_set (i := 2) sc_law_e_loads.nd rfl (.inl rfl) (pe_ix ix_seq (pv 0) pe_int (fun _ _ => rfl)))
      (pss_cons (ps_set (i := 3) sc_law_e_loads.nd rfl (.inl rfl) (pe_lst pa_nil))
      (pss_cons (ps_for PassesOwn.never rfl (pi_range1 (by rfl) T.b_range (pa_cons (pe_callB call_uLen (by rfl) T.b_len bt_len (pa_cons (pv 2) pa_nil)) pa_nil)) (pg_name (i := 4) sc_law_e_loads.nd rfl (.inl rfl))
        (pss_cons (ps_setLc (i := 5) (own := [("b", 6)]) (by rfl) sc_law_e_loads.nd rfl rfl (sw_true rfl rfl rfl (by decide +kernel)) (pi_range1 (by rfl) T.b_range (pa_cons (pe_op op_uAdd (pv 4) pe_int) pa_nil)) (blkOk_by (N := n_law_e_loads) (sc := defScope st_law_e_loads) (by decide +kernel)) (fun _ _ _ _ _ => (pg_name (i := 6) sc_law_e_loads.nd rfl (.inl rfl))) (fun _ _ _ _ _ => pts_nil) (fun _ _ _ _ _ => pe_int))
      (pss_cons (ps_expr (pe_bm PySem.F.plainAttrs_list PySem.F.slot_list_append PySem.F.type_list_append mt_append (pv 5) (pa_cons pe_int pa_nil)))
      (pss_cons (ps_for PassesOwn.never rfl (pi_range2 (by rfl) T.b_range (pa_cons (pe_op op_uAdd (pv 4) pe_int) (pa_cons (pe_callB call_uLen (by rfl) T.b_len bt_len (pa_cons (pv 2) pa_nil)) pa_nil))) (pg_name (i := 6) sc_law_e_loads.nd rfl (.inl rfl))
        (pss_one (ps_expr (pe_bm PySem.F.plainAttrs_list PySem.F.slot_list_append PySem.F.type_list_append mt_append (pv 5) (pa_cons (pe_op op_sub (pe_op op_uMul (pv 1) (pe_ix ix_seq (pv 5) (pv 6) (fun _ _ => rfl))) (pe_op op_uMul (pe_op op_sub (pv 1) pe_int) (pe_dfn D_law_e_low (hr.mono (by decide)) (by rfl) (pa_cons (pv 5) (pa_cons (pe_ix ix_seq (pv 2) (pv 6) (fun _ _ => rfl)) pa_nil))))) pa_nil)))))
      (pss_one (ps_expr (pe_bm PySem.F.plainAttrs_list PySem.F.slot_list_append PySem.F.type_list_append mt_append (pv 3) (pa_cons (pv 5) pa_nil))))))))
      (pss_one (ps_ret (pv 3))))))), ?_⟩
  try dsimp only [cxOf, Cx.nox, Cx.wish]
  show (_ : TS) _ [some _, none, none, none, none, none, none] _
  o_readsAll
  rename_i rp H1 frp e1 hr1 N hN
  rw [rng_len, Int.toNat_natCast]
  refine f_rng (fun i σ' H' => ∃ (x y z : Option V) (qs : List Addr), σ' = [some (.ref p), some (.int L), some (.ref fl), some (.ref rp), x, y, z] ∧ Same H H' ∧ H' rp = some (.lst (qs.map V.ref)) ∧ qs.length = i ∧ RowsAt H' qs n L fs) ⟨_, _, _, [], rfl, e1, hr1, rfl, fun _ _ h => nomatch h⟩ ?_ ?_
  · rintro i σ' H2 hi ⟨x, y, z, qs, rfl, e2, hq2, hql, hR⟩
    rw [Int.zero_add]
    have hf2 : H2 fl = some (.lst (rng n fs)) := e2 _ _ h2'
    o_readsAll
    rw [show ((i : Int) + 1).toNat = i + 1 by omega]
    refine l_rngP (fun b => .int 0) (fun x => rfl) (fun D' b H4 hb hD' e4 h4 => ?_) fun r H3 fr e3 h3 => ?_
    · o_readsAll
      exact g_itemP e4 h4 hD' (by rw [sizeLine_eq]; omega) rfl
    · have hr3 : H3 r = some (.lst (rng (i + 1) (ld L fs i))) := by
        rw [h3]
        exact congrArg (fun l => some (HO.lst l)) (rng_congr (n := i + 1) (f := fun _ => 0) fun j hj => (ld_zero ok j (by omega)).symm)
      have hf3 := e3 _ _ hf2
      have hq3 := e3 _ _ hq2
      have nfr : fl ≠ r := ne_of_none hf2 fr
      have nqr : rp ≠ r := ne_of_none hq2 fr
      o_readsAll
      rename_i N2 hN2
      rw [rng_len, show ((n : Int) - ((i : Int) + 1)).toNat = n - (i + 1) by omega]
      have fr0 : H r = none := e2.free fr
      refine f_rng (fun j σ' H' => ∃ (z : Option V), σ' = [some (.ref p), some (.int L), some (.ref fl), some (.ref rp), some (.int (i : Int)), some (.ref r), z] ∧ Same H2 H' ∧ H' r = some (.lst (rng (i + 1 + j + 1) (ld L fs i)))) ⟨_, rfl, Eg.Same.put e3 fr, ?_⟩ ?_ ?_
      · rw [upd_same, rng_succ (i + 1), ld_one ok]
      · rintro j σ' H4 hj ⟨z, rfl, e4, h4⟩
        have okf := ok (i + 1 + j)
        have hf4 := e4 _ _ hf2
        have h4' : IL H4 r (i + 1 + j + 1) (ld L fs i) := h4
        rw [show ((i : Int) + 1 + (j : Int)) = ((i + 1 + j : Nat) : Int) by omega]
        o_readsAll
        refine g_ixL (.of h4) (atI_nat (rng_at (by omega))) ?_
        o_readsAll
        refine g_ixL (.of hf4) (atI_nat (rng_at (by omega))) ?_
        o_readsAll
        refine c_low h4' (by omega) ?_
        o_readsAll
        refine ⟨_, rfl, Eg.Same.put e4 fr, ?_⟩
        have hv : ld L fs i (i + 1 + j + 1) = L * ld L fs i (i + 1 + j) - (L - 1) * lowV (ld L fs i) (fs (i + 1 + j)) := by
          have hz : Ld.dl i (i + 1 + j) = 0 := by unfold Ld.dl; rw [if_neg (by omega)]
          rw [ld_succ ok, hz, Int.add_zero]
        rw [upd_same, show i + 1 + (j + 1) + 1 = i + 1 + j + 1 + 1 by omega, rng_succ (i + 1 + j + 1), hv]
      · rintro σ' H4 ⟨z, rfl, e4, h4⟩
        have hq4 := e4 _ _ hq2
        have hR4 := hR.same e4
        rw [show i + 1 + (n - (i + 1)) + 1 = n + 1 by omega] at h4
        o_readsAll
        refine ⟨_, _, _, qs ++ [r], rfl, Eg.Same.put (e2.trans e4) frp, ?_, by rw [List.length_append, hql]; rfl, RowsAt.snoc hR4 (by rw [hql]; exact h4) hq4⟩
        rw [upd_same, List.map_append]; rfl
  · rintro σ' H2 ⟨x, y, z, qs, rfl, e2, hq2, hql, hR⟩
    o_readsAll
    exact k rp qs H2 frp e2 hq2 hql hR
end
end L31

namespace L31
set_option exponentiation.threshold 2000
open SX Ld
section
variable {P : Program} {w : World} {K : PySem.W.Frag} {mg : Str → Option Value} {base : Heap} {Z : Ad}
theorem c_mat {n : Nat} {x y : V} {H : Hp} {Q : VK} {E : XK} (h : Alk H n x y) (k : ∀ H', Same H H' → Q (.bl true) H') : sp_mat n [x, y] H Q E := ⟨x, y, rfl, h, k⟩
/-- tuples, lists of plain values -/
def Flat : V → Prop
  | .int _ => True
  | .str _ => True
  | .bl _ => True
  | _ => False
theorem alk_flat {H : Hp} {m : Nat} {v : V} (h : Flat v) : Alk H (m + 1) v v := by
  cases v <;> first | exact .inr (.inl ⟨_, rfl, rfl⟩) | exact .inr (.inr (.inl ⟨_, rfl, rfl⟩)) | exact .inr (.inr (.inr (.inl ⟨_, rfl, rfl⟩))) | exact h.elim
theorem alk_tup {H : Hp} {m : Nat} {a b : Addr} {xs : List V} (ha : H a = some (.tup xs)) (hb : H b = some (.tup xs)) (hl : xs.length ≤ 1000000) (hf : ∀ v ∈ xs, Flat v) : Alk H (m + 2) (.ref a) (.ref b) := by
  refine .inr (.inr (.inr (.inr (.inl ⟨a, b, _, _, rfl, rfl, ha, hb, rfl, hl, fun i u v hu hv => ?_⟩))))
  rw [hu] at hv
  cases hv
  exact alk_flat (hf u (List.mem_of_getElem? hu))
theorem sh_held : SeqAt.shaped (.tuple [.str "held"]) = true := by decide +kernel
theorem eq_held : PyData.eqv (.tuple [.str "held"]) (.tuple [.str "held"]) = true := by decide +kernel
theorem g_neHeld {a b : Addr} {H : Hp} {Q : VK} (ha : H a = some (.tup [.str "held"])) (hb : H b = some (.tup [.str "held"])) (k : Q (.bl false) H) : uNe K (.ref a) (.ref b) H Q := by
  refine .inr ⟨.tuple [.str "held"], .tuple [.str "held"], .tup (.of ha) (.cons (.str _) .nil), .tup (.of hb) (.cons (.str _) .nil), sh_held, sh_held, ?_⟩
  rw [eq_held]
  exact k
theorem g_eqHeld {a b : Addr} {H : Hp} {Q : VK} (ha : H a = some (.tup [.str "held"])) (hb : H b = some (.tup [.str "held"])) (k : Q (.bl true) H) : uEq K (.ref a) (.ref b) H Q := by
  refine .inr ⟨.tuple [.str "held"], .tuple [.str "held"], .tup (.of ha) (.cons (.str _) .nil), .tup (.of hb) (.cons (.str _) .nil), sh_held, sh_held, ?_⟩
  rw [eq_held]
  exact k
theorem alk_il {H : Hp} {m n : Nat} {p q : Addr} {f : Nat → Int} (hp : IL H p n f) (hq : IL H q n f) (h : n ≤ 1000000) : Alk H (m + 2) (.ref p) (.ref q) := by
  refine .inr (.inr (.inr (.inr (.inr ⟨p, q, _, _, rfl, rfl, hp, hq, rfl, by rw [rng_len]; exact h, fun i u v hu hv => ?_⟩))))
  rw [hu] at hv
  cases hv
  have hi := (List.getElem?_eq_some_iff.mp hu).1
  rw [rng_len] at hi
  rw [rng_at hi] at hu
  cases hu
  exact alk_flat trivial
end
end L31

namespace L31
set_option exponentiation.threshold 2000
open SX Ld
section
variable {P : Program} {w : World} {K : PySem.W.Frag} {mg : Str → Option Value} {base : Heap} {Z : Ad}
theorem d_TooMany_init (T : Txt K w mg Z) : Iex P w K mg base 1 "TooMany" Z.a_TooMany ["self", "what"] (sp_xi K Z.a_TooMany "what") := by
  obtain ⟨f, fd, F, hi, ht, hb⟩ := T.f_TooMany_init
  refine ⟨⟨f, fd, F.ok sc_TooMany_init (fun vs H Q E h => by first | (obtain ⟨rfl, _⟩ := h; rfl) | (obtain ⟨_, rfl, _⟩ := h; rfl) | (obtain ⟨_, _, rfl, _⟩ := h; rfl) | (obtain ⟨_, _, _, rfl, _⟩ := h; rfl) | (obtain ⟨_, _, _, _, rfl, _⟩ := h; rfl) | (obtain ⟨_, _, _, _, _, rfl, _⟩ := h; rfl) | (obtain ⟨_, _, _, _, _, _, rfl, _⟩ := h; rfl) | (obtain ⟨_, _, _, _, _, _, _, rfl, _⟩ := h; rfl) | (obtain ⟨_, _, _, _, _, _, _, _, rfl, _⟩ := h; rfl) | (obtain ⟨_, _, _, _, _, _, _, _, _, rfl, _⟩ := h; rfl) | (obtain ⟨_, _, _, _, _, _, _, _, _, _, rfl, _⟩ := h; rfl) | (obtain ⟨_, _, _, _, _, _, _, _, _, _, _, rfl, _⟩ := h; rfl) | (obtain ⟨_, _, _, _, _, _, _, _, _, _, _, _, rfl, _⟩ := h; rfl) | (obtain ⟨_, _, _, _, _, _, _, _, _, _, _, _, _, rfl, _⟩ := h; rfl) | (obtain ⟨_, _, _, _, _, _, _, _, _, _, _, _, _, _, rfl, _⟩ := h; rfl) | (obtain ⟨_, _, _, _, _, _, _, _, _, _, _, _, _, _, _, rfl, _⟩ := h; rfl) | (obtain ⟨_, _, _, _, _, _, _, _, _, _, _, _, _, _, _, _, rfl, _⟩ := h; rfl)) (fun cdv A outer s H vs Q E hr h => ?_), hi, ht, T.g_TooMany, hb⟩, T.o_TooMany⟩
  have oex := T.o_TooMany
  have nex := T.n_TooMany_what
  obtain ⟨a, v, rfl, ha, k⟩ := h
  refine ⟨_, (pss_cons (ps_expr (pe_winit (by rfl) T.g_WinsError T.wg_WinsError T.wr_WinsError T.wv_WinsError (pa_cons (pv 0) (pa_cons pe_str pa_nil))))
      (pss_one (ps_ost (pv 0) (pv 1) rfl))), ?_⟩
  try dsimp only [cxOf, Cx.nox, Cx.wish]
  show (_ : TS) _ [some _, some _] _
  o_readsAll
  refine g_ve ha oex (by simp) ?_
  o_readsAll
  refine g_ost ha oex nex fun dx hd hn => ?_
  o_readsAll
  exact k dx hd hn
theorem d_BadLadder_init (T : Txt K w mg Z) : Iex P w K mg base 1 "BadLadder" Z.a_BadLadder ["self", "rung"] (sp_xi K Z.a_BadLadder "rung") := by
  obtain ⟨f, fd, F, hi, ht, hb⟩ := T.f_BadLadder_init
  refine ⟨⟨f, fd, F.ok sc_BadLadder_init (fun vs H Q E h => by first | (obtain ⟨rfl, _⟩ := h; rfl) | (obtain ⟨_, rfl, _⟩ := h; rfl) | (obtain ⟨_, _, rfl, _⟩ := h; rfl) | (obtain ⟨_, _, _, rfl, _⟩ := h; rfl) | (obtain ⟨_, _, _, _, rfl, _⟩ := h; rfl) | (obtain ⟨_, _, _, _, _, rfl, _⟩ := h; rfl) | (obtain ⟨_, _, _, _, _, _, rfl, _⟩ := h; rfl) | (obtain ⟨_, _, _, _, _, _, _, rfl, _⟩ := h; rfl) | (obtain ⟨_, _, _, _, _, _, _, _, rfl, _⟩ := h; rfl) | (obtain ⟨_, _, _, _, _, _, _, _, _, rfl, _⟩ := h; rfl) | (obtain ⟨_, _, _, _, _, _, _, _, _, _, rfl, _⟩ := h; rfl) | (obtain ⟨_, _, _, _, _, _, _, _, _, _, _, rfl, _⟩ := h; rfl) | (obtain ⟨_, _, _, _, _, _, _, _, _, _, _, _, rfl, _⟩ := h; rfl) | (obtain ⟨_, _, _, _, _, _, _, _, _, _, _, _, _, rfl, _⟩ := h; rfl) | (obtain ⟨_, _, _, _, _, _, _, _, _, _, _, _, _, _, rfl, _⟩ := h; rfl) | (obtain ⟨_, _, _, _, _, _, _, _, _, _, _, _, _, _, _, rfl, _⟩ := h; rfl) | (obtain ⟨_, _, _, _, _, _, _, _, _, _, _, _, _, _, _, _, rfl, _⟩ := h; rfl)) (fun cdv A outer s H vs Q E hr h => ?_), hi, ht, T.g_BadLadder, hb⟩, T.o_BadLadder⟩
  have oex := T.o_BadLadder
  have nex := T.n_BadLadder_rung
  obtain ⟨a, v, rfl, ha, k⟩ := h
  refine ⟨_, (pss_cons (ps_expr (pe_winit (by rfl) T.g_WinsError T.wg_WinsError T.wr_WinsError T.wv_WinsError (pa_cons (pv 0) (pa_cons pe_str pa_nil))))
      (pss_one (ps_ost (pv 0) (pv 1) rfl))), ?_⟩
  try dsimp only [cxOf, Cx.nox, Cx.wish]
  show (_ : TS) _ [some _, some _] _
  o_readsAll
  refine g_ve ha oex (by simp) ?_
  o_readsAll
  refine g_ost ha oex nex fun dx hd hn => ?_
  o_readsAll
  exact k dx hd hn
theorem d_BadTable_init (T : Txt K w mg Z) : Iex P w K mg base 1 "BadTable" Z.a_BadTable ["self", "rung"] (sp_xi K Z.a_BadTable "rung") := by
  obtain ⟨f, fd, F, hi, ht, hb⟩ := T.f_BadTable_init
  refine ⟨⟨f, fd, F.ok sc_BadTable_init (fun vs H Q E h => by first | (obtain ⟨rfl, _⟩ := h; rfl) | (obtain ⟨_, rfl, _⟩ := h; rfl) | (obtain ⟨_, _, rfl, _⟩ := h; rfl) | (obtain ⟨_, _, _, rfl, _⟩ := h; rfl) | (obtain ⟨_, _, _, _, rfl, _⟩ := h; rfl) | (obtain ⟨_, _, _, _, _, rfl, _⟩ := h; rfl) | (obtain ⟨_, _, _, _, _, _, rfl, _⟩ := h; rfl) | (obtain ⟨_, _, _, _, _, _, _, rfl, _⟩ := h; rfl) | (obtain ⟨_, _, _, _, _, _, _, _, rfl, _⟩ := h; rfl) | (obtain ⟨_, _, _, _, _, _, _, _, _, rfl, _⟩ := h; rfl) | (obtain ⟨_, _, _, _, _, _, _, _, _, _, rfl, _⟩ := h; rfl) | (obtain ⟨_, _, _, _, _, _, _, _, _, _, _, rfl, _⟩ := h; rfl) | (obtain ⟨_, _, _, _, _, _, _, _, _, _, _, _, rfl, _⟩ := h; rfl) | (obtain ⟨_, _, _, _, _, _, _, _, _, _, _, _, _, rfl, _⟩ := h; rfl) | (obtain ⟨_, _, _, _, _, _, _, _, _, _, _, _, _, _, rfl, _⟩ := h; rfl) | (obtain ⟨_, _, _, _, _, _, _, _, _, _, _, _, _, _, _, rfl, _⟩ := h; rfl) | (obtain ⟨_, _, _, _, _, _, _, _, _, _, _, _, _, _, _, _, rfl, _⟩ := h; rfl)) (fun cdv A outer s H vs Q E hr h => ?_), hi, ht, T.g_BadTable, hb⟩, T.o_BadTable⟩
  have oex := T.o_BadTable
  have nex := T.n_BadTable_rung
  obtain ⟨a, v, rfl, ha, k⟩ := h
  refine ⟨_, (pss_cons (ps_expr (pe_winit (by rfl) T.g_WinsError T.wg_WinsError T.wr_WinsError T.wv_WinsError (pa_cons (pv 0) (pa_cons pe_str pa_nil))))
      (pss_one (ps_ost (pv 0) (pv 1) rfl))), ?_⟩
  try dsimp only [cxOf, Cx.nox, Cx.wish]
  show (_ : TS) _ [some _, some _] _
  o_readsAll
  refine g_ve ha oex (by simp) ?_
  o_readsAll
  refine g_ost ha oex nex fun dx hd hn => ?_
  o_readsAll
  exact k dx hd hn
theorem d_BadDemand_init (T : Txt K w mg Z) : Iex P w K mg base 1 "BadDemand" Z.a_BadDemand ["self", "what"] (sp_xi K Z.a_BadDemand "what") := by
  obtain ⟨f, fd, F, hi, ht, hb⟩ := T.f_BadDemand_init
  refine ⟨⟨f, fd, F.ok sc_BadDemand_init (fun vs H Q E h => by first | (obtain ⟨rfl, _⟩ := h; rfl) | (obtain ⟨_, rfl, _⟩ := h; rfl) | (obtain ⟨_, _, rfl, _⟩ := h; rfl) | (obtain ⟨_, _, _, rfl, _⟩ := h; rfl) | (obtain ⟨_, _, _, _, rfl, _⟩ := h; rfl) | (obtain ⟨_, _, _, _, _, rfl, _⟩ := h; rfl) | (obtain ⟨_, _, _, _, _, _, rfl, _⟩ := h; rfl) | (obtain ⟨_, _, _, _, _, _, _, rfl, _⟩ := h; rfl) | (obtain ⟨_, _, _, _, _, _, _, _, rfl, _⟩ := h; rfl) | (obtain ⟨_, _, _, _, _, _, _, _, _, rfl, _⟩ := h; rfl) | (obtain ⟨_, _, _, _, _, _, _, _, _, _, rfl, _⟩ := h; rfl) | (obtain ⟨_, _, _, _, _, _, _, _, _, _, _, rfl, _⟩ := h; rfl) | (obtain ⟨_, _, _, _, _, _, _, _, _, _, _, _, rfl, _⟩ := h; rfl) | (obtain ⟨_, _, _, _, _, _, _, _, _, _, _, _, _, rfl, _⟩ := h; rfl) | (obtain ⟨_, _, _, _, _, _, _, _, _, _, _, _, _, _, rfl, _⟩ := h; rfl) | (obtain ⟨_, _, _, _, _, _, _, _, _, _, _, _, _, _, _, rfl, _⟩ := h; rfl) | (obtain ⟨_, _, _, _, _, _, _, _, _, _, _, _, _, _, _, _, rfl, _⟩ := h; rfl)) (fun cdv A outer s H vs Q E hr h => ?_), hi, ht, T.g_BadDemand, hb⟩, T.o_BadDemand⟩
  have oex := T.o_BadDemand
  have nex := T.n_BadDemand_what
  obtain ⟨a, v, rfl, ha, k⟩ := h
  refine ⟨_, (pss_cons (ps_expr (pe_winit (by rfl) T.g_WinsError T.wg_WinsError T.wr_WinsError T.wv_WinsError (pa_cons (pv 0) (pa_cons pe_str pa_nil))))
      (pss_one (ps_ost (pv 0) (pv 1) rfl))), ?_⟩
  try dsimp only [cxOf, Cx.nox, Cx.wish]
  show (_ : TS) _ [some _, some _] _
  o_readsAll
  refine g_ve ha oex (by simp) ?_
  o_readsAll
  refine g_ost ha oex nex fun dx hd hn => ?_
  o_readsAll
  exact k dx hd hn
/-- the errors that are met: name, class, field -/
def ErrC (Z : Ad) (nm : Str) (C : Addr) (f : Str) : Prop := (nm = "TooMany" ∧ C = Z.a_TooMany ∧ f = "what") ∨ (nm = "BadLadder" ∧ C = Z.a_BadLadder ∧ f = "rung") ∨ (nm = "BadTable" ∧ C = Z.a_BadTable ∧ f = "rung") ∨ (nm = "BadDemand" ∧ C = Z.a_BadDemand ∧ f = "what")
theorem err_TooMany : ErrC Z "TooMany" Z.a_TooMany "what" := .inl ⟨rfl, rfl, rfl⟩
theorem err_BadLadder : ErrC Z "BadLadder" Z.a_BadLadder "rung" := .inr (.inl ⟨rfl, rfl, rfl⟩)
theorem err_BadTable : ErrC Z "BadTable" Z.a_BadTable "rung" := .inr (.inr (.inl ⟨rfl, rfl, rfl⟩))
theorem err_BadDemand : ErrC Z "BadDemand" Z.a_BadDemand "what" := .inr (.inr (.inr (⟨rfl, rfl, rfl⟩)))
def sp_named (Z : Ad) : Value → Option Addr → Sp := fun cls d vs H Q _ => ∃ (a dd C : Addr) (nm f : Str) (v : V), vs = [.ref a] ∧ cls = .ref C ∧ d = some dd ∧ ErrC Z nm C f ∧ H dd = some (.xd [(f, v)]) ∧ ∀ p H', H p = none → Same H H' → H' p = some (.tup [.str nm, v]) → Q (.ref p) H'
theorem d_law_e_named (T : Txt K w mg Z) : DfnE P w K mg base 1 "_law_e_named" ["raised"] (sp_named Z) := by
  obtain ⟨f, fd, F, hm, hb⟩ := T.f_law_e_named
  refine ⟨f, fd, okE F sc_law_e_named rfl (fun cdv A outer s H Q a oe cls d hr hz hf h => ?_), hm, F.kp, hb⟩
  obtain ⟨a', dd, C, nm, f, v, e1, rfl, rfl, ec, hx, k⟩ := h
  cases e1
  rcases ec with ⟨rfl, rfl, rfl⟩ | ⟨rfl, rfl, rfl⟩ | ⟨rfl, rfl, rfl⟩ | ⟨rfl, rfl, rfl⟩
  · skip
    have xi := T.xi_TooMany
    have xf := T.x_TooMany
    refine ⟨_, (pss_cons (ps_set (i := 1) sc_law_e_named.nd rfl (.inl rfl) (pe_lst pa_nil))
      (pss_cons (ps_if (pt_uK (K := K) rfl (pe_callB (call_isX hz hf) (by rfl) T.b_isinstance bt_isinstance (pa_cons (pv 0) (pa_cons (pe_gr T.g_TooMany) pa_nil)))) (pss_one (ps_expr (pe_bmX (K := K) rfl PySem.F.plainAttrs_list PySem.F.slot_list_append PySem.F.type_list_append mt_append (pv 1) (pa_cons (pe_tup (pa_cons pe_str (pa_cons (pe_xfA hz hf (pv 0)) pa_nil))) pa_nil)))) pss_nil)
      (pss_cons (ps_if (pt_uK (K := K) rfl (pe_callB (call_isX hz hf) (by rfl) T.b_isinstance bt_isinstance (pa_cons (pv 0) (pa_cons (pe_gr T.g_BadLadder) pa_nil)))) (pss_one (ps_expr (pe_bmX (K := K) rfl PySem.F.plainAttrs_list PySem.F.slot_list_append PySem.F.type_list_append mt_append (pv 1) (pa_cons (pe_tup (pa_cons pe_str (pa_cons (pe_xfA hz hf (pv 0)) pa_nil))) pa_nil)))) pss_nil)
      (pss_cons (ps_if (pt_uK (K := K) rfl (pe_callB (call_isX hz hf) (by rfl) T.b_isinstance bt_isinstance (pa_cons (pv 0) (pa_cons (pe_gr T.g_BadTable) pa_nil)))) (pss_one (ps_expr (pe_bmX (K := K) rfl PySem.F.plainAttrs_list PySem.F.slot_list_append PySem.F.type_list_append mt_append (pv 1) (pa_cons (pe_tup (pa_cons pe_str (pa_cons (pe_xfA hz hf (pv 0)) pa_nil))) pa_nil)))) pss_nil)
      (pss_cons (ps_if (pt_uK (K := K) rfl (pe_callB (call_isX hz hf) (by rfl) T.b_isinstance bt_isinstance (pa_cons (pv 0) (pa_cons (pe_gr T.g_BadDemand) pa_nil)))) (pss_one (ps_expr (pe_bmX (K := K) rfl PySem.F.plainAttrs_list PySem.F.slot_list_append PySem.F.type_list_append mt_append (pv 1) (pa_cons (pe_tup (pa_cons pe_str (pa_cons (pe_xfA hz hf (pv 0)) pa_nil))) pa_nil)))) pss_nil)
      (pss_cons (ps_if (pt_uK (K := K) rfl (pe_callB (call_isX hz hf) (by rfl) T.b_isinstance bt_isinstance (pa_cons (pv 0) (pa_cons (pe_tup (pa_cons (pe_gr T.g_BadText) (pa_cons (pe_gr T.g_BadSeason) (pa_cons (pe_gr T.g_BadCode) (pa_cons (pe_gr T.g_BadEvent) (pa_cons (pe_gr T.g_BadFoe) (pa_cons (pe_gr T.g_BadPaper) (pa_cons (pe_gr T.g_BadDisk) (pa_cons (pe_gr T.g_BadDeed) pa_nil))))))))) pa_nil)))) (pss_one ps_never) pss_nil)
      (pss_one (ps_ret (pe_ifExp (PW.pt (pw_and (pt_cmpR (op_uEqK (K := K) rfl hr.units) (pe_callB (call_uLenK (K := K) rfl) (by rfl) T.b_len bt_len (pa_cons (pv 1) pa_nil)) pe_int (nomark _)) (pw_and1 (pt_uK (K := K) rfl (pe_callB (call_isX hz hf) (by rfl) T.b_isinstance bt_isinstance (pa_cons (pv 0) (pa_cons (pe_bltn (v := .ty "ValueError") (by rfl) T.b_ValueError bt_ValueError rfl) pa_nil))))))) (pe_ix (ix_seqK (K := K) rfl) (pv 1) pe_int (fun _ _ => rfl)) (pe_tup (pa_cons pe_str pa_nil))))))))))), ?_⟩
    try dsimp only [cxOf, Cx.nox, Cx.wish]
    show (_ : TS) _ [some _, none] _
    o_readsAll
    rename_i q0 H1 fq0 e1 hq0 N1 hN1
    have hx1 := e1 _ _ hx
    refine g_isx xi hx1 (.own _) T.ki_TooMany_TooMany ?_
    o_readsAll
    refine g_xfA xf T.n_TooMany_what hx1 fld_hd ?_
    o_readsAll
    rename_i t1 H2 ft1 e2 ht1 N2 hN2
    have hq2 := e2 _ _ hq0
    have nt1 : t1 ≠ q0 := (ne_of_none hq0 ft1).symm
    have hdq : dd ≠ q0 := ne_of hx1 hq0 (by intro z; cases z)
    have hx2 : upd H2 q0 (.lst ([] ++ [V.ref t1])) dd = some (.xd [("what", v)]) := by rw [upd_ne hdq]; exact e2 _ _ hx1
    refine g_isx xi hx2 (.own _) T.ki_TooMany_BadLadder ?_
    o_readsAll
    refine g_isx xi hx2 (.own _) T.ki_TooMany_BadTable ?_
    o_readsAll
    refine g_isx xi hx2 (.own _) T.ki_TooMany_BadDemand ?_
    o_readsAll
    rename_i t2 H3 ft2 e3 ht2
    have hx3 : H3 dd = some (.xd [("what", v)]) := e3 _ _ (by rw [upd_ne hdq]; exact e2 _ _ hx1)
    have ht3 : H3 t1 = some (.tup [.str "TooMany", v]) := e3 _ _ (by rw [upd_ne nt1]; exact ht1)
    have f3 : H3 q0 = some (.lst [.ref t1]) := e3 _ _ upd_same
    have s3 : Same H H3 := (Eg.Same.put (e1.trans e2) fq0).trans e3
    have nf1 : H t1 = none := e1.free ft1
    refine g_isxT xi hx3 ht2 (.cons (.own _) (.cons (.own _) (.cons (.own _) (.cons (.own _) (.cons (.own _) (.cons (.own _) (.cons (.own _) (.cons (.own _) .nil)))))))) T.ka_TooMany_0 ?_
    clear hq0 e1 e2 hq2 ht1
    o_readsAll
    refine brT (decide_eq_true rfl) ?_
    o_readsAll
    refine g_isx xi hx3 (.ty _) T.ki_TooMany_ValueError ?_
    o_readsAll
    exact k _ _ nf1 s3 ht3
  · skip
    have xi := T.xi_BadLadder
    have xf := T.x_BadLadder
    refine ⟨_, (pss_cons (ps_set (i := 1) sc_law_e_named.nd rfl (.inl rfl) (pe_lst pa_nil))
      (pss_cons (ps_if (pt_uK (K := K) rfl (pe_callB (call_isX hz hf) (by rfl) T.b_isinstance bt_isinstance (pa_cons (pv 0) (pa_cons (pe_gr T.g_TooMany) pa_nil)))) (pss_one (ps_expr (pe_bmX (K := K) rfl PySem.F.plainAttrs_list PySem.F.slot_list_append PySem.F.type_list_append mt_append (pv 1) (pa_cons (pe_tup (pa_cons pe_str (pa_cons (pe_xfA hz hf (pv 0)) pa_nil))) pa_nil)))) pss_nil)
      (pss_cons (ps_if (pt_uK (K := K) rfl (pe_callB (call_isX hz hf) (by rfl) T.b_isinstance bt_isinstance (pa_cons (pv 0) (pa_cons (pe_gr T.g_BadLadder) pa_nil)))) (pss_one (ps_expr (pe_bmX (K := K) rfl PySem.F.plainAttrs_list PySem.F.slot_list_append PySem.F.type_list_append mt_append (pv 1) (pa_cons (pe_tup (pa_cons pe_str (pa_cons (pe_xfA hz hf (pv 0)) pa_nil))) pa_nil)))) pss_nil)
      (pss_cons (ps_if (pt_uK (K := K) rfl (pe_callB (call_isX hz hf) (by rfl) T.b_isinstance bt_isinstance (pa_cons (pv 0) (pa_cons (pe_gr T.g_BadTable) pa_nil)))) (pss_one (ps_expr (pe_bmX (K := K) rfl PySem.F.plainAttrs_list PySem.F.slot_list_append PySem.F.type_list_append mt_append (pv 1) (pa_cons (pe_tup (pa_cons pe_str (pa_cons (pe_xfA hz hf (pv 0)) pa_nil))) pa_nil)))) pss_nil)
      (pss_cons (ps_if (pt_uK (K := K) rfl (pe_callB (call_isX hz hf) (by rfl) T.b_isinstance bt_isinstance (pa_cons (pv 0) (pa_cons (pe_gr T.g_BadDemand) pa_nil)))) (pss_one (ps_expr (pe_bmX (K := K) rfl PySem.F.plainAttrs_list PySem.F.slot_list_append PySem.F.type_list_append mt_append (pv 1) (pa_cons (pe_tup (pa_cons pe_str (pa_cons (pe_xfA hz hf (pv 0)) pa_nil))) pa_nil)))) pss_nil)
      (pss_cons (ps_if (pt_uK (K := K) rfl (pe_callB (call_isX hz hf) (by rfl) T.b_isinstance bt_isinstance (pa_cons (pv 0) (pa_cons (pe_tup (pa_cons (pe_gr T.g_BadText) (pa_cons (pe_gr T.g_BadSeason) (pa_cons (pe_gr T.g_BadCode) (pa_cons (pe_gr T.g_BadEvent) (pa_cons (pe_gr T.g_BadFoe) (pa_cons (pe_gr T.g_BadPaper) (pa_cons (pe_gr T.g_BadDisk) (pa_cons (pe_gr T.g_BadDeed) pa_nil))))))))) pa_nil)))) (pss_one ps_never) pss_nil)
      (pss_one (ps_ret (pe_ifExp (PW.pt (pw_and (pt_cmpR (op_uEqK (K := K) rfl hr.units) (pe_callB (call_uLenK (K := K) rfl) (by rfl) T.b_len bt_len (pa_cons (pv 1) pa_nil)) pe_int (nomark _)) (pw_and1 (pt_uK (K := K) rfl (pe_callB (call_isX hz hf) (by rfl) T.b_isinstance bt_isinstance (pa_cons (pv 0) (pa_cons (pe_bltn (v := .ty "ValueError") (by rfl) T.b_ValueError bt_ValueError rfl) pa_nil))))))) (pe_ix (ix_seqK (K := K) rfl) (pv 1) pe_int (fun _ _ => rfl)) (pe_tup (pa_cons pe_str pa_nil))))))))))), ?_⟩
    try dsimp only [cxOf, Cx.nox, Cx.wish]
    show (_ : TS) _ [some _, none] _
    o_readsAll
    rename_i q0 H1 fq0 e1 hq0 N1 hN1
    have hx1 := e1 _ _ hx
    refine g_isx xi hx1 (.own _) T.ki_BadLadder_TooMany ?_
    o_readsAll
    refine g_isx xi hx1 (.own _) T.ki_BadLadder_BadLadder ?_
    o_readsAll
    refine g_xfA xf T.n_BadLadder_rung hx1 fld_hd ?_
    o_readsAll
    rename_i t1 H2 ft1 e2 ht1 N2 hN2
    have hq2 := e2 _ _ hq0
    have nt1 : t1 ≠ q0 := (ne_of_none hq0 ft1).symm
    have hdq : dd ≠ q0 := ne_of hx1 hq0 (by intro z; cases z)
    have hx2 : upd H2 q0 (.lst ([] ++ [V.ref t1])) dd = some (.xd [("rung", v)]) := by rw [upd_ne hdq]; exact e2 _ _ hx1
    refine g_isx xi hx2 (.own _) T.ki_BadLadder_BadTable ?_
    o_readsAll
    refine g_isx xi hx2 (.own _) T.ki_BadLadder_BadDemand ?_
    o_readsAll
    rename_i t2 H3 ft2 e3 ht2
    have hx3 : H3 dd = some (.xd [("rung", v)]) := e3 _ _ (by rw [upd_ne hdq]; exact e2 _ _ hx1)
    have ht3 : H3 t1 = some (.tup [.str "BadLadder", v]) := e3 _ _ (by rw [upd_ne nt1]; exact ht1)
    have f3 : H3 q0 = some (.lst [.ref t1]) := e3 _ _ upd_same
    have s3 : Same H H3 := (Eg.Same.put (e1.trans e2) fq0).trans e3
    have nf1 : H t1 = none := e1.free ft1
    refine g_isxT xi hx3 ht2 (.cons (.own _) (.cons (.own _) (.cons (.own _) (.cons (.own _) (.cons (.own _) (.cons (.own _) (.cons (.own _) (.cons (.own _) .nil)))))))) T.ka_BadLadder_0 ?_
    clear hq0 e1 e2 hq2 ht1
    o_readsAll
    refine brT (decide_eq_true rfl) ?_
    o_readsAll
    refine g_isx xi hx3 (.ty _) T.ki_BadLadder_ValueError ?_
    o_readsAll
    exact k _ _ nf1 s3 ht3
  · skip
    have xi := T.xi_BadTable
    have xf := T.x_BadTable
    refine ⟨_, (pss_cons (ps_set (i := 1) sc_law_e_named.nd rfl (.inl rfl) (pe_lst pa_nil))
      (pss_cons (ps_if (pt_uK (K := K) rfl (pe_callB (call_isX hz hf) (by rfl) T.b_isinstance bt_isinstance (pa_cons (pv 0) (pa_cons (pe_gr T.g_TooMany) pa_nil)))) (pss_one (ps_expr (pe_bmX (K := K) rfl PySem.F.plainAttrs_list PySem.F.slot_list_append PySem.F.type_list_append mt_append (pv 1) (pa_cons (pe_tup (pa_cons pe_str (pa_cons (pe_xfA hz hf (pv 0)) pa_nil))) pa_nil)))) pss_nil)
      (pss_cons (ps_if (pt_uK (K := K) rfl (pe_callB (call_isX hz hf) (by rfl) T.b_isinstance bt_isinstance (pa_cons (pv 0) (pa_cons (pe_gr T.g_BadLadder) pa_nil)))) (pss_one (ps_expr (pe_bmX (K := K) rfl PySem.F.plainAttrs_list PySem.F.slot_list_append PySem.F.type_list_append mt_append (pv 1) (pa_cons (pe_tup (pa_cons pe_str (pa_cons (pe_xfA hz hf (pv 0)) pa_nil))) pa_nil)))) pss_nil)
      (pss_cons (ps_if (pt_uK (K := K) rfl (pe_callB (call_isX hz hf) (by rfl) T.b_isinstance bt_isinstance (pa_cons (pv 0) (pa_cons (pe_gr T.g_BadTable) pa_nil)))) (pss_one (ps_expr (pe_bmX (K := K) rfl PySem.F.plainAttrs_list PySem.F.slot_list_append PySem.F.type_list_append mt_append (pv 1) (pa_cons (pe_tup (pa_cons pe_str (pa_cons (pe_xfA hz hf (pv 0)) pa_nil))) pa_nil)))) pss_nil)
      (pss_cons (ps_if (pt_uK (K := K) rfl (pe_callB (call_isX hz hf) (by rfl) T.b_isinstance bt_isinstance (pa_cons (pv 0) (pa_cons (pe_gr T.g_BadDemand) pa_nil)))) (pss_one (ps_expr (pe_bmX (K := K) rfl PySem.F.plainAttrs_list PySem.F.slot_list_append PySem.F.type_list_append mt_append (pv 1) (pa_cons (pe_tup (pa_cons pe_str (pa_cons (pe_xfA hz hf (pv 0)) pa_nil))) pa_nil)))) pss_nil)
      (pss_cons (ps_if (pt_uK (K := K) rfl (pe_callB (call_isX hz hf) (by rfl) T.b_isinstance bt_isinstance (pa_cons (pv 0) (pa_cons (pe_tup (pa_cons (pe_gr T.g_BadText) (pa_cons (pe_gr T.g_BadSeason) (pa_cons (pe_gr T.g_BadCode) (pa_cons (pe_gr T.g_BadEvent) (pa_cons (pe_gr T.g_BadFoe) (pa_cons (pe_gr T.g_BadPaper) (pa_cons (pe_gr T.g_BadDisk) (pa_cons (pe_gr T.g_BadDeed) pa_nil))))))))) pa_nil)))) (pss_one ps_never) pss_nil)
      (pss_one (ps_ret (pe_ifExp (PW.pt (pw_and (pt_cmpR (op_uEqK (K := K) rfl hr.units) (pe_callB (call_uLenK (K := K) rfl) (by rfl) T.b_len bt_len (pa_cons (pv 1) pa_nil)) pe_int (nomark _)) (pw_and1 (pt_uK (K := K) rfl (pe_callB (call_isX hz hf) (by rfl) T.b_isinstance bt_isinstance (pa_cons (pv 0) (pa_cons (pe_bltn (v := .ty "ValueError") (by rfl) T.b_ValueError bt_ValueError rfl) pa_nil))))))) (pe_ix (ix_seqK (K := K) rfl) (pv 1) pe_int (fun _ _ => rfl)) (pe_tup (pa_cons pe_str pa_nil))))))))))), ?_⟩
    try dsimp only [cxOf, Cx.nox, Cx.wish]
    show (_ : TS) _ [some _, none] _
    o_readsAll
    rename_i q0 H1 fq0 e1 hq0 N1 hN1
    have hx1 := e1 _ _ hx
    refine g_isx xi hx1 (.own _) T.ki_BadTable_TooMany ?_
    o_readsAll
    refine g_isx xi hx1 (.own _) T.ki_BadTable_BadLadder ?_
    o_readsAll
    refine g_isx xi hx1 (.own _) T.ki_BadTable_BadTable ?_
    o_readsAll
    refine g_xfA xf T.n_BadTable_rung hx1 fld_hd ?_
    o_readsAll
    rename_i t1 H2 ft1 e2 ht1 N2 hN2
    have hq2 := e2 _ _ hq0
    have nt1 : t1 ≠ q0 := (ne_of_none hq0 ft1).symm
    have hdq : dd ≠ q0 := ne_of hx1 hq0 (by intro z; cases z)
    have hx2 : upd H2 q0 (.lst ([] ++ [V.ref t1])) dd = some (.xd [("rung", v)]) := by rw [upd_ne hdq]; exact e2 _ _ hx1
    refine g_isx xi hx2 (.own _) T.ki_BadTable_BadDemand ?_
    o_readsAll
    rename_i t2 H3 ft2 e3 ht2
    have hx3 : H3 dd = some (.xd [("rung", v)]) := e3 _ _ (by rw [upd_ne hdq]; exact e2 _ _ hx1)
    have ht3 : H3 t1 = some (.tup [.str "BadTable", v]) := e3 _ _ (by rw [upd_ne nt1]; exact ht1)
    have f3 : H3 q0 = some (.lst [.ref t1]) := e3 _ _ upd_same
    have s3 : Same H H3 := (Eg.Same.put (e1.trans e2) fq0).trans e3
    have nf1 : H t1 = none := e1.free ft1
    refine g_isxT xi hx3 ht2 (.cons (.own _) (.cons (.own _) (.cons (.own _) (.cons (.own _) (.cons (.own _) (.cons (.own _) (.cons (.own _) (.cons (.own _) .nil)))))))) T.ka_BadTable_0 ?_
    clear hq0 e1 e2 hq2 ht1
    o_readsAll
    refine brT (decide_eq_true rfl) ?_
    o_readsAll
    refine g_isx xi hx3 (.ty _) T.ki_BadTable_ValueError ?_
    o_readsAll
    exact k _ _ nf1 s3 ht3
  · skip
    have xi := T.xi_BadDemand
    have xf := T.x_BadDemand
    refine ⟨_, (pss_cons (ps_set (i := 1) sc_law_e_named.nd rfl (.inl rfl) (pe_lst pa_nil))
      (pss_cons (ps_if (pt_uK (K := K) rfl (pe_callB (call_isX hz hf) (by rfl) T.b_isinstance bt_isinstance (pa_cons (pv 0) (pa_cons (pe_gr T.g_TooMany) pa_nil)))) (pss_one (ps_expr (pe_bmX (K := K) rfl PySem.F.plainAttrs_list PySem.F.slot_list_append PySem.F.type_list_append mt_append (pv 1) (pa_cons (pe_tup (pa_cons pe_str (pa_cons (pe_xfA hz hf (pv 0)) pa_nil))) pa_nil)))) pss_nil)
      (pss_cons (ps_if (pt_uK (K := K) rfl (pe_callB (call_isX hz hf) (by rfl) T.b_isinstance bt_isinstance (pa_cons (pv 0) (pa_cons (pe_gr T.g_BadLadder) pa_nil)))) (pss_one (ps_expr (pe_bmX (K := K) rfl PySem.F.plainAttrs_list PySem.F.slot_list_append PySem.F.type_list_append mt_append (pv 1) (pa_cons (pe_tup (pa_cons pe_str (pa_cons (pe_xfA hz hf (pv 0)) pa_nil))) pa_nil)))) pss_nil)
      (pss_cons (ps_if (pt_uK (K := K) rfl (pe_callB (call_isX hz hf) (by rfl) T.b_isinstance bt_isinstance (pa_cons (pv 0) (pa_cons (pe_gr T.g_BadTable) pa_nil)))) (pss_one (ps_expr (pe_bmX (K := K) rfl PySem.F.plainAttrs_list PySem.F.slot_list_append PySem.F.type_list_append mt_append (pv 1) (pa_cons (pe_tup (pa_cons pe_str (pa_cons (pe_xfA hz hf (pv 0)) pa_nil))) pa_nil)))) pss_nil)
      (pss_cons (ps_if (pt_uK (K := K) rfl (pe_callB (call_isX hz hf) (by rfl) T.b_isinstance bt_isinstance (pa_cons (pv 0) (pa_cons (pe_gr T.g_BadDemand) pa_nil)))) (pss_one (ps_expr (pe_bmX (K := K) rfl PySem.F.plainAttrs_list PySem.F.slot_list_append PySem.F.type_list_append mt_append (pv 1) (pa_cons (pe_tup (pa_cons pe_str (pa_cons (pe_xfA hz hf (pv 0)) pa_nil))) pa_nil)))) pss_nil)
      (pss_cons (ps_if (pt_uK (K := K) rfl (pe_callB (call_isX hz hf) (by rfl) T.b_isinstance bt_isinstance (pa_cons (pv 0) (pa_cons (pe_tup (pa_cons (pe_gr T.g_BadText) (pa_cons (pe_gr T.g_BadSeason) (pa_cons (pe_gr T.g_BadCode) (pa_cons (pe_gr T.g_BadEvent) (pa_cons (pe_gr T.g_BadFoe) (pa_cons (pe_gr T.g_BadPaper) (pa_cons (pe_gr T.g_BadDisk) (pa_cons (pe_gr T.g_BadDeed) pa_nil))))))))) pa_nil)))) (pss_one ps_never) pss_nil)
      (pss_one (ps_ret (pe_ifExp (PW.pt (pw_and (pt_cmpR (op_uEqK (K := K) rfl hr.units) (pe_callB (call_uLenK (K := K) rfl) (by rfl) T.b_len bt_len (pa_cons (pv 1) pa_nil)) pe_int (nomark _)) (pw_and1 (pt_uK (K := K) rfl (pe_callB (call_isX hz hf) (by rfl) T.b_isinstance bt_isinstance (pa_cons (pv 0) (pa_cons (pe_bltn (v := .ty "ValueError") (by rfl) T.b_ValueError bt_ValueError rfl) pa_nil))))))) (pe_ix (ix_seqK (K := K) rfl) (pv 1) pe_int (fun _ _ => rfl)) (pe_tup (pa_cons pe_str pa_nil))))))))))), ?_⟩
    try dsimp only [cxOf, Cx.nox, Cx.wish]
    show (_ : TS) _ [some _, none] _
    o_readsAll
    rename_i q0 H1 fq0 e1 hq0 N1 hN1
    have hx1 := e1 _ _ hx
    refine g_isx xi hx1 (.own _) T.ki_BadDemand_TooMany ?_
    o_readsAll
    refine g_isx xi hx1 (.own _) T.ki_BadDemand_BadLadder ?_
    o_readsAll
    refine g_isx xi hx1 (.own _) T.ki_BadDemand_BadTable ?_
    o_readsAll
    refine g_isx xi hx1 (.own _) T.ki_BadDemand_BadDemand ?_
    o_readsAll
    refine g_xfA xf T.n_BadDemand_what hx1 fld_hd ?_
    o_readsAll
    rename_i t1 H2 ft1 e2 ht1 N2 hN2 t2 H3 ft2 e3 ht2
    have hq2 := e2 _ _ hq0
    have nt1 : t1 ≠ q0 := (ne_of_none hq0 ft1).symm
    have hdq : dd ≠ q0 := ne_of hx1 hq0 (by intro z; cases z)
    have hx3 : H3 dd = some (.xd [("what", v)]) := e3 _ _ (by rw [upd_ne hdq]; exact e2 _ _ hx1)
    have ht3 : H3 t1 = some (.tup [.str "BadDemand", v]) := e3 _ _ (by rw [upd_ne nt1]; exact ht1)
    have f3 : H3 q0 = some (.lst [.ref t1]) := e3 _ _ upd_same
    have s3 : Same H H3 := (Eg.Same.put (e1.trans e2) fq0).trans e3
    have nf1 : H t1 = none := e1.free ft1
    refine g_isxT xi hx3 ht2 (.cons (.own _) (.cons (.own _) (.cons (.own _) (.cons (.own _) (.cons (.own _) (.cons (.own _) (.cons (.own _) (.cons (.own _) .nil)))))))) T.ka_BadDemand_0 ?_
    clear hq0 e1 e2 hq2 ht1
    o_readsAll
    refine brT (decide_eq_true rfl) ?_
    o_readsAll
    refine g_isx xi hx3 (.ty _) T.ki_BadDemand_ValueError ?_
    o_readsAll
    exact k _ _ nf1 s3 ht3
/-- the answer of a call, or its refusal -/
def sp_asked (Z : Ad) : (XK → Hp → VK → Prop) → Sp := fun tl vs H Q _ => vs = [] ∧ ∃ (Re : Str → V → Hp → Prop) (Ro : V → Hp → Prop), (∀ E1 Q1, (∀ nm C f d v H1, ErrC Z nm C f → H1 d = some (.xd [(f, v)]) → Re nm v H1 → E1 (.ref C) (some d) H1) → (∀ v H1, Ro v H1 → Q1 v H1) → tl E1 H Q1) ∧
  (∀ nm v H1, Re nm v H1 → ∀ p H2, H1 p = none → Same H1 H2 → H2 p = some (.tup [.str nm, v]) → Q (.ref p) H2) ∧ (∀ v H1, Ro v H1 → ∀ p H2, H1 p = none → Same H1 H2 → H2 p = some (.tup [.str "told", v]) → Q (.ref p) H2)
theorem c_named {cls : Value} {a dd C : Addr} {nm f : Str} {v : V} {H : Hp} {Q : VK} {E : XK} (e : cls = .ref C) (ec : ErrC Z nm C f) (h : H dd = some (.xd [(f, v)])) (k : ∀ p H', H p = none → Same H H' → H' p = some (.tup [.str nm, v]) → Q (.ref p) H') : sp_named Z cls (some dd) [.ref a] H Q E := ⟨a, dd, C, nm, f, v, rfl, e, rfl, ec, h, k⟩
theorem exm_wins (T : Txt K w mg Z) {nm f : Str} {C : Addr} (e : ErrC Z nm C f) : PySem.W.exmOne K (.ref C) (.ref Z.a_WinsError) = some true := by
  rcases e with ⟨-, rfl, -⟩ | ⟨-, rfl, -⟩ | ⟨-, rfl, -⟩ | ⟨-, rfl, -⟩
  · exact T.mm_TooMany_WinsError
  · exact T.mm_BadLadder_WinsError
  · exact T.mm_BadTable_WinsError
  · exact T.mm_BadDemand_WinsError
theorem d_law_e_asked (T : Txt K w mg Z) : DfnL P w K mg base 10 9 "_law_e_asked" ["call"] (sp_asked Z) := by
  obtain ⟨f, fd, F, hm, hb⟩ := T.f_law_e_asked
  refine ⟨f, fd, okL F sc_law_e_asked (fun tl vs H Q E h => by first | (obtain ⟨rfl, _⟩ := h; rfl) | (obtain ⟨_, rfl, _⟩ := h; rfl) | (obtain ⟨_, _, rfl, _⟩ := h; rfl) | (obtain ⟨_, _, _, rfl, _⟩ := h; rfl) | (obtain ⟨_, _, _, _, rfl, _⟩ := h; rfl) | (obtain ⟨_, _, _, _, _, rfl, _⟩ := h; rfl) | (obtain ⟨_, _, _, _, _, _, rfl, _⟩ := h; rfl) | (obtain ⟨_, _, _, _, _, _, _, rfl, _⟩ := h; rfl) | (obtain ⟨_, _, _, _, _, _, _, _, rfl, _⟩ := h; rfl) | (obtain ⟨_, _, _, _, _, _, _, _, _, rfl, _⟩ := h; rfl) | (obtain ⟨_, _, _, _, _, _, _, _, _, _, rfl, _⟩ := h; rfl) | (obtain ⟨_, _, _, _, _, _, _, _, _, _, _, rfl, _⟩ := h; rfl) | (obtain ⟨_, _, _, _, _, _, _, _, _, _, _, _, rfl, _⟩ := h; rfl) | (obtain ⟨_, _, _, _, _, _, _, _, _, _, _, _, _, rfl, _⟩ := h; rfl) | (obtain ⟨_, _, _, _, _, _, _, _, _, _, _, _, _, _, rfl, _⟩ := h; rfl) | (obtain ⟨_, _, _, _, _, _, _, _, _, _, _, _, _, _, _, rfl, _⟩ := h; rfl) | (obtain ⟨_, _, _, _, _, _, _, _, _, _, _, _, _, _, _, _, rfl, _⟩ := h; rfl)) (fun cdv A outer s H vs Q f tl hr hL h => ?_), hm, F.kp, hb⟩
  obtain ⟨rfl, Re, Ro, k1, k2, k3⟩ := h
  have Q_law_e_named := d_law_e_named (P := P) (base := base) T
  refine ⟨_, (pss_cons (ps_try_as (i := 2) (Wout := fun _ _ _ _ => False) rfl rfl sc_law_e_asked.nd rfl rfl ⟨rfl, by decide, Or.inl T.g_WinsError⟩ takes0 (fun W pn xe tk _ => (pss_one (ps_set (i := 1) sc_law_e_asked.nd rfl (.inl rfl) (pe_lamc (i := 0) hL rfl (hr.mono (by decide)) tk)))) (fun a oe cls d pn hz hf => (pss_one (ps_ret (pe_dfnE (i := 2) Q_law_e_named (L2H.roomH_mark (hr.mono (by decide)) _) hz hf (by rfl))))))
      (pss_one (ps_ret (pe_tup (pa_cons pe_str (pa_cons (pv 1) pa_nil)))))), ?_⟩
  try dsimp only [cxOf, Cx.nox, Cx.wish]
  show (_ : TS) _ [some _, none, none] _
  o_readsAll
  refine k1 _ _ (fun nm C f' d v H1 ec hd re => ?_) (fun v H1 ro => ?_)
  · refine g_wAs (exm_wins T ec) fun a ha => ?_
    o_readsAll
    refine c_named rfl ec hd fun p H2 fp e2 hp => ?_
    exact k2 nm v H1 re p H2 fp e2 hp
  · o_readsAll
    exact k3 v H1 ro _ _ (by assumption) (by assumption) (by assumption)
/-- a call that is refused by just this error -/
def sp_refused (Z : Ad) : (XK → Hp → VK → Prop) → Sp := fun tl vs H Q _ => ∃ (due C : Addr) (nm f : Str) (v : V), vs = [.ref due] ∧ ErrC Z nm C f ∧ Flat v ∧ H due = some (.tup [.str nm, v]) ∧ (∀ E1 Q1, (∀ d H1, Same H H1 → H1 d = some (.xd [(f, v)]) → E1 (.ref C) (some d) H1) → tl E1 H Q1) ∧ ∀ H', Same H H' → Q (.bl true) H'
theorem c_asked {tl : XK → Hp → VK → Prop} {H : Hp} {Q : VK} {E : XK} (Re : Str → V → Hp → Prop) (Ro : V → Hp → Prop) (k1 : ∀ E1 Q1, (∀ nm C f d v H1, ErrC Z nm C f → H1 d = some (.xd [(f, v)]) → Re nm v H1 → E1 (.ref C) (some d) H1) → (∀ v H1, Ro v H1 → Q1 v H1) → tl E1 H Q1)
    (k2 : ∀ nm v H1, Re nm v H1 → ∀ p H2, H1 p = none → Same H1 H2 → H2 p = some (.tup [.str nm, v]) → Q (.ref p) H2) (k3 : ∀ v H1, Ro v H1 → ∀ p H2, H1 p = none → Same H1 H2 → H2 p = some (.tup [.str "told", v]) → Q (.ref p) H2) : sp_asked Z tl [] H Q E := ⟨rfl, Re, Ro, k1, k2, k3⟩
theorem nm_told {nm f : Str} {C : Addr} (e : ErrC Z nm C f) : nm ≠ ("told" : Str) := by
  rcases e with ⟨rfl, -, -⟩ | ⟨rfl, -, -⟩ | ⟨rfl, -, -⟩ | ⟨rfl, -, -⟩ <;> decide +kernel
theorem d_law_e_refused (T : Txt K w mg Z) : DfnL P w K mg base 11 9 "_law_e_refused" ["call", "due"] (sp_refused Z) := by
  obtain ⟨f, fd, F, hm, hb⟩ := T.f_law_e_refused
  refine ⟨f, fd, okL F sc_law_e_refused (fun tl vs H Q E h => by first | (obtain ⟨rfl, _⟩ := h; rfl) | (obtain ⟨_, rfl, _⟩ := h; rfl) | (obtain ⟨_, _, rfl, _⟩ := h; rfl) | (obtain ⟨_, _, _, rfl, _⟩ := h; rfl) | (obtain ⟨_, _, _, _, rfl, _⟩ := h; rfl) | (obtain ⟨_, _, _, _, _, rfl, _⟩ := h; rfl) | (obtain ⟨_, _, _, _, _, _, rfl, _⟩ := h; rfl) | (obtain ⟨_, _, _, _, _, _, _, rfl, _⟩ := h; rfl) | (obtain ⟨_, _, _, _, _, _, _, _, rfl, _⟩ := h; rfl) | (obtain ⟨_, _, _, _, _, _, _, _, _, rfl, _⟩ := h; rfl) | (obtain ⟨_, _, _, _, _, _, _, _, _, _, rfl, _⟩ := h; rfl) | (obtain ⟨_, _, _, _, _, _, _, _, _, _, _, rfl, _⟩ := h; rfl) | (obtain ⟨_, _, _, _, _, _, _, _, _, _, _, _, rfl, _⟩ := h; rfl) | (obtain ⟨_, _, _, _, _, _, _, _, _, _, _, _, _, rfl, _⟩ := h; rfl) | (obtain ⟨_, _, _, _, _, _, _, _, _, _, _, _, _, _, rfl, _⟩ := h; rfl) | (obtain ⟨_, _, _, _, _, _, _, _, _, _, _, _, _, _, _, rfl, _⟩ := h; rfl) | (obtain ⟨_, _, _, _, _, _, _, _, _, _, _, _, _, _, _, _, rfl, _⟩ := h; rfl)) (fun cdv A outer s H vs Q f tl hr hL h => ?_), hm, F.kp, hb⟩
  obtain ⟨due, C, nm, f', v, rfl, ec, fv, hdue, k1, k2⟩ := h
  have D_law_e_asked := d_law_e_asked (P := P) (base := base) T
  have D_law_matches := d_law_matches (P := P) (base := base) T
  refine ⟨_, (pss_cons (ps_set (i := 2) sc_law_e_refused.nd rfl (.inl rfl) (pe_fwd (i := 0) D_law_e_asked hL rfl rfl rfl (hr.mono (by decide)) (by rfl) pa_nil))
      (pss_one (ps_ret (pe_and (pe_cmpR (op_uNe hr.units) (pe_ix ix_seq (pv 2) pe_int (fun _ _ => rfl)) pe_str (nomark _)) (pe_one (pe_dfn (D_law_matches 2) (hr.mono (by decide)) (by rfl) (pa_cons (pv 2) (pa_cons (pv 1) pa_nil)))))))), ?_⟩
  try dsimp only [cxOf, Cx.nox, Cx.wish]
  show (_ : TS) _ [some _, some _, none] _
  o_readsAll
  refine c_asked (fun nm' v' H1 => nm' = nm ∧ v' = v ∧ Same H H1) (fun _ _ => False) (fun E1 Q1 h1 h2 => k1 E1 Q1 fun d H1 e1 hd => h1 nm C f' d v H1 ec hd ⟨rfl, rfl, e1⟩) (fun nm' v' H1 hre p H2 fp e2 hp => ?_) fun _ _ h => h.elim
  obtain ⟨rfl, rfl, e1⟩ := hre
  o_readsAll
  refine brT (by rw [decide_eq_false (nm_told ec)]; rfl) ?_
  o_readsAll
  refine c_mat (alk_tup (m := 0) hp (e2 _ _ (e1 _ _ hdue)) (by simp) (fun u hu => ?_)) fun H3 e3 => ?_
  · simp only [List.mem_cons, List.not_mem_nil, or_false] at hu
    rcases hu with rfl | rfl
    · trivial
    · exact fv
  · exact k2 _ ((e1.trans e2).trans e3)
/-- a call that is answered -/
def sp_let : (XK → Hp → VK → Prop) → Sp := fun tl vs H Q _ => vs = [] ∧ (∀ E1 Q1, (∀ v H1, Same H H1 → Q1 v H1) → tl E1 H Q1) ∧ ∀ H', Same H H' → Q (.bl true) H'
theorem c_refused {tl : XK → Hp → VK → Prop} {due C : Addr} {nm f : Str} {v : V} {H : Hp} {Q : VK} {E : XK} (ec : ErrC Z nm C f) (fv : Flat v) (hd : H due = some (.tup [.str nm, v])) (h : ∀ E1 Q1, (∀ d H1, Same H H1 → H1 d = some (.xd [(f, v)]) → E1 (.ref C) (some d) H1) → tl E1 H Q1) (k : ∀ H', Same H H' → Q (.bl true) H') : sp_refused Z tl [.ref due] H Q E := ⟨due, C, nm, f, v, rfl, ec, fv, hd, h, k⟩
theorem c_let {tl : XK → Hp → VK → Prop} {H : Hp} {Q : VK} {E : XK} (h : ∀ E1 Q1, (∀ v H1, Same H H1 → Q1 v H1) → tl E1 H Q1) (k : ∀ H', Same H H' → Q (.bl true) H') : sp_let tl [] H Q E := ⟨rfl, h, k⟩
end
end L31

namespace L31
set_option exponentiation.threshold 2000
open SX Ld
section
variable {P : Program} {w : World} {K : PySem.W.Frag} {mg : Str → Option Value} {base : Heap} {Z : Ad}
theorem cutV_upto (xs : List V) (m : Nat) (h : m ≤ xs.length) : cutV xs none (some (m : Int)) = xs.take m := by
  unfold cutV
  rw [HT.sIx_none, List.drop_zero, Nat.sub_zero, HT.sIx_nat, Nat.min_eq_left h]
theorem rng_upto {n m : Nat} {f : Nat → Int} (h : m ≤ n) : cutV (rng n f) none (some (m : Int)) = rng m f := by
  rw [cutV_upto _ _ (by rw [rng_len]; exact h)]
  apply List.ext_getElem?
  intro i
  by_cases hi : i < m
  · rw [List.getElem?_take_of_lt hi, rng_at hi, rng_at (by omega)]
  · rw [List.getElem?_eq_none (by rw [List.length_take]; omega), List.getElem?_eq_none (by rw [rng_len]; omega)]
theorem LadAt.ext {C : Addr} {H H' : Hp} {l : Addr} {L : Int} {n : Nat} {fs : Nat → Int} {ret : Bool} (h : LadAt C H l L n fs ret) (e : LamX.ExtN H H') : LadAt C H' l L n fs ret := by
  obtain ⟨dx, fl, lt, hl, wl, ps, a, b, c, d, f, g, i⟩ := h
  exact ⟨dx, fl, lt, hl, wl, ps, e _ _ a (fun _ z => nomatch z), e _ _ b (fun _ z => nomatch z), e _ _ c (fun _ z => nomatch z), d, fun j q hq => e _ _ (f j q hq) (fun _ z => nomatch z), e _ _ g (fun _ z => nomatch z), e _ _ i (fun _ z => nomatch z)⟩
/-- a refusal told by its number -/
abbrev RaiseI (C : Addr) (f : Str) (v : V) (H : Hp) (E : XK) : Prop := ∀ d H', H d = none → Same H H' → H' d = some (.xd [(f, v)]) → E (.ref C) (some d) H'
def sp_crung (C CB : Addr) : Sp := fun vs H Q E => ∃ (l : Addr) (a L : Int) (n : Nat) (fs : Nat → Int) (ret : Bool), vs = [.ref l, .int a] ∧ LadAt C H l L n fs ret ∧ (0 ≤ a → a < n → Q .non H) ∧ (¬ (0 ≤ a ∧ a < n) → RaiseI CB "rung" (.int a) H E)
theorem d_Ladder_check_rung (T : Txt K w mg Z) : MthX P w K mg base 3 Z.a_Ladder "check_rung" ["self", "rung"] (sp_crung Z.a_Ladder Z.a_BadLadder) := by
  obtain ⟨f, fd, F, hm, hb⟩ := T.f_Ladder_check_rung
  refine ⟨⟨f, fd, F.okX sc_Ladder_check_rung (fun vs H Q E h => by first | (obtain ⟨rfl, _⟩ := h; rfl) | (obtain ⟨_, rfl, _⟩ := h; rfl) | (obtain ⟨_, _, rfl, _⟩ := h; rfl) | (obtain ⟨_, _, _, rfl, _⟩ := h; rfl) | (obtain ⟨_, _, _, _, rfl, _⟩ := h; rfl) | (obtain ⟨_, _, _, _, _, rfl, _⟩ := h; rfl) | (obtain ⟨_, _, _, _, _, _, rfl, _⟩ := h; rfl) | (obtain ⟨_, _, _, _, _, _, _, rfl, _⟩ := h; rfl) | (obtain ⟨_, _, _, _, _, _, _, _, rfl, _⟩ := h; rfl) | (obtain ⟨_, _, _, _, _, _, _, _, _, rfl, _⟩ := h; rfl) | (obtain ⟨_, _, _, _, _, _, _, _, _, _, rfl, _⟩ := h; rfl) | (obtain ⟨_, _, _, _, _, _, _, _, _, _, _, rfl, _⟩ := h; rfl) | (obtain ⟨_, _, _, _, _, _, _, _, _, _, _, _, rfl, _⟩ := h; rfl) | (obtain ⟨_, _, _, _, _, _, _, _, _, _, _, _, _, rfl, _⟩ := h; rfl) | (obtain ⟨_, _, _, _, _, _, _, _, _, _, _, _, _, _, rfl, _⟩ := h; rfl) | (obtain ⟨_, _, _, _, _, _, _, _, _, _, _, _, _, _, _, rfl, _⟩ := h; rfl) | (obtain ⟨_, _, _, _, _, _, _, _, _, _, _, _, _, _, _, _, rfl, _⟩ := h; rfl)) (fun cdv A outer s H vs Q E hr h => ?_), hm, hb⟩, T.l_Ladder⟩
  obtain ⟨l, a, L, n, fs, ret, rfl, ⟨dx, fl, lt, hl, wl, ps, h1, h2, h3, h4, h5, h6, h7⟩, k1, k2⟩ := h
  unfold IL at h2
  have D_BadLadder_init := d_BadLadder_init (P := P) (base := base) T
  have l_Ladder := T.l_Ladder
  have n_Ladder_falls_list := T.n_Ladder_falls_list
  refine ⟨_, (pss_one (ps_if (pt_not (pt_chain op_le op_lt pe_int (pv 1) (pe_callB call_uLen (by rfl) T.b_len bt_len (pa_cons (pe_fld (pv 0) rfl) pa_nil)))) (pss_one (ps_rs (takes_of rfl rfl rfl rfl) (pmk_iex D_BadLadder_init (hr.mono (by decide)) (by rfl) (pa_cons (pv 1) pa_nil)) rfl)) pss_nil)), ?_⟩
  try dsimp only [cxOf, Cx.nox, Cx.wish]
  show (_ : TS) _ [some _, some _] _
  o_readsAll
  refine ⟨_, rfl, ?_⟩
  refine br (fun hh1 => ?_) (fun hh1 => ?_)
  · o_readsAll
    rw [rng_len]
    refine brn (fun hh2 => ?_) (fun hh2 => ?_)
    · o_readsAll
      refine c_raise fun d H1 fd e1 hd => ?_
      exact k2 (fun z => hh2 z.2) d H1 fd e1 hd
    · o_readsAll
      exact k1 hh1 hh2
  · o_readsAll
    refine c_raise fun d H1 fd e1 hd => ?_
    exact k2 (fun z => hh1 z.1) d H1 fd e1 hd
theorem c_crung {C CB l : Addr} {a L : Int} {n : Nat} {fs : Nat → Int} {ret : Bool} {H : Hp} {Q : VK} {E : XK} (h : LadAt C H l L n fs ret) (k1 : 0 ≤ a → a < n → Q .non H) (k2 : ¬ (0 ≤ a ∧ a < n) → RaiseI CB "rung" (.int a) H E) : sp_crung C CB [.ref l, .int a] H Q E := ⟨l, a, L, n, fs, ret, rfl, h, k1, k2⟩
def sp_cplc (C CB : Addr) : Sp := fun vs H Q E => ∃ (l : Addr) (a L : Int) (n : Nat) (fs : Nat → Int) (ret : Bool), vs = [.ref l, .int a] ∧ LadAt C H l L n fs ret ∧ (-1 ≤ a → a ≤ n → Q .non H) ∧ (¬ (-1 ≤ a ∧ a ≤ n) → RaiseI CB "rung" (.int a) H E)
theorem d_Ladder_check_place (T : Txt K w mg Z) : MthX P w K mg base 3 Z.a_Ladder "check_place" ["self", "place"] (sp_cplc Z.a_Ladder Z.a_BadLadder) := by
  obtain ⟨f, fd, F, hm, hb⟩ := T.f_Ladder_check_place
  refine ⟨⟨f, fd, F.okX sc_Ladder_check_place (fun vs H Q E h => by first | (obtain ⟨rfl, _⟩ := h; rfl) | (obtain ⟨_, rfl, _⟩ := h; rfl) | (obtain ⟨_, _, rfl, _⟩ := h; rfl) | (obtain ⟨_, _, _, rfl, _⟩ := h; rfl) | (obtain ⟨_, _, _, _, rfl, _⟩ := h; rfl) | (obtain ⟨_, _, _, _, _, rfl, _⟩ := h; rfl) | (obtain ⟨_, _, _, _, _, _, rfl, _⟩ := h; rfl) | (obtain ⟨_, _, _, _, _, _, _, rfl, _⟩ := h; rfl) | (obtain ⟨_, _, _, _, _, _, _, _, rfl, _⟩ := h; rfl) | (obtain ⟨_, _, _, _, _, _, _, _, _, rfl, _⟩ := h; rfl) | (obtain ⟨_, _, _, _, _, _, _, _, _, _, rfl, _⟩ := h; rfl) | (obtain ⟨_, _, _, _, _, _, _, _, _, _, _, rfl, _⟩ := h; rfl) | (obtain ⟨_, _, _, _, _, _, _, _, _, _, _, _, rfl, _⟩ := h; rfl) | (obtain ⟨_, _, _, _, _, _, _, _, _, _, _, _, _, rfl, _⟩ := h; rfl) | (obtain ⟨_, _, _, _, _, _, _, _, _, _, _, _, _, _, rfl, _⟩ := h; rfl) | (obtain ⟨_, _, _, _, _, _, _, _, _, _, _, _, _, _, _, rfl, _⟩ := h; rfl) | (obtain ⟨_, _, _, _, _, _, _, _, _, _, _, _, _, _, _, _, rfl, _⟩ := h; rfl)) (fun cdv A outer s H vs Q E hr h => ?_), hm, hb⟩, T.l_Ladder⟩
  obtain ⟨l, a, L, n, fs, ret, rfl, ⟨dx, fl, lt, hl, wl, ps, h1, h2, h3, h4, h5, h6, h7⟩, k1, k2⟩ := h
  unfold IL at h2
  have D_BadLadder_init := d_BadLadder_init (P := P) (base := base) T
  have l_Ladder := T.l_Ladder
  have n_Ladder_falls_list := T.n_Ladder_falls_list
  refine ⟨_, (pss_one (ps_if (pt_not (pt_chain op_le op_le (pe_gi T.c_OUT) (pv 1) (pe_callB call_uLen (by rfl) T.b_len bt_len (pa_cons (pe_fld (pv 0) rfl) pa_nil)))) (pss_one (ps_rs (takes_of rfl rfl rfl rfl) (pmk_iex D_BadLadder_init (hr.mono (by decide)) (by rfl) (pa_cons (pv 1) pa_nil)) rfl)) pss_nil)), ?_⟩
  try dsimp only [cxOf, Cx.nox, Cx.wish]
  show (_ : TS) _ [some _, some _] _
  o_readsAll
  refine ⟨_, rfl, ?_⟩
  refine br (fun hh1 => ?_) (fun hh1 => ?_)
  · o_readsAll
    rw [rng_len]
    refine brn (fun hh2 => ?_) (fun hh2 => ?_)
    · o_readsAll
      refine c_raise fun d H1 fd e1 hd => ?_
      exact k2 (fun z => hh2 z.2) d H1 fd e1 hd
    · o_readsAll
      exact k1 hh1 hh2
  · o_readsAll
    refine c_raise fun d H1 fd e1 hd => ?_
    exact k2 (fun z => hh1 z.1) d H1 fd e1 hd
theorem c_cplc {C CB l : Addr} {a L : Int} {n : Nat} {fs : Nat → Int} {ret : Bool} {H : Hp} {Q : VK} {E : XK} (h : LadAt C H l L n fs ret) (k1 : -1 ≤ a → a ≤ n → Q .non H) (k2 : ¬ (-1 ≤ a ∧ a ≤ n) → RaiseI CB "rung" (.int a) H E) : sp_cplc C CB [.ref l, .int a] H Q E := ⟨l, a, L, n, fs, ret, rfl, h, k1, k2⟩
def sp_lfalls (C : Addr) : Sp := fun vs H Q _ => ∃ (l : Addr) (L : Int) (n : Nat) (fs : Nat → Int) (ret : Bool), vs = [.ref l] ∧ LadAt C H l L n fs ret ∧ ∀ p H', H p = none → Same H H' → IL H' p n fs → Q (.ref p) H'
theorem d_Ladder_falls (T : Txt K w mg Z) : Mth P w K mg base 1 Z.a_Ladder "falls" ["self"] (sp_lfalls Z.a_Ladder) := by
  obtain ⟨f, fd, F, hm, hb⟩ := T.f_Ladder_falls
  refine ⟨⟨f, fd, F.ok sc_Ladder_falls (fun vs H Q E h => by first | (obtain ⟨rfl, _⟩ := h; rfl) | (obtain ⟨_, rfl, _⟩ := h; rfl) | (obtain ⟨_, _, rfl, _⟩ := h; rfl) | (obtain ⟨_, _, _, rfl, _⟩ := h; rfl) | (obtain ⟨_, _, _, _, rfl, _⟩ := h; rfl) | (obtain ⟨_, _, _, _, _, rfl, _⟩ := h; rfl) | (obtain ⟨_, _, _, _, _, _, rfl, _⟩ := h; rfl) | (obtain ⟨_, _, _, _, _, _, _, rfl, _⟩ := h; rfl) | (obtain ⟨_, _, _, _, _, _, _, _, rfl, _⟩ := h; rfl) | (obtain ⟨_, _, _, _, _, _, _, _, _, rfl, _⟩ := h; rfl) | (obtain ⟨_, _, _, _, _, _, _, _, _, _, rfl, _⟩ := h; rfl) | (obtain ⟨_, _, _, _, _, _, _, _, _, _, _, rfl, _⟩ := h; rfl) | (obtain ⟨_, _, _, _, _, _, _, _, _, _, _, _, rfl, _⟩ := h; rfl) | (obtain ⟨_, _, _, _, _, _, _, _, _, _, _, _, _, rfl, _⟩ := h; rfl) | (obtain ⟨_, _, _, _, _, _, _, _, _, _, _, _, _, _, rfl, _⟩ := h; rfl) | (obtain ⟨_, _, _, _, _, _, _, _, _, _, _, _, _, _, _, rfl, _⟩ := h; rfl) | (obtain ⟨_, _, _, _, _, _, _, _, _, _, _, _, _, _, _, _, rfl, _⟩ := h; rfl)) (fun cdv A outer s H vs Q E hr h => ?_), hm, hb⟩, T.l_Ladder⟩
  obtain ⟨l, L, n, fs, ret, rfl, ⟨dx, fl, lt, hl, wl, ps, h1, h2, h3, h4, h5, h6, h7⟩, k⟩ := h
  unfold IL at h2
  have l_Ladder := T.l_Ladder
  have n_Ladder_falls_list := T.n_Ladder_falls_list
  refine ⟨_, (pss_one (ps_ret (pe_callTy call_uList (by rfl) T.b_list bt_list (pa_cons (pe_fld (pv 0) rfl) pa_nil)))), ?_⟩
  try dsimp only [cxOf, Cx.nox, Cx.wish]
  show (_ : TS) _ [some _] _
  o_readsAll
  exact k _ _ (by assumption) (by assumption) (by assumption)
theorem c_lfalls {C l : Addr} {L : Int} {n : Nat} {fs : Nat → Int} {ret : Bool} {H : Hp} {Q : VK} {E : XK} (h : LadAt C H l L n fs ret) (k : ∀ p H', H p = none → Same H H' → IL H' p n fs → Q (.ref p) H') : sp_lfalls C [.ref l] H Q E := ⟨l, L, n, fs, ret, rfl, h, k⟩
def sp_lfall (C CB : Addr) : Sp := fun vs H Q E => ∃ (l : Addr) (a L : Int) (n : Nat) (fs : Nat → Int) (ret : Bool), vs = [.ref l, .int a] ∧ LadAt C H l L n fs ret ∧ (∀ a' : Nat, a = a' → a' < n → Q (.int (fs a')) H) ∧ (¬ (0 ≤ a ∧ a < n) → RaiseI CB "rung" (.int a) H E)
theorem d_Ladder_fall (T : Txt K w mg Z) : MthX P w K mg base 4 Z.a_Ladder "fall" ["self", "a"] (sp_lfall Z.a_Ladder Z.a_BadLadder) := by
  obtain ⟨f, fd, F, hm, hb⟩ := T.f_Ladder_fall
  refine ⟨⟨f, fd, F.okX sc_Ladder_fall (fun vs H Q E h => by first | (obtain ⟨rfl, _⟩ := h; rfl) | (obtain ⟨_, rfl, _⟩ := h; rfl) | (obtain ⟨_, _, rfl, _⟩ := h; rfl) | (obtain ⟨_, _, _, rfl, _⟩ := h; rfl) | (obtain ⟨_, _, _, _, rfl, _⟩ := h; rfl) | (obtain ⟨_, _, _, _, _, rfl, _⟩ := h; rfl) | (obtain ⟨_, _, _, _, _, _, rfl, _⟩ := h; rfl) | (obtain ⟨_, _, _, _, _, _, _, rfl, _⟩ := h; rfl) | (obtain ⟨_, _, _, _, _, _, _, _, rfl, _⟩ := h; rfl) | (obtain ⟨_, _, _, _, _, _, _, _, _, rfl, _⟩ := h; rfl) | (obtain ⟨_, _, _, _, _, _, _, _, _, _, rfl, _⟩ := h; rfl) | (obtain ⟨_, _, _, _, _, _, _, _, _, _, _, rfl, _⟩ := h; rfl) | (obtain ⟨_, _, _, _, _, _, _, _, _, _, _, _, rfl, _⟩ := h; rfl) | (obtain ⟨_, _, _, _, _, _, _, _, _, _, _, _, _, rfl, _⟩ := h; rfl) | (obtain ⟨_, _, _, _, _, _, _, _, _, _, _, _, _, _, rfl, _⟩ := h; rfl) | (obtain ⟨_, _, _, _, _, _, _, _, _, _, _, _, _, _, _, rfl, _⟩ := h; rfl) | (obtain ⟨_, _, _, _, _, _, _, _, _, _, _, _, _, _, _, _, rfl, _⟩ := h; rfl)) (fun cdv A outer s H vs Q E hr h => ?_), hm, hb⟩, T.l_Ladder⟩
  obtain ⟨l, a, L, n, fs, ret, rfl, hL, k1, k2⟩ := h
  have hL' := hL
  obtain ⟨dx, fl, lt, hl, wl, ps, h1, h2, h3, h4, h5, h6, h7⟩ := hL'
  have D_Ladder_check_rung := d_Ladder_check_rung (P := P) (base := base) T
  have l_Ladder := T.l_Ladder
  have n_Ladder_falls_list := T.n_Ladder_falls_list
  refine ⟨_, (pss_cons (ps_expr (pe_mthS D_Ladder_check_rung (hr.mono (by decide)) (takes_of rfl rfl rfl rfl) (pv 0) (pa_cons (pv 1) pa_nil)))
      (pss_one (ps_ret (pe_ix ix_seq (pe_fld (pv 0) rfl) (pv 1) (fun _ _ => rfl))))), ?_⟩
  try dsimp only [cxOf, Cx.nox, Cx.wish]
  show (_ : TS) _ [some _, some _] _
  o_readsAll
  refine c_crung hL (fun a0 a1 => ?_) k2
  obtain ⟨a, rfl⟩ : ∃ a' : Nat, a = a' := ⟨a.toNat, by omega⟩
  o_readsAll
  refine g_ixL h2.sq (atI_nat (rng_at (by omega))) ?_
  exact k1 a rfl (by omega)
theorem c_lfall {C CB l : Addr} {a : Nat} {L : Int} {n : Nat} {fs : Nat → Int} {ret : Bool} {H : Hp} {Q : VK} {E : XK} (h : LadAt C H l L n fs ret) (ha : a < n) (k : Q (.int (fs a)) H) : sp_lfall C CB [.ref l, .int (a : Int)] H Q E := ⟨l, a, L, n, fs, ret, rfl, h, fun a' e _ => (show a = a' by omega) ▸ k, fun h => absurd ⟨by omega, by omega⟩ h⟩
def sp_lval (C CB : Addr) (v : Int → (Nat → Int) → Nat → Int) : Sp := fun vs H Q E => ∃ (l : Addr) (b L : Int) (n : Nat) (fs : Nat → Int) (ret : Bool), vs = [.ref l, .int b] ∧ LadAt C H l L n fs ret ∧ (b = -1 → Q (.int 0) H) ∧ (∀ b' : Nat, b = b' → b' ≤ n → Q (.int (v L fs b')) H) ∧ (¬ (-1 ≤ b ∧ b ≤ n) → RaiseI CB "rung" (.int b) H E)
theorem c_lval {C CB l : Addr} {b : Nat} {L : Int} {n : Nat} {fs : Nat → Int} {ret : Bool} {v : Int → (Nat → Int) → Nat → Int} {H : Hp} {Q : VK} {E : XK} (h : LadAt C H l L n fs ret) (hb : b ≤ n) (k : Q (.int (v L fs b)) H) : sp_lval C CB v [.ref l, .int (b : Int)] H Q E := ⟨l, b, L, n, fs, ret, rfl, h, fun h => absurd h (by omega), fun b' e _ => (show b = b' by omega) ▸ k, fun h => absurd ⟨by omega, by omega⟩ h⟩
def sp_lload (C CB : Addr) : Sp := fun vs H Q E => ∃ (l : Addr) (a b L : Int) (n : Nat) (fs : Nat → Int) (ret : Bool), vs = [.ref l, .int a, .int b] ∧ LadAt C H l L n fs ret ∧ (0 ≤ a → a < n → b = -1 → Q (.int 0) H) ∧ (∀ a' b' : Nat, a = a' → b = b' → a' < n → b' ≤ n → Q (.int (ld L fs a' b')) H) ∧ (¬ (0 ≤ a ∧ a < n) → RaiseI CB "rung" (.int a) H E) ∧ (0 ≤ a → a < n → ¬ (-1 ≤ b ∧ b ≤ n) → RaiseI CB "rung" (.int b) H E)
theorem d_Ladder_load (T : Txt K w mg Z) : MthX P w K mg base 4 Z.a_Ladder "load" ["self", "a", "b"] (sp_lload Z.a_Ladder Z.a_BadLadder) := by
  obtain ⟨f, fd, F, hm, hb⟩ := T.f_Ladder_load
  refine ⟨⟨f, fd, F.okX sc_Ladder_load (fun vs H Q E h => by first | (obtain ⟨rfl, _⟩ := h; rfl) | (obtain ⟨_, rfl, _⟩ := h; rfl) | (obtain ⟨_, _, rfl, _⟩ := h; rfl) | (obtain ⟨_, _, _, rfl, _⟩ := h; rfl) | (obtain ⟨_, _, _, _, rfl, _⟩ := h; rfl) | (obtain ⟨_, _, _, _, _, rfl, _⟩ := h; rfl) | (obtain ⟨_, _, _, _, _, _, rfl, _⟩ := h; rfl) | (obtain ⟨_, _, _, _, _, _, _, rfl, _⟩ := h; rfl) | (obtain ⟨_, _, _, _, _, _, _, _, rfl, _⟩ := h; rfl) | (obtain ⟨_, _, _, _, _, _, _, _, _, rfl, _⟩ := h; rfl) | (obtain ⟨_, _, _, _, _, _, _, _, _, _, rfl, _⟩ := h; rfl) | (obtain ⟨_, _, _, _, _, _, _, _, _, _, _, rfl, _⟩ := h; rfl) | (obtain ⟨_, _, _, _, _, _, _, _, _, _, _, _, rfl, _⟩ := h; rfl) | (obtain ⟨_, _, _, _, _, _, _, _, _, _, _, _, _, rfl, _⟩ := h; rfl) | (obtain ⟨_, _, _, _, _, _, _, _, _, _, _, _, _, _, rfl, _⟩ := h; rfl) | (obtain ⟨_, _, _, _, _, _, _, _, _, _, _, _, _, _, _, rfl, _⟩ := h; rfl) | (obtain ⟨_, _, _, _, _, _, _, _, _, _, _, _, _, _, _, _, rfl, _⟩ := h; rfl)) (fun cdv A outer s H vs Q E hr h => ?_), hm, hb⟩, T.l_Ladder⟩
  obtain ⟨l, a, b, L, n, fs, ret, rfl, hL, k1, k2, k3, k4⟩ := h
  have hL' := hL
  obtain ⟨dx, fl, lt, hl, wl, ps, h1, h2, h3, h4, h5, h6, h7⟩ := hL'
  have D_Ladder_check_rung := d_Ladder_check_rung (P := P) (base := base) T
  have D_Ladder_check_place := d_Ladder_check_place (P := P) (base := base) T
  have l_Ladder := T.l_Ladder
  have n_Ladder_loads_table := T.n_Ladder_loads_table
  refine ⟨_, (pss_cons (ps_expr (pe_mthS D_Ladder_check_rung (hr.mono (by decide)) (takes_of rfl rfl rfl rfl) (pv 0) (pa_cons (pv 1) pa_nil)))
      (pss_cons (ps_expr (pe_mthS D_Ladder_check_place (hr.mono (by decide)) (takes_of rfl rfl rfl rfl) (pv 0) (pa_cons (pv 2) pa_nil)))
      (pss_one (ps_ret (pe_ifExp (pt_cmpR (op_uEq hr.units) (pv 2) (pe_gi T.c_OUT) (nomark _)) pe_int (pe_ix ix_seq (pe_ix ix_seq (pe_fld (pv 0) rfl) (pv 1) (fun _ _ => rfl)) (pv 2) (fun _ _ => rfl))))))), ?_⟩
  try dsimp only [cxOf, Cx.nox, Cx.wish]
  show (_ : TS) _ [some _, some _, some _] _
  o_readsAll
  refine c_crung hL (fun a0 a1 => ?_) k3
  o_readsAll
  refine c_cplc hL (fun b0 b1 => ?_) (k4 a0 a1)
  o_readsAll
  refine br (fun hb => ?_) (fun hb => ?_)
  · o_readsAll
    exact k1 a0 a1 hb
  · o_readsAll
    obtain ⟨b, rfl⟩ : ∃ a' : Nat, b = a' := ⟨b.toNat, by omega⟩
    obtain ⟨a, rfl⟩ : ∃ a' : Nat, a = a' := ⟨a.toNat, by omega⟩
    have ha : ps[a]? = some (ps[a]'(by omega)) := List.getElem?_eq_getElem _
    generalize ps[a]'(by omega) = q at ha
    have hq := h5 a q ha
    refine g_ixL (.of h3) (atI_nat (by rw [List.getElem?_map, ha]; rfl)) ?_
    o_readsAll
    refine g_ixL hq.sq (atI_nat (rng_at (by omega))) ?_
    exact k2 a b rfl rfl (by omega) (by omega)
theorem c_lload {C CB l : Addr} {a b : Nat} {L : Int} {n : Nat} {fs : Nat → Int} {ret : Bool} {H : Hp} {Q : VK} {E : XK} (h : LadAt C H l L n fs ret) (ha : a < n) (hb : b ≤ n) (k : Q (.int (ld L fs a b)) H) : sp_lload C CB [.ref l, .int (a : Int), .int (b : Int)] H Q E := ⟨l, a, b, L, n, fs, ret, rfl, h, fun _ _ h => absurd h (by omega), fun a' b' e1 e2 _ _ => (show a = a' by omega) ▸ (show b = b' by omega) ▸ k, fun h => absurd ⟨by omega, by omega⟩ h, fun _ _ h => absurd ⟨by omega, by omega⟩ h⟩
def sp_lcut (C CB : Addr) : Sp := fun vs H Q E => ∃ (l : Addr) (a L : Int) (n : Nat) (fs : Nat → Int) (ret : Bool), vs = [.ref l, .int a] ∧ LadAt C H l L n fs ret ∧ 2 ≤ L ∧ L ≤ 6 ∧ n ≤ 40 ∧ OkF fs ∧ (∀ a' : Nat, a = a' → 1 ≤ a' → a' ≤ n → ∀ l' H', H l' = none → Same H H' → LadFr C H H' l' L a' fs false → Q (.ref l') H') ∧ (¬ (1 ≤ a ∧ a ≤ n) → RaiseI CB "rung" (.int a) H E)
theorem c_lcut {C CB l : Addr} {a : Nat} {L : Int} {n : Nat} {fs : Nat → Int} {ret : Bool} {H : Hp} {Q : VK} {E : XK} (h : LadAt C H l L n fs ret) (l2 : 2 ≤ L) (l6 : L ≤ 6) (n40 : n ≤ 40) (ok : OkF fs) (a1 : 1 ≤ a) (an : a ≤ n) (k : ∀ l' H', H l' = none → Same H H' → LadFr C H H' l' L a fs false → Q (.ref l') H') : sp_lcut C CB [.ref l, .int (a : Int)] H Q E := ⟨l, a, L, n, fs, ret, rfl, h, l2, l6, n40, ok, fun a' e _ _ => (show a = a' by omega) ▸ k, fun h => absurd ⟨by omega, by omega⟩ h⟩
end
end L31

namespace L31
set_option exponentiation.threshold 2000
open SX Ld
section
variable {P : Program} {w : World} {K : PySem.W.Frag} {mg : Str → Option Value} {base : Heap} {Z : Ad}
theorem ixN_at {n j : Nat} (h : j < n) : ixN n (j : Int) = some j := by
  unfold ixN
  rw [if_pos (by omega), if_pos (by omega), Int.toNat_natCast]
theorem rng_set (n j : Nat) (f : Nat → Int) (x : Int) : (rng n f).set j (.int x) = rng n (fun i => if i = j then x else f i) := by
  apply List.ext_getElem?
  intro i
  rw [List.getElem?_set]
  by_cases hi : i < n
  · rw [rng_at hi]
    by_cases h : j = i
    · subst h
      rw [if_pos rfl, if_pos (by rw [rng_len]; exact hi), rng_at hi, if_pos rfl]
    · rw [if_neg h, rng_at hi, if_neg (fun z => h z.symm)]
  · rw [List.getElem?_eq_none (by rw [rng_len]; omega), List.getElem?_eq_none (by rw [rng_len]; omega)]
    by_cases h : j = i
    · rw [if_pos h, if_neg (by rw [rng_len]; omega)]
    · rw [if_neg h]
/-- a table that is right, its ladder too -/
structure TOk (L : Int) (n : Nat) (fs cs : Nat → Int) : Prop where
  l2 : 2 ≤ L
  l6 : L ≤ 6
  n0 : 0 < n
  n40 : n ≤ 40
  ok : OkF fs
  c0 : ∀ i, i < n → 0 ≤ cs i
  cb : ∀ i, i < n → (cs i).natAbs < 2 ^ 220
theorem wd_bd {L : Int} {fs : Nat → Int} (ok : OkF fs) (h1 : 0 ≤ L) (h2 : L ≤ 6) (b : Nat) (hb : b ≤ 41) : (wd L fs b).natAbs < 2 ^ 150 :=
  Nat.lt_of_le_of_lt (gv_bd ok h1 h2 (by decide) (fun i => by decide) b) (Nat.lt_of_le_of_lt (pow12 hb) (by decide))
def sp_lsame (C : Addr) : Sp := fun vs H Q _ => ∃ (x y : Addr) (L : Int) (n : Nat) (fs : Nat → Int) (r s : Bool), vs = [.ref x, .ref y] ∧ LadAt C H x L n fs r ∧ LadAt C H y L n fs s ∧ ∀ H', Same H H' → Q (.bl (decide (r = s))) H'
theorem d_Ladder_same_as (T : Txt K w mg Z) : Mth P w K mg base 2 Z.a_Ladder "same_as" ["self", "other"] (sp_lsame Z.a_Ladder) := by
  obtain ⟨f, fd, F, hm, hb⟩ := T.f_Ladder_same_as
  refine ⟨⟨f, fd, F.ok sc_Ladder_same_as (fun vs H Q E h => by first | (obtain ⟨rfl, _⟩ := h; rfl) | (obtain ⟨_, rfl, _⟩ := h; rfl) | (obtain ⟨_, _, rfl, _⟩ := h; rfl) | (obtain ⟨_, _, _, rfl, _⟩ := h; rfl) | (obtain ⟨_, _, _, _, rfl, _⟩ := h; rfl) | (obtain ⟨_, _, _, _, _, rfl, _⟩ := h; rfl) | (obtain ⟨_, _, _, _, _, _, rfl, _⟩ := h; rfl) | (obtain ⟨_, _, _, _, _, _, _, rfl, _⟩ := h; rfl) | (obtain ⟨_, _, _, _, _, _, _, _, rfl, _⟩ := h; rfl) | (obtain ⟨_, _, _, _, _, _, _, _, _, rfl, _⟩ := h; rfl) | (obtain ⟨_, _, _, _, _, _, _, _, _, _, rfl, _⟩ := h; rfl) | (obtain ⟨_, _, _, _, _, _, _, _, _, _, _, rfl, _⟩ := h; rfl) | (obtain ⟨_, _, _, _, _, _, _, _, _, _, _, _, rfl, _⟩ := h; rfl) | (obtain ⟨_, _, _, _, _, _, _, _, _, _, _, _, _, rfl, _⟩ := h; rfl) | (obtain ⟨_, _, _, _, _, _, _, _, _, _, _, _, _, _, rfl, _⟩ := h; rfl) | (obtain ⟨_, _, _, _, _, _, _, _, _, _, _, _, _, _, _, rfl, _⟩ := h; rfl) | (obtain ⟨_, _, _, _, _, _, _, _, _, _, _, _, _, _, _, _, rfl, _⟩ := h; rfl)) (fun cdv A outer s H vs Q E hr h => ?_), hm, hb⟩, T.l_Ladder⟩
  obtain ⟨x, y, L, n, fs, r, s, rfl, hx, hy, k⟩ := h
  have hx' := hx
  obtain ⟨ldx, lfl, llt, lhh, lwl, lps, a1, _, _, _, _, _, _⟩ := hx'
  have hy' := hy
  obtain ⟨mdx, mfl, mlt, mhh, mwl, mps, b1, _, _, _, _, _, _⟩ := hy'
  have D_Ladder_falls := d_Ladder_falls (P := P) (base := base) T
  have D_Ladder_lanes := d_Ladder_lanes (P := P) (base := base) T
  have D_Ladder_returns := d_Ladder_returns (P := P) (base := base) T
  refine ⟨_, (pss_cons (ps_if (PW.pt (pw_or (pt_cmpR (op_uNe hr.units) (pe_mth0 D_Ladder_lanes (hr.mono (by decide)) (pv 0)) (pe_mth0 D_Ladder_lanes (hr.mono (by decide)) (pv 1)) (nomark _)) (pw_or1 (pt_cmpR (op_uNe hr.units) (pe_mth0 D_Ladder_returns (hr.mono (by decide)) (pv 0)) (pe_mth0 D_Ladder_returns (hr.mono (by decide)) (pv 1)) (nomark _))))) (pss_one (ps_ret pe_bl)) pss_nil)
      (pss_one (ps_ret (pe_cmpR (op_uEq hr.units) (pe_mth0 D_Ladder_falls (hr.mono (by decide)) (pv 0)) (pe_mth0 D_Ladder_falls (hr.mono (by decide)) (pv 1)) (nomark _))))), ?_⟩
  try dsimp only [cxOf, Cx.nox, Cx.wish]
  show (_ : TS) _ [some _, some _] _
  o_readsAll
  refine c_lnum hx ?_
  o_readsAll
  refine c_lnum hy ?_
  o_readsAll
  refine brF (by rw [decide_eq_true rfl]; rfl) ?_
  o_readsAll
  refine c_lnum hx ?_
  o_readsAll
  refine c_lnum hy ?_
  o_readsAll
  refine g_neB ?_
  o_readsAll
  refine brn (fun hb => ?_) (fun hb => ?_)
  · o_readsAll
    rw [decide_eq_false hb] at k
    exact k _ (Same.refl _)
  · rw [decide_eq_true hb] at k
    o_readsAll
    refine c_lfalls hx fun p H1 fp e1 hp => ?_
    have b11 := e1 _ _ b1
    o_readsAll
    refine c_lfalls (hy.same e1) fun q H2 fq e2 hq => ?_
    refine g_eqIL (l := (List.range n).map fs) (m := (List.range n).map fs) (by rw [← rng_ints]; exact (hp.same e2).sq) (by rw [← rng_ints]; exact hq.sq) ?_
    rw [decide_eq_true rfl]
    exact k _ (e1.trans e2)
theorem c_lsameR {C x y : Addr} {L : Int} {n : Nat} {fs : Nat → Int} {r s : Bool} {H : Hp} {Q : VK} {E : XK} (hx : LadAt C H x L n fs r) (hy : LadAt C H y L n fs s) (k : ∀ H', Same H H' → Q (.bl (decide (r = s))) H') : sp_lsame C [.ref x, .ref y] H Q E := ⟨x, y, L, n, fs, r, s, rfl, hx, hy, k⟩
theorem c_lsame {C x y : Addr} {L : Int} {n : Nat} {fs : Nat → Int} {r : Bool} {H : Hp} {Q : VK} {E : XK} (hx : LadAt C H x L n fs r) (hy : LadAt C H y L n fs r) (k : ∀ H', Same H H' → Q (.bl true) H') : sp_lsame C [.ref x, .ref y] H Q E := c_lsameR hx hy fun H' e => by rw [decide_eq_true rfl]; exact k H' e
def sp_tplayers (C CL : Addr) : Sp := fun vs H Q _ => ∃ (t : Addr) (L : Int) (n : Nat) (fs : Nat → Int) (ret : Bool) (cs : Nat → Int), vs = [.ref t] ∧ TabAt C CL H t L n fs ret cs ∧ Q (.int (sm cs n)) H
theorem c_tplayers {C CL t : Addr} {L : Int} {n : Nat} {fs : Nat → Int} {ret : Bool} {cs : Nat → Int} {H : Hp} {Q : VK} {E : XK} (h : TabAt C CL H t L n fs ret cs) (k : Q (.int (sm cs n)) H) : sp_tplayers C CL [.ref t] H Q E := ⟨t, L, n, fs, ret, cs, rfl, h, k⟩
def sp_ton (C CL CB : Addr) : Sp := fun vs H Q E => ∃ (t : Addr) (a L : Int) (n : Nat) (fs : Nat → Int) (ret : Bool) (cs : Nat → Int), vs = [.ref t, .int a] ∧ TabAt C CL H t L n fs ret cs ∧ (∀ a' : Nat, a = a' → a' < n → Q (.int (cs a')) H) ∧ (¬ (0 ≤ a ∧ a < n) → RaiseI CB "rung" (.int a) H E)
theorem d_Table_on (T : Txt K w mg Z) : MthX P w K mg base 4 Z.a_Table "on" ["self", "a"] (sp_ton Z.a_Table Z.a_Ladder Z.a_BadLadder) := by
  obtain ⟨f, fd, F, hm, hb⟩ := T.f_Table_on
  refine ⟨⟨f, fd, F.okX sc_Table_on (fun vs H Q E h => by first | (obtain ⟨rfl, _⟩ := h; rfl) | (obtain ⟨_, rfl, _⟩ := h; rfl) | (obtain ⟨_, _, rfl, _⟩ := h; rfl) | (obtain ⟨_, _, _, rfl, _⟩ := h; rfl) | (obtain ⟨_, _, _, _, rfl, _⟩ := h; rfl) | (obtain ⟨_, _, _, _, _, rfl, _⟩ := h; rfl) | (obtain ⟨_, _, _, _, _, _, rfl, _⟩ := h; rfl) | (obtain ⟨_, _, _, _, _, _, _, rfl, _⟩ := h; rfl) | (obtain ⟨_, _, _, _, _, _, _, _, rfl, _⟩ := h; rfl) | (obtain ⟨_, _, _, _, _, _, _, _, _, rfl, _⟩ := h; rfl) | (obtain ⟨_, _, _, _, _, _, _, _, _, _, rfl, _⟩ := h; rfl) | (obtain ⟨_, _, _, _, _, _, _, _, _, _, _, rfl, _⟩ := h; rfl) | (obtain ⟨_, _, _, _, _, _, _, _, _, _, _, _, rfl, _⟩ := h; rfl) | (obtain ⟨_, _, _, _, _, _, _, _, _, _, _, _, _, rfl, _⟩ := h; rfl) | (obtain ⟨_, _, _, _, _, _, _, _, _, _, _, _, _, _, rfl, _⟩ := h; rfl) | (obtain ⟨_, _, _, _, _, _, _, _, _, _, _, _, _, _, _, rfl, _⟩ := h; rfl) | (obtain ⟨_, _, _, _, _, _, _, _, _, _, _, _, _, _, _, _, rfl, _⟩ := h; rfl)) (fun cdv A outer s H vs Q E hr h => ?_), hm, hb⟩, T.l_Table⟩
  obtain ⟨t, a, L, n, fs, ret, cs, rfl, ⟨dx, l, cl, h1, h2, h3⟩, k1, k2⟩ := h
  have h3' := h3
  obtain ⟨ldx, fl, lt, hh, wl, ps, a1, _, _, _, _, _, _⟩ := h3'
  have D_Ladder_check_rung := d_Ladder_check_rung (P := P) (base := base) T
  have l_Table := T.l_Table
  have n_Table_ladder_kept := T.n_Table_ladder_kept
  have n_Table_counts_list := T.n_Table_counts_list
  refine ⟨_, (pss_cons (ps_expr (pe_mthS D_Ladder_check_rung (hr.mono (by decide)) (takes_of rfl rfl rfl rfl) (pe_fld (pv 0) rfl) (pa_cons (pv 1) pa_nil)))
      (pss_one (ps_ret (pe_ix ix_seq (pe_fld (pv 0) rfl) (pv 1) (fun _ _ => rfl))))), ?_⟩
  try dsimp only [cxOf, Cx.nox, Cx.wish]
  show (_ : TS) _ [some _, some _] _
  o_readsAll
  refine c_crung h3 (fun a0 an => ?_) k2
  obtain ⟨a, rfl⟩ : ∃ a' : Nat, a = a' := ⟨a.toNat, by omega⟩
  o_readsAll
  refine g_ixL h2.sq (atI_nat (rng_at (by omega))) ?_
  exact k1 a rfl (by omega)
theorem c_ton {C CL CB t : Addr} {a : Nat} {L : Int} {n : Nat} {fs : Nat → Int} {ret : Bool} {cs : Nat → Int} {H : Hp} {Q : VK} {E : XK} (h : TabAt C CL H t L n fs ret cs) (an : a < n) (k : Q (.int (cs a)) H) : sp_ton C CL CB [.ref t, .int (a : Int)] H Q E := ⟨t, a, L, n, fs, ret, cs, rfl, h, fun a' e _ => (show a = a' by omega) ▸ k, fun h => absurd ⟨by omega, by omega⟩ h⟩
/-- how many stand on this rung and above -/
def abv (n : Nat) (cs : Nat → Int) (r : Nat) : Int := sm (fun j => cs (r + j)) (n - r)
def sp_above (C CL CB : Addr) : Sp := fun vs H Q E => ∃ (t : Addr) (a L : Int) (n : Nat) (fs : Nat → Int) (ret : Bool) (cs : Nat → Int), vs = [.ref t, .int a] ∧ TabAt C CL H t L n fs ret cs ∧ (∀ r : Nat, a + 1 = (r : Int) → r ≤ n → ∀ H', Same H H' → Q (.int (abv n cs r)) H') ∧ (¬ (-1 ≤ a ∧ a < n) → RaiseI CB "rung" (.int a) H E)
theorem c_above {C CL CB t : Addr} {r : Nat} {a L : Int} {n : Nat} {fs : Nat → Int} {ret : Bool} {cs : Nat → Int} {H : Hp} {Q : VK} {E : XK} (h : TabAt C CL H t L n fs ret cs) (ha : a + 1 = (r : Int)) (hr : r ≤ n) (k : ∀ H', Same H H' → Q (.int (abv n cs r)) H') : sp_above C CL CB [.ref t, .int a] H Q E := ⟨t, a, L, n, fs, ret, cs, rfl, h, fun r' e _ => (show r = r' by omega) ▸ k, fun h => absurd ⟨by omega, by omega⟩ h⟩
def sp_tval (C CL : Addr) (v : Int → (Nat → Int) → Nat → Int) : Sp := fun vs H Q _ => ∃ (t : Addr) (L : Int) (n : Nat) (fs : Nat → Int) (ret : Bool) (cs : Nat → Int), vs = [.ref t] ∧ TabAt C CL H t L n fs ret cs ∧ TOk L n fs cs ∧ ∀ H', Same H H' → Q (.int (sm (fun b => cs b * v L fs b) n)) H'
theorem c_tval {C CL t : Addr} {v : Int → (Nat → Int) → Nat → Int} {L : Int} {n : Nat} {fs : Nat → Int} {ret : Bool} {cs : Nat → Int} {H : Hp} {Q : VK} {E : XK} (h : TabAt C CL H t L n fs ret cs) (o : TOk L n fs cs) (k : ∀ H', Same H H' → Q (.int (sm (fun b => cs b * v L fs b) n)) H') : sp_tval C CL v [.ref t] H Q E := ⟨t, L, n, fs, ret, cs, rfl, h, o, k⟩
def sp_tload (C CL CB : Addr) : Sp := fun vs H Q E => ∃ (t : Addr) (a L : Int) (n : Nat) (fs : Nat → Int) (ret : Bool) (cs : Nat → Int), vs = [.ref t, .int a] ∧ TabAt C CL H t L n fs ret cs ∧ TOk L n fs cs ∧ (∀ a' : Nat, a = a' → a' < n → ∀ H', Same H H' → Q (.int (sm (fun b => cs b * ld L fs a' b) n)) H') ∧ (¬ (0 ≤ a ∧ a < n) → RaiseI CB "rung" (.int a) H E)
theorem d_Table_load (T : Txt K w mg Z) : MthX P w K mg base 5 Z.a_Table "load" ["self", "a"] (sp_tload Z.a_Table Z.a_Ladder Z.a_BadLadder) := by
  obtain ⟨f, fd, F, hm, hb⟩ := T.f_Table_load
  refine ⟨⟨f, fd, F.okX sc_Table_load (fun vs H Q E h => by first | (obtain ⟨rfl, _⟩ := h; rfl) | (obtain ⟨_, rfl, _⟩ := h; rfl) | (obtain ⟨_, _, rfl, _⟩ := h; rfl) | (obtain ⟨_, _, _, rfl, _⟩ := h; rfl) | (obtain ⟨_, _, _, _, rfl, _⟩ := h; rfl) | (obtain ⟨_, _, _, _, _, rfl, _⟩ := h; rfl) | (obtain ⟨_, _, _, _, _, _, rfl, _⟩ := h; rfl) | (obtain ⟨_, _, _, _, _, _, _, rfl, _⟩ := h; rfl) | (obtain ⟨_, _, _, _, _, _, _, _, rfl, _⟩ := h; rfl) | (obtain ⟨_, _, _, _, _, _, _, _, _, rfl, _⟩ := h; rfl) | (obtain ⟨_, _, _, _, _, _, _, _, _, _, rfl, _⟩ := h; rfl) | (obtain ⟨_, _, _, _, _, _, _, _, _, _, _, rfl, _⟩ := h; rfl) | (obtain ⟨_, _, _, _, _, _, _, _, _, _, _, _, rfl, _⟩ := h; rfl) | (obtain ⟨_, _, _, _, _, _, _, _, _, _, _, _, _, rfl, _⟩ := h; rfl) | (obtain ⟨_, _, _, _, _, _, _, _, _, _, _, _, _, _, rfl, _⟩ := h; rfl) | (obtain ⟨_, _, _, _, _, _, _, _, _, _, _, _, _, _, _, rfl, _⟩ := h; rfl) | (obtain ⟨_, _, _, _, _, _, _, _, _, _, _, _, _, _, _, _, rfl, _⟩ := h; rfl)) (fun cdv A outer s H vs Q E hr h => ?_), hm, hb⟩, T.l_Table⟩
  obtain ⟨t, a, L, n, fs, ret, cs, rfl, ⟨dx, l, cl, h1, h2, h3⟩, o, k1, k2⟩ := h
  have h3' := h3
  obtain ⟨ldx, fl, lt, hh, wl, ps, a1, _, _, _, _, _, _⟩ := h3'
  have n40 := o.n40
  have l2 := o.l2
  have l6 := o.l6
  have D_Ladder_check_rung := d_Ladder_check_rung (P := P) (base := base) T
  have D_Ladder_load := d_Ladder_load (P := P) (base := base) T
  have l_Table := T.l_Table
  have n_Table_ladder_kept := T.n_Table_ladder_kept
  have n_Table_counts_list := T.n_Table_counts_list
  refine ⟨_, (pss_cons (ps_expr (pe_mthS D_Ladder_check_rung (hr.mono (by decide)) (takes_of rfl rfl rfl rfl) (pe_fld (pv 0) rfl) (pa_cons (pv 1) pa_nil)))
      (pss_one (ps_ret (pe_callB (cr_sum rfl) (by rfl) T.b_sum bt_sum (pa_cons (pe_lc (own := [("b", 2), ("many", 3)]) (by rfl) sc_Table_load.nd (pi_enum (by rfl) T.b_enumerate (pa_cons (pe_fld (pv 0) rfl) pa_nil)) (blkOk_by (N := n_Table_load) (sc := defScope st_Table_load) (by decide +kernel)) (fun _ _ _ _ _ => (pg_tupK (K := K) (n := 2) rfl (by rfl) (pgs_cons (pg_name (i := 2) sc_Table_load.nd rfl (.inl rfl)) (pgs_cons (pg_name (i := 3) sc_Table_load.nd rfl (.inl rfl)) pgs_nil)))) (fun _ _ _ _ _ => pts_nil) (fun _ _ _ _ _ => (pe_op op_uMul (pv 3) (pe_mthS D_Ladder_load (hr.mono (by decide)) takes0 (pe_fldK (K := K) rfl (pv 0) rfl) (pa_cons (pv 1) (pa_cons (pv 2) pa_nil)))))) pa_nil))))), ?_⟩
  try dsimp only [cxOf, Cx.nox, Cx.wish]
  show (_ : TS) _ [some _, some _, none, none] _
  o_readsAll
  refine c_crung h3 (fun a0 an => ?_) k2
  obtain ⟨a, rfl⟩ : ∃ a' : Nat, a = a' := ⟨a.toNat, by omega⟩
  o_readsAll
  refine l_enumP (fun i => .int (cs i * ld L fs a i)) (xs := rng n cs) h2.sq (fun x y => rfl) (fun D i x H' hx hD e hl => ?_) fun q H2 hq e2 h2' => ?_
  · have hi : i < n := by have := (List.getElem?_eq_some_iff.mp hx).1; rw [rng_len] at this; exact this
    rw [rng_at hi] at hx
    cases hx
    have h1e := e _ _ h1
    have a1e := e _ _ a1
    o_readsAll
    refine c_lload (h3.same e) (by omega) (by omega) ?_
    refine g_mulW (mul_nb (o.cb i hi) (ld_bd (L := L) o.ok (by omega) l6 a i (by omega)) (by decide)) ?_
    exact g_itemP e hl hD (by rw [sizeLine_eq]; omega) rfl
  · rw [rng_len] at h2'
    o_readsAll
    refine g_sumI (f := fun i => cs i * ld L fs a i) (n := n) h2' ?_
    exact k1 a rfl (by omega) _ e2
theorem c_tload {C CL CB t : Addr} {a : Nat} {L : Int} {n : Nat} {fs : Nat → Int} {ret : Bool} {cs : Nat → Int} {H : Hp} {Q : VK} {E : XK} (h : TabAt C CL H t L n fs ret cs) (o : TOk L n fs cs) (an : a < n) (k : ∀ H', Same H H' → Q (.int (sm (fun b => cs b * ld L fs a b) n)) H') : sp_tload C CL CB [.ref t, .int (a : Int)] H Q E := ⟨t, a, L, n, fs, ret, cs, rfl, h, o, fun a' e _ => (show a = a' by omega) ▸ k, fun h => absurd ⟨by omega, by omega⟩ h⟩
end
end L31

namespace L31
set_option exponentiation.threshold 2000
open SX Ld
section
variable {P : Program} {w : World} {K : PySem.W.Frag} {mg : Str → Option Value} {base : Heap} {Z : Ad}
/-- the first place at which something holds -/
def fb (p : Nat → Prop) [DecidablePred p] : Nat → Option Nat
  | 0 => none
  | n + 1 => match fb p n with
    | some i => some i
    | none => if p n then some n else none
theorem fb_none {p : Nat → Prop} [DecidablePred p] : ∀ {n : Nat}, (∀ i, i < n → ¬ p i) → fb p n = none
  | 0, _ => rfl
  | n + 1, h => by
    show (match fb p n with | some i => some i | none => if p n then some n else none) = none
    rw [fb_none fun i hi => h i (by omega)]
    exact if_neg (h n (by omega))
theorem fb_at {p : Nat → Prop} [DecidablePred p] {i : Nat} (hp : p i) (h : ∀ j, j < i → ¬ p j) : ∀ {n : Nat}, i < n → fb p n = some i
  | 0, hi => by omega
  | n + 1, hi => by
    show (match fb p n with | some i => some i | none => if p n then some n else none) = some i
    by_cases e : i = n
    · subst e
      rw [fb_none h]
      exact if_pos hp
    · rw [fb_at hp h (n := n) (by omega)]
theorem fb_cases {p : Nat → Prop} [DecidablePred p] : ∀ (n : Nat), (fb p n = none ∧ ∀ i, i < n → ¬ p i) ∨ ∃ i, fb p n = some i ∧ i < n ∧ p i ∧ ∀ j, j < i → ¬ p j
  | 0 => .inl ⟨rfl, fun i hi => by omega⟩
  | n + 1 => by
    rcases fb_cases (p := p) n with ⟨h1, h2⟩ | ⟨i, h1, h2, h3, h4⟩
    · by_cases hn : p n
      · exact .inr ⟨n, fb_at hn h2 (by omega), by omega, hn, h2⟩
      · refine .inl ⟨fb_none fun i hi => ?_, fun i hi => ?_⟩ <;>
        · by_cases e : i = n
          · rw [e]; exact hn
          · exact h2 i (by omega)
    · exact .inr ⟨i, fb_at h3 h4 (by omega), by omega, h3, h4⟩
/-- from the end: the least one met so far -/
def lastB (p : Nat → Prop) (n m : Nat) (o : Option Nat) : Prop := match o with
  | none => ∀ j, m ≤ j → j < n → ¬ p j
  | some r => m ≤ r ∧ r < n ∧ p r ∧ ∀ j, m ≤ j → j < r → ¬ p j
theorem lastB_fb {p : Nat → Prop} [DecidablePred p] {n : Nat} {o : Option Nat} (h : lastB p n 0 o) : o = fb p n := by
  cases o with
  | none => exact (fb_none fun i hi => h i (by omega) hi).symm
  | some r => exact (fb_at h.2.2.1 (fun j hj => h.2.2.2 j (by omega) hj) h.2.1).symm
theorem lastB_yes {p : Nat → Prop} {n m : Nat} {o : Option Nat} (h : lastB p n (m + 1) o) (hm : m < n) (hp : p m) : lastB p n m (some m) := ⟨by omega, hm, hp, fun j h1 h2 => by omega⟩
theorem lastB_no {p : Nat → Prop} {n m : Nat} {o : Option Nat} (h : lastB p n (m + 1) o) (hp : ¬ p m) : lastB p n m o := by
  have q : ∀ j, (j ≠ m → ¬ p j) → ¬ p j := fun j h => by
    by_cases e : j = m
    · rw [e]; exact hp
    · exact h e
  cases o with
  | none => exact fun j h1 h2 => q j fun e => h j (by omega) h2
  | some r => exact ⟨by have := h.1; omega, h.2.1, h.2.2.1, fun j h1 h2 => q j fun e => h.2.2.2 j (by omega) h2⟩
theorem lastB_start (p : Nat → Prop) (n : Nat) : lastB p n n none := fun j h1 h2 => by omega
end
end L31

namespace L31
set_option exponentiation.threshold 2000
open SX Ld
section
variable {P : Program} {w : World} {K : PySem.W.Frag} {mg : Str → Option Value} {base : Heap} {Z : Ad}
/-- counts with one place changed -/
def chg (cs : Nat → Int) (a : Nat) (m : Int) (i : Nat) : Int := if i = a then cs a + m else cs i
def sp_tmoved (C CL : Addr) : Sp := fun vs H Q _ => ∃ (t : Addr) (a : Nat) (m L : Int) (n : Nat) (fs : Nat → Int) (ret : Bool) (cs : Nat → Int), vs = [.ref t, .int (a : Int), .int m] ∧ TabAt C CL H t L n fs ret cs ∧ n ≤ 40 ∧ a < n ∧ (∀ i, i < n → 0 ≤ chg cs a m i) ∧ ∀ t' H', H t' = none → Same H H' → TabAt C CL H' t' L n fs ret (chg cs a m) → Q (.ref t') H'
theorem c_tmoved {C CL t : Addr} {a : Nat} {m L : Int} {n : Nat} {fs : Nat → Int} {ret : Bool} {cs : Nat → Int} {H : Hp} {Q : VK} {E : XK} (h : TabAt C CL H t L n fs ret cs) (n40 : n ≤ 40) (an : a < n) (h0 : ∀ i, i < n → 0 ≤ chg cs a m i) (k : ∀ t' H', H t' = none → Same H H' → TabAt C CL H' t' L n fs ret (chg cs a m) → Q (.ref t') H') : sp_tmoved C CL [.ref t, .int (a : Int), .int m] H Q E := ⟨t, a, m, L, n, fs, ret, cs, rfl, h, n40, an, h0, k⟩
def sp_tput (C CL CB CT : Addr) : Sp := fun vs H Q E => ∃ (t : Addr) (a m L : Int) (n : Nat) (fs : Nat → Int) (ret : Bool) (cs : Nat → Int), vs = [.ref t, .int a, .int m] ∧ TabAt C CL H t L n fs ret cs ∧ n ≤ 40 ∧ (∀ i, i < n → 0 ≤ cs i) ∧ (∀ a' : Nat, a = a' → a' < n → 0 ≤ m → ∀ t' H', H t' = none → Same H H' → TabAt C CL H' t' L n fs ret (chg cs a' m) → Q (.ref t') H') ∧ (¬ (0 ≤ a ∧ a < n) → RaiseI CB "rung" (.int a) H E) ∧ (0 ≤ a → a < n → m < 0 → RaiseI CT "rung" (.int a) H E)
def sp_ttake (C CL CB CT : Addr) : Sp := fun vs H Q E => ∃ (t : Addr) (a m L : Int) (n : Nat) (fs : Nat → Int) (ret : Bool) (cs : Nat → Int), vs = [.ref t, .int a, .int m] ∧ TabAt C CL H t L n fs ret cs ∧ n ≤ 40 ∧ (∀ i, i < n → 0 ≤ cs i) ∧ (∀ a' : Nat, a = a' → a' < n → 0 ≤ m → m ≤ cs a' → ∀ t' H', H t' = none → Same H H' → TabAt C CL H' t' L n fs ret (chg cs a' (0 - m)) → Q (.ref t') H') ∧ (¬ (0 ≤ a ∧ a < n) → RaiseI CB "rung" (.int a) H E) ∧ (∀ a' : Nat, a = a' → a' < n → (m < 0 ∨ cs a' < m) → RaiseI CT "rung" (.int a) H E)
/-- which rungs are level, from the top -/
def lvl (L : Int) (n : Nat) (cs : Nat → Int) : Nat → List Int
  | 0 => []
  | i + 1 => lvl L n cs i ++ (if L ≤ cs (n - 1 - i) then [((n - 1 - i : Nat) : Int)] else [])
def sp_tlevel (C CL : Addr) : Sp := fun vs H Q _ => ∃ (t : Addr) (L : Int) (n : Nat) (fs : Nat → Int) (ret : Bool) (cs : Nat → Int), vs = [.ref t] ∧ TabAt C CL H t L n fs ret cs ∧ n ≤ 40 ∧ ∀ p H', H p = none → Same H H' → H' p = some (.lst ((lvl L n cs n).map V.int)) → Q (.ref p) H'
theorem lvl_len (L : Int) (n : Nat) (cs : Nat → Int) : ∀ i, (lvl L n cs i).length ≤ i
  | 0 => Nat.le_refl 0
  | i + 1 => by
    have := lvl_len L n cs i
    simp only [lvl, List.length_append]
    split <;> simp <;> omega
theorem d_Table_level (T : Txt K w mg Z) : Mth P w K mg base 2 Z.a_Table "level" ["self"] (sp_tlevel Z.a_Table Z.a_Ladder) := by
  obtain ⟨f, fd, F, hm, hb⟩ := T.f_Table_level
  refine ⟨⟨f, fd, F.ok sc_Table_level (fun vs H Q E h => by first | (obtain ⟨rfl, _⟩ := h; rfl) | (obtain ⟨_, rfl, _⟩ := h; rfl) | (obtain ⟨_, _, rfl, _⟩ := h; rfl) | (obtain ⟨_, _, _, rfl, _⟩ := h; rfl) | (obtain ⟨_, _, _, _, rfl, _⟩ := h; rfl) | (obtain ⟨_, _, _, _, _, rfl, _⟩ := h; rfl) | (obtain ⟨_, _, _, _, _, _, rfl, _⟩ := h; rfl) | (obtain ⟨_, _, _, _, _, _, _, rfl, _⟩ := h; rfl) | (obtain ⟨_, _, _, _, _, _, _, _, rfl, _⟩ := h; rfl) | (obtain ⟨_, _, _, _, _, _, _, _, _, rfl, _⟩ := h; rfl) | (obtain ⟨_, _, _, _, _, _, _, _, _, _, rfl, _⟩ := h; rfl) | (obtain ⟨_, _, _, _, _, _, _, _, _, _, _, rfl, _⟩ := h; rfl) | (obtain ⟨_, _, _, _, _, _, _, _, _, _, _, _, rfl, _⟩ := h; rfl) | (obtain ⟨_, _, _, _, _, _, _, _, _, _, _, _, _, rfl, _⟩ := h; rfl) | (obtain ⟨_, _, _, _, _, _, _, _, _, _, _, _, _, _, rfl, _⟩ := h; rfl) | (obtain ⟨_, _, _, _, _, _, _, _, _, _, _, _, _, _, _, rfl, _⟩ := h; rfl) | (obtain ⟨_, _, _, _, _, _, _, _, _, _, _, _, _, _, _, _, rfl, _⟩ := h; rfl)) (fun cdv A outer s H vs Q E hr h => ?_), hm, hb⟩, T.l_Table⟩
  obtain ⟨t, L, n, fs, ret, cs, rfl, ⟨dx, l, cl, h1, h2, h3⟩, n40, k⟩ := h
  unfold IL at h2
  have h3' := h3
  obtain ⟨ldx, fl, lt, hh, wl, ps, a1, _, _, _, _, _, _⟩ := h3'
  have D_Ladder_lanes := d_Ladder_lanes (P := P) (base := base) T
  have l_Table := T.l_Table
  have n_Table_ladder_kept := T.n_Table_ladder_kept
  have n_Table_counts_list := T.n_Table_counts_list
  refine ⟨_, (pss_cons (ps_set (i := 1) sc_Table_level.nd rfl (.inr rfl) (pe_mth0 D_Ladder_lanes (hr.mono (by decide)) (pe_fld (pv 0) rfl)))
      (pss_cons (ps_set (i := 2) sc_Table_level.nd rfl (.inl rfl) (pe_callB call_uLen (by rfl) T.b_len bt_len (pa_cons (pe_fld (pv 0) rfl) pa_nil)))
      (pss_one (ps_ret (pe_lc (own := [("rung", 3)]) (by rfl) sc_Table_level.nd (pi_revR (by rfl) T.b_reversed (prg_1 (by rfl) T.b_range (pv 2))) (blkOk_by (N := n_Table_level) (sc := defScope st_Table_level) (by decide +kernel)) (fun _ _ _ _ _ => (pg_name (i := 3) sc_Table_level.nd rfl (.inl rfl))) (fun _ _ _ _ _ => (pts_one (pt_cmpR op_ge (pe_ix (ix_seqK (K := K) rfl) (pe_fldK (K := K) rfl (pv 0) rfl) (pv 3) (fun _ _ => rfl)) (pv 1) (nomark _)))) (fun _ _ _ _ _ => (pv 3))))))), ?_⟩
  try dsimp only [cxOf, Cx.nox, Cx.wish]
  show (_ : TS) _ [some _, none, none, none] _
  o_readsAll
  refine c_lnum h3 ?_
  o_readsAll
  rw [rng_len]
  refine l_itF walk_rangeC (fun D i acc H' => acc = (lvl L n cs i).map V.int ∧ Same H H') (fun D hD => ⟨rfl, Eg.Same.put (Same.refl _) hD⟩) (fun _ _ _ _ _ _ _ _ => trivial) (fun D i x acc H1 H' hD hi e p y => ?_) (fun D acc H' hD e p => ?_)
  · obtain ⟨y1, y2⟩ := y
    subst y1 y2
    obtain ⟨rfl, e1⟩ := p
    show gName 3 (V.int ((n : Int) - 1 + (i : Nat) * (-1))) _ _ _
    rw [show (n : Int) - 1 + (i : Nat) * (-1) = ((n - 1 - i : Nat) : Int) by omega]
    refine ⟨rfl, ?_⟩
    have h1e := e1 _ _ h1
    have h2e := e1 _ _ h2
    o_readsAll
    refine g_ixL (.of h2e) (atI_nat (rng_at (by omega))) ?_
    o_readsAll
    have hl := lvl_len L n cs i
    refine br (fun hc => ?_) (fun hc => ?_)
    · o_readsAll
      refine ⟨_, e, by rw [List.length_map, sizeLine_eq]; omega, ?_, Eg.Same.put e1 hD⟩
      rw [lvl, if_pos hc, List.map_append]
      rfl
    · refine ⟨_, e, ?_, e1⟩
      rw [lvl, if_neg hc, List.append_nil]
  · obtain ⟨rfl, e1⟩ := p
    exact k D H' hD e1 e
theorem c_tlevel {C CL t : Addr} {L : Int} {n : Nat} {fs : Nat → Int} {ret : Bool} {cs : Nat → Int} {H : Hp} {Q : VK} {E : XK} (h : TabAt C CL H t L n fs ret cs) (n40 : n ≤ 40) (k : ∀ p H', H p = none → Same H H' → H' p = some (.lst ((lvl L n cs n).map V.int)) → Q (.ref p) H') : sp_tlevel C CL [.ref t] H Q E := ⟨t, L, n, fs, ret, cs, rfl, h, n40, k⟩
end
end L31

namespace L31
set_option exponentiation.threshold 2000
open SX Ld
section
variable {P : Program} {w : World} {K : PySem.W.Frag} {mg : Str → Option Value} {base : Heap} {Z : Ad}
/-- which rung is called too often -/
def over (cs : Nat → Int) (rs : List Int) (i : Nat) : Prop := cs i < (rs.count (i : Int) : Nat)
instance (cs : Nat → Int) (rs : List Int) : DecidablePred (over cs rs) := fun i => by unfold over; infer_instance
/-- why a meeting is refused -/
def mfault (L : Int) (n : Nat) (cs : Nat → Int) (rs : List Int) (at_ : Int) : Option Int := if (rs.length : Int) ≠ L ∨ ¬ (0 ≤ at_ ∧ at_ < L) ∨ ¬ (∀ r ∈ rs, 0 ≤ r ∧ r < n) then some (-1) else Option.map (fun (i : Nat) => (i : Int)) (fb (over cs rs) n)
def sp_cc (C CL CT : Addr) : Sp := fun vs H Q E => ∃ (t rl : Addr) (at_ L : Int) (n : Nat) (fs : Nat → Int) (ret : Bool) (cs : Nat → Int) (rs : List Int), vs = [.ref t, .ref rl, .int at_] ∧ TabAt C CL H t L n fs ret cs ∧ n ≤ 40 ∧ H rl = some (.lst (rs.map V.int)) ∧ rs.length ≤ 1000 ∧ (mfault L n cs rs at_ = none → ∀ H', Same H H' → Q .non H') ∧ (∀ r, mfault L n cs rs at_ = some r → RaiseI CT "rung" (.int r) H E)
theorem d_Table_check_called (T : Txt K w mg Z) : MthX P w K mg base 3 Z.a_Table "check_called" ["self", "rungs", "at"] (sp_cc Z.a_Table Z.a_Ladder Z.a_BadTable) := by
  obtain ⟨f, fd, F, hm, hb⟩ := T.f_Table_check_called
  refine ⟨⟨f, fd, F.okX sc_Table_check_called (fun vs H Q E h => by first | (obtain ⟨rfl, _⟩ := h; rfl) | (obtain ⟨_, rfl, _⟩ := h; rfl) | (obtain ⟨_, _, rfl, _⟩ := h; rfl) | (obtain ⟨_, _, _, rfl, _⟩ := h; rfl) | (obtain ⟨_, _, _, _, rfl, _⟩ := h; rfl) | (obtain ⟨_, _, _, _, _, rfl, _⟩ := h; rfl) | (obtain ⟨_, _, _, _, _, _, rfl, _⟩ := h; rfl) | (obtain ⟨_, _, _, _, _, _, _, rfl, _⟩ := h; rfl) | (obtain ⟨_, _, _, _, _, _, _, _, rfl, _⟩ := h; rfl) | (obtain ⟨_, _, _, _, _, _, _, _, _, rfl, _⟩ := h; rfl) | (obtain ⟨_, _, _, _, _, _, _, _, _, _, rfl, _⟩ := h; rfl) | (obtain ⟨_, _, _, _, _, _, _, _, _, _, _, rfl, _⟩ := h; rfl) | (obtain ⟨_, _, _, _, _, _, _, _, _, _, _, _, rfl, _⟩ := h; rfl) | (obtain ⟨_, _, _, _, _, _, _, _, _, _, _, _, _, rfl, _⟩ := h; rfl) | (obtain ⟨_, _, _, _, _, _, _, _, _, _, _, _, _, _, rfl, _⟩ := h; rfl) | (obtain ⟨_, _, _, _, _, _, _, _, _, _, _, _, _, _, _, rfl, _⟩ := h; rfl) | (obtain ⟨_, _, _, _, _, _, _, _, _, _, _, _, _, _, _, _, rfl, _⟩ := h; rfl)) (fun cdv A outer s H vs Q E hr h => ?_), hm, hb⟩, T.l_Table⟩
  obtain ⟨t, rl, at_, L, n, fs, ret, cs, rs, rfl, ⟨dx, l, cl, h1, h2, h3⟩, n40, hrl, hrs, k1, k2⟩ := h
  unfold IL at h2
  have h3' := h3
  obtain ⟨ldx, fl, lt, hh, wl, ps, a1, _, _, _, _, _, _⟩ := h3'
  have D_Ladder_lanes := d_Ladder_lanes (P := P) (base := base) T
  have D_BadTable_init := d_BadTable_init (P := P) (base := base) T
  have l_Table := T.l_Table
  have n_Table_ladder_kept := T.n_Table_ladder_kept
  have n_Table_counts_list := T.n_Table_counts_list
  refine ⟨_, (pss_cons (ps_set (i := 3) sc_Table_check_called.nd rfl (.inl rfl) (pe_mth0 D_Ladder_lanes (hr.mono (by decide)) (pe_fld (pv 0) rfl)))
      (pss_cons (ps_set (i := 4) sc_Table_check_called.nd rfl (.inl rfl) (pe_callB (cr_all rfl) (by rfl) T.b_all bt_all (pa_cons (pe_lc (own := [("rung", 5)]) (by rfl) sc_Table_check_called.nd (pi_list (pv 1)) (blkOk_by (N := n_Table_check_called) (sc := defScope st_Table_check_called) (by decide +kernel)) (fun _ _ _ _ _ => (pg_name (i := 5) sc_Table_check_called.nd rfl (.inl rfl))) (fun _ _ _ _ _ => pts_nil) (fun _ _ _ _ _ => (pe_chain op_le op_lt pe_int (pv 5) (pe_callB (call_uLenK (K := K) rfl) (by rfl) T.b_len bt_len (pa_cons (pe_fldK (K := K) rfl (pv 0) rfl) pa_nil))))) pa_nil)))
      (pss_cons (ps_if (PW.pt (pw_or (pt_cmpR (op_uNe hr.units) (pe_callB call_uLen (by rfl) T.b_len bt_len (pa_cons (pv 1) pa_nil)) (pv 3) (nomark _)) (pw_or (pt_not (pt_u (pv 4))) (pw_or1 (pt_not (pt_chain op_le op_lt pe_int (pv 2) (pv 3))))))) (pss_one (ps_rs (takes_of rfl rfl rfl rfl) (pmk_iex D_BadTable_init (hr.mono (by decide)) (by rfl) (pa_cons (pe_un un_neg pe_int) pa_nil)) rfl)) pss_nil)
      (pss_one (ps_for (passes_of rfl) rfl (pi_enum (by rfl) T.b_enumerate (pa_cons (pe_fld (pv 0) rfl) pa_nil)) (pg_tup (by rfl) (pgs_cons (pg_name (i := 5) sc_Table_check_called.nd rfl (.inl rfl)) (pgs_cons (pg_name (i := 6) sc_Table_check_called.nd rfl (.inl rfl)) pgs_nil)))
        (pss_one (ps_if (pt_cmpR op_gt (pe_bm PySem.F.plainAttrs_list PySem.F.slot_list_count PySem.F.type_list_count mt_lcount (pv 1) (pa_cons (pv 5) pa_nil)) (pv 6) (nomark _)) (pss_one (ps_rs (takes_of rfl rfl rfl rfl) (pmk_iex D_BadTable_init (hr.mono (by decide)) (by rfl) (pa_cons (pv 5) pa_nil)) rfl)) pss_nil))))))), ?_⟩
  try dsimp only [cxOf, Cx.nox, Cx.wish]
  show (_ : TS) _ [some _, some _, some _, none, none, none, none] _
  o_readsAll
  refine c_lnum h3 ?_
  o_readsAll
  refine l_lstP (fun i => .bl (decide (0 ≤ fn rs i ∧ fn rs i < n))) (.of hrl) (fun x => rfl) (fun D i x H' hx hD e hl => ?_) fun q H1 fq e1 hq => ?_
  · rw [List.getElem?_map] at hx
    obtain ⟨r, hr1, rfl⟩ := Option.map_eq_some_iff.mp hx
    have hi := (List.getElem?_eq_some_iff.mp hr1).1
    have hfn := fn_at hr1
    have h1e := e _ _ h1
    have h2e := e _ _ h2
    o_readsAll
    refine ⟨_, rfl, ?_⟩
    refine br (fun hc => ?_) (fun hc => ?_)
    · o_readsAll
      rw [rng_len]
      exact g_itemP e hl hD (by rw [sizeLine_eq]; omega) (by rw [hfn]; exact congrArg V.bl (by rw [decide_eq_decide]; exact ⟨fun z => ⟨hc, z⟩, fun z => z.2⟩))
    · exact g_itemP e hl hD (by rw [sizeLine_eq]; omega) (by rw [hfn]; exact congrArg V.bl (decide_eq_false fun z => hc z.1).symm)
  · rw [List.length_map] at hq
    have hq' : H1 q = some (.lst (((List.range rs.length).map fun i => decide (0 ≤ fn rs i ∧ fn rs i < n)).map V.bl)) := by rw [hq, List.map_map]; rfl
    o_readsAll
    refine g_allB (.of hq') ?_
    have hall : (((List.range rs.length).map fun i => decide (0 ≤ fn rs i ∧ fn rs i < n)).all id) = decide (∀ r ∈ rs, 0 ≤ r ∧ r < n) := by
      rw [Bool.eq_iff_iff, List.all_map, decide_eq_true_iff, List.all_eq_true]
      refine ⟨fun h r hr => ?_, fun h i hi => ?_⟩
      · obtain ⟨i, hi, rfl⟩ := List.mem_iff_getElem.mp hr
        have := h i (List.mem_range.mpr hi)
        rw [← fn_at (List.getElem?_eq_getElem hi)]
        exact of_decide_eq_true this
      · have hi' := List.mem_range.mp hi
        refine decide_eq_true ?_
        rw [fn_at (List.getElem?_eq_getElem hi')]
        exact h _ (List.getElem_mem _)
    rw [hall]
    have hrl1 := e1 _ _ hrl
    have h21 := e1 _ _ h2
    have h11 := e1 _ _ h1
    o_readsAll
    rw [List.length_map]
    have bad : ∀ {H' : Hp} {d : Addr}, ((rs.length : Int) ≠ L ∨ ¬ (0 ≤ at_ ∧ at_ < L) ∨ ¬ (∀ r ∈ rs, 0 ≤ r ∧ r < n)) → H' = H' → Same H H' → H d = none → H' d = some (.xd [("rung", .int (-1))]) → E (.ref Z.a_BadTable) (some d) H' := fun {H' d} hc _ e hd hx => k2 (-1) (if_pos hc) d H' hd e hx
    refine brn (fun g1 => ?_) (fun g1 => ?_)
    · o_readsAll
      refine c_raise fun d H2 fd e2 hd => ?_
      exact bad (.inl g1) rfl (e1.trans e2) (e1.free fd) hd
    · o_readsAll
      refine brn (fun g2 => ?_) (fun g2 => ?_)
      · o_readsAll
        refine c_raise fun d H2 fd e2 hd => ?_
        exact bad (.inr (.inr g2)) rfl (e1.trans e2) (e1.free fd) hd
      · o_readsAll
        refine ⟨_, rfl, ?_⟩
        refine br (fun g3 => ?_) (fun g3 => ?_)
        · o_readsAll
          refine brn (fun g4 => ?_) (fun g4 => ?_)
          · o_readsAll
            refine c_raise fun d H2 fd e2 hd => ?_
            exact bad (.inr (.inl fun z => g4 z.2)) rfl (e1.trans e2) (e1.free fd) hd
          · have hmf : mfault L n cs rs at_ = Option.map (fun (i : Nat) => (i : Int)) (fb (over cs rs) n) := if_neg (fun z => z.elim (fun z => z g1) fun z => z.elim (fun z => z ⟨g3, g4⟩) fun z => z g2)
            rw [hmf] at k1 k2
            o_readsAll
            refine f_enum (xs := rng n cs) (fun i σ' H' => ∃ a b, σ' = [some (.ref t), some (.ref rl), some (.int at_), some (.int L), some (.bl (decide (∀ (r : Int), r ∈ rs → 0 ≤ r ∧ r < (n : Int)))), a, b] ∧ Same H1 H' ∧ ∀ j, j < i → ¬ over cs rs j) ⟨_, _, rfl, Same.refl _, fun j hj => by omega⟩ ?_ ?_ ?_
            · rintro i σ' H2 hi ⟨a, b, rfl, e2, _⟩
              exact .of (e2 _ _ h21)
            · rintro i y σ' H2 T1 H3 hy ⟨a, b, rfl, e2, hp⟩ hT e3 h3
              have hi : i < n := by have := (List.getElem?_eq_some_iff.mp hy).1; rw [rng_len] at this; exact this
              rw [rng_at hi] at hy
              cases hy
              have hrl3 := (e2.trans e3) _ _ hrl1
              have e13 := e1.trans (e2.trans e3)
              o_readsAll
              refine g_countI (.of hrl3) ?_
              o_readsAll
              refine br (fun hb => ?_) (fun hb => ?_)
              · o_readsAll
                refine c_raise fun d H4 fd e4 hd => ?_
                exact k2 (i : Int) (by rw [fb_at (show over cs rs i from hb) hp hi]; rfl) d H4 (e13.free fd) (e13.trans e4) hd
              · o_readsAll
                exact ⟨_, _, rfl, e2.trans e3, fun j hj => by
                  by_cases e : j = i
                  · rw [e]; exact hb
                  · exact hp j (by omega)⟩
            · rintro σ' H2 ⟨a, b, rfl, e2, hp⟩
              rw [rng_len] at hp
              o_readsAll
              exact k1 (by rw [fb_none hp]; rfl) _ (e1.trans e2)
        · o_readsAll
          refine c_raise fun d H2 fd e2 hd => ?_
          exact bad (.inr (.inl fun z => g3 z.1)) rfl (e1.trans e2) (e1.free fd) hd
theorem c_cc {C CL CT t rl : Addr} {at_ L : Int} {n : Nat} {fs : Nat → Int} {ret : Bool} {cs : Nat → Int} {rs : List Int} {H : Hp} {Q : VK} {E : XK} (h : TabAt C CL H t L n fs ret cs) (n40 : n ≤ 40) (hrl : H rl = some (.lst (rs.map V.int))) (hrs : rs.length ≤ 1000) (k1 : mfault L n cs rs at_ = none → ∀ H', Same H H' → Q .non H') (k2 : ∀ r, mfault L n cs rs at_ = some r → RaiseI CT "rung" (.int r) H E) : sp_cc C CL CT [.ref t, .ref rl, .int at_] H Q E := ⟨t, rl, at_, L, n, fs, ret, cs, rs, rfl, h, n40, hrl, hrs, k1, k2⟩
/-- where a player goes -/
def tgt (n : Nat) (fs : Nat → Int) (ret : Bool) (at_ : Int) (i : Nat) (r : Int) : Int := if (if (i : Int) = at_ then r + 1 else fs r.toNat) = n then (if ret then 0 else -1) else (if (i : Int) = at_ then r + 1 else fs r.toNat)
/-- one player moved -/
def bst (cs : Nat → Int) (r t : Int) (j : Nat) : Int := cs j - (if (j : Int) = r then 1 else 0) + (if (j : Int) = t then 1 else 0)
/-- the counts when so many players have been moved -/
def bhN (n : Nat) (fs : Nat → Int) (ret : Bool) (at_ : Int) (rs : List Int) (cs : Nat → Int) : Nat → Nat → Int
  | 0 => cs
  | i + 1 => bst (bhN n fs ret at_ rs cs i) (fn rs i) (tgt n fs ret at_ i (fn rs i))
theorem bhN_ge (n : Nat) (fs : Nat → Int) (ret : Bool) (at_ : Int) (rs : List Int) (cs : Nat → Int) (j : Nat) : ∀ i, i ≤ rs.length → cs j - ((rs.take i).count (j : Int) : Nat) ≤ bhN n fs ret at_ rs cs i j
  | 0, _ => by simp [bhN]
  | i + 1, hi => by
    have ih := bhN_ge n fs ret at_ rs cs j i (by omega)
    have e := List.getElem?_eq_getElem (l := rs) (i := i) (by omega)
    have hfn := fn_at e
    rw [List.take_succ, e, List.count_append]
    show _ ≤ bst (bhN n fs ret at_ rs cs i) (fn rs i) (tgt n fs ret at_ i (fn rs i)) j
    unfold bst
    rw [hfn]
    simp only [Option.toList_some, List.count_singleton, beq_iff_eq]
    generalize rs[i] = r at *
    split <;> split <;> split <;> omega
theorem mf_none {L : Int} {n : Nat} {cs : Nat → Int} {rs : List Int} {at_ : Int} (h : mfault L n cs rs at_ = none) : (rs.length : Int) = L ∧ 0 ≤ at_ ∧ at_ < L ∧ (∀ r ∈ rs, 0 ≤ r ∧ r < n) ∧ ∀ i, i < n → (rs.count (i : Int) : Nat) ≤ cs i := by
  unfold mfault at h
  split at h
  · cases h
  · rename_i hc
    have h1 : (rs.length : Int) = L := Decidable.byContradiction fun z => hc (.inl z)
    have h2 : 0 ≤ at_ ∧ at_ < L := Decidable.byContradiction fun z => hc (.inr (.inl z))
    have h3 : ∀ r ∈ rs, 0 ≤ r ∧ r < n := Decidable.byContradiction fun z => hc (.inr (.inr z))
    refine ⟨h1, h2.1, h2.2, h3, fun i hi => ?_⟩
    rcases fb_cases (p := over cs rs) n with ⟨_, hb⟩ | ⟨j, e, _⟩
    · exact Int.not_lt.mp (hb i hi)
    · rw [e] at h; cases h
theorem bhN_nn {L : Int} {n : Nat} {fs : Nat → Int} {ret : Bool} {cs : Nat → Int} {rs : List Int} {at_ : Int} (h : mfault L n cs rs at_ = none) {i : Nat} (hi : i ≤ rs.length) : ∀ j, j < n → 0 ≤ bhN n fs ret at_ rs cs i j := fun j hj => by
  have h1 := (mf_none h).2.2.2.2 j hj
  have h2 := bhN_ge n fs ret at_ rs cs j i hi
  have h3 : (rs.take i).count (j : Int) ≤ rs.count (j : Int) := (List.take_sublist i rs).count_le _
  omega
def sp_behind (C CL CT : Addr) : Sp := fun vs H Q E => ∃ (t rl : Addr) (at_ L : Int) (n : Nat) (fs : Nat → Int) (ret : Bool) (cs : Nat → Int) (rs : List Int), vs = [.ref t, .ref rl, .int at_] ∧ TabAt C CL H t L n fs ret cs ∧ n ≤ 40 ∧ OkF fs ∧ H rl = some (.lst (rs.map V.int)) ∧ rs.length ≤ 1000 ∧
  (mfault L n cs rs at_ = none → ∀ p t' H', H p = none → H t' = none → Same H H' → H' p = some (.tup [.ref t', .bl (decide (fn rs at_.toNat + 1 = n))]) → TabAt C CL H' t' L n fs ret (bhN n fs ret at_ rs cs rs.length) → (∃ dx l dx' cl cl', H t = some (.ins C dx [("ladder_kept", .ref l), ("counts_list", .ref cl)]) ∧ H cl' = none ∧ H' t' = some (.ins C dx' [("ladder_kept", .ref l), ("counts_list", .ref cl')]) ∧ IL H' cl' n (bhN n fs ret at_ rs cs rs.length)) → Q (.ref p) H') ∧ (∀ r, mfault L n cs rs at_ = some r → RaiseI CT "rung" (.int r) H E)
theorem d_Table_behind (T : Txt K w mg Z) : MthX P w K mg base 5 Z.a_Table "behind" ["self", "rungs", "at"] (sp_behind Z.a_Table Z.a_Ladder Z.a_BadTable) := by
  obtain ⟨f, fd, F, hm, hb⟩ := T.f_Table_behind
  refine ⟨⟨f, fd, F.okX sc_Table_behind (fun vs H Q E h => by first | (obtain ⟨rfl, _⟩ := h; rfl) | (obtain ⟨_, rfl, _⟩ := h; rfl) | (obtain ⟨_, _, rfl, _⟩ := h; rfl) | (obtain ⟨_, _, _, rfl, _⟩ := h; rfl) | (obtain ⟨_, _, _, _, rfl, _⟩ := h; rfl) | (obtain ⟨_, _, _, _, _, rfl, _⟩ := h; rfl) | (obtain ⟨_, _, _, _, _, _, rfl, _⟩ := h; rfl) | (obtain ⟨_, _, _, _, _, _, _, rfl, _⟩ := h; rfl) | (obtain ⟨_, _, _, _, _, _, _, _, rfl, _⟩ := h; rfl) | (obtain ⟨_, _, _, _, _, _, _, _, _, rfl, _⟩ := h; rfl) | (obtain ⟨_, _, _, _, _, _, _, _, _, _, rfl, _⟩ := h; rfl) | (obtain ⟨_, _, _, _, _, _, _, _, _, _, _, rfl, _⟩ := h; rfl) | (obtain ⟨_, _, _, _, _, _, _, _, _, _, _, _, rfl, _⟩ := h; rfl) | (obtain ⟨_, _, _, _, _, _, _, _, _, _, _, _, _, rfl, _⟩ := h; rfl) | (obtain ⟨_, _, _, _, _, _, _, _, _, _, _, _, _, _, rfl, _⟩ := h; rfl) | (obtain ⟨_, _, _, _, _, _, _, _, _, _, _, _, _, _, _, rfl, _⟩ := h; rfl) | (obtain ⟨_, _, _, _, _, _, _, _, _, _, _, _, _, _, _, _, rfl, _⟩ := h; rfl)) (fun cdv A outer s H vs Q E hr h => ?_), hm, hb⟩, T.l_Table⟩
  obtain ⟨t, rl, at_, L, n, fs, ret, cs, rs, rfl, ht, n40, ok, hrl, hrs, k1, k2⟩ := h
  have ht' := ht
  obtain ⟨dx, l, cl, h1, h2, h3⟩ := ht'
  unfold IL at h2
  have h3' := h3
  obtain ⟨ldx, fl, lt, hh, wl, ps, a1, _, _, _, _, _, _⟩ := h3'
  have D_Table_check_called := d_Table_check_called (P := P) (base := base) T
  have D_Table_init := d_Table_init (P := P) (base := base) T
  have D_Ladder_fall := d_Ladder_fall (P := P) (base := base) T
  have D_Ladder_returns := d_Ladder_returns (P := P) (base := base) T
  have l_Table := T.l_Table
  have n_Table_ladder_kept := T.n_Table_ladder_kept
  have n_Table_counts_list := T.n_Table_counts_list
  refine ⟨_, (pss_cons (ps_expr (pe_mthS D_Table_check_called (hr.mono (by decide)) (takes_of rfl rfl rfl rfl) (pv 0) (pa_cons (pv 1) (pa_cons (pv 2) pa_nil))))
      (pss_cons (ps_set (i := 3) sc_Table_behind.nd rfl (.inl rfl) (pe_callTy call_uList (by rfl) T.b_list bt_list (pa_cons (pe_fld (pv 0) rfl) pa_nil)))
      (pss_cons (ps_for (passes_of rfl) rfl (pi_enum (by rfl) T.b_enumerate (pa_cons (pv 1) pa_nil)) (pg_tup (by rfl) (pgs_cons (pg_name (i := 4) sc_Table_behind.nd rfl (.inl rfl)) (pgs_cons (pg_name (i := 5) sc_Table_behind.nd rfl (.inl rfl)) pgs_nil)))
        (pss_cons (ps_asg (pe_op op_sub (pe_ix ix_seq (pv 3) (pv 5) (fun _ _ => rfl)) pe_int) (pg_sub (pv 3) (pv 5) set_list))
      (pss_cons (ps_set (i := 6) sc_Table_behind.nd rfl (.inl rfl) (pe_ifExp (pt_cmpR (op_uEq hr.units) (pv 4) (pv 2) (nomark _)) (pe_op op_uAdd (pv 5) pe_int) (pe_mthS D_Ladder_fall (hr.mono (by decide)) (takes_of rfl rfl rfl rfl) (pe_fld (pv 0) rfl) (pa_cons (pv 5) pa_nil))))
      (pss_cons (ps_if (pt_cmpR (op_uEq hr.units) (pv 6) (pe_callB call_uLen (by rfl) T.b_len bt_len (pa_cons (pv 3) pa_nil)) (nomark _)) (pss_one (ps_set (i := 6) sc_Table_behind.nd rfl (.inl rfl) (pe_ifExp (pt_u (pe_mth0 D_Ladder_returns (hr.mono (by decide)) (pe_fld (pv 0) rfl))) pe_int (pe_gi T.c_OUT)))) pss_nil)
      (pss_one (ps_if (pt_cmpR (op_uNe hr.units) (pv 6) (pe_gi T.c_OUT) (nomark _)) (pss_one (ps_asg (pe_op op_uAdd (pe_ix ix_seq (pv 3) (pv 6) (fun _ _ => rfl)) pe_int) (pg_sub (pv 3) (pv 6) set_list))) pss_nil))))))
      (pss_cons (ps_set (i := 7) sc_Table_behind.nd rfl (.inl rfl) (pe_cmpR (op_uEq hr.units) (pe_op op_uAdd (pe_ix ix_seq (pv 1) (pv 2) (fun _ _ => rfl)) pe_int) (pe_callB call_uLen (by rfl) T.b_len bt_len (pa_cons (pv 3) pa_nil)) (nomark _)))
      (pss_one (ps_ret (pe_tup (pa_cons (pe_ini D_Table_init (hr.mono (by decide)) (by rfl) (pa_cons (pe_fld (pv 0) rfl) (pa_cons (pv 3) pa_nil))) (pa_cons (pv 7) pa_nil))))))))), ?_⟩
  try dsimp only [cxOf, Cx.nox, Cx.wish]
  show (_ : TS) _ [some _, some _, some _, none, none, none, none, none] _
  o_readsAll
  refine c_cc ht n40 hrl hrs (fun hm H1 e1 => ?_) k2
  obtain ⟨mL, m0, m1, mr, mc⟩ := mf_none hm
  have h11 := e1 _ _ h1
  have h21 := e1 _ _ h2
  have hrl1 := e1 _ _ hrl
  have a11 := e1 _ _ a1
  o_readsAll
  rename_i q H2 fq e2 hq N2 hN2
  have e02 := e1.trans e2
  have hrl2 := e2 _ _ hrl1
  refine f_enum (xs := rs.map V.int) (fun i σ' H' => ∃ a b c, σ' = [some (.ref t), some (.ref rl), some (.int at_), some (.ref q), a, b, c, none] ∧ Same H1 H' ∧ IL H' q n (bhN n fs ret at_ rs cs i)) ⟨_, _, _, rfl, e2, hq⟩ ?_ ?_ ?_
  · rintro i σ' H3 hi ⟨a, b, c, rfl, e3, h3q⟩
    exact .of (e3 _ _ hrl1)
  · rintro i y σ' H3 T1 H4 hy ⟨a, b, c, rfl, e3, h3q⟩ hT e4 h4
    rw [List.getElem?_map] at hy
    obtain ⟨r, hri, rfl⟩ := Option.map_eq_some_iff.mp hy
    have hi : i < rs.length := (List.getElem?_eq_some_iff.mp hri).1
    have hfn := fn_at hri
    obtain ⟨r0, rn⟩ := mr r (List.mem_of_getElem? hri)
    obtain ⟨r, rfl⟩ : ∃ a' : Nat, r = a' := ⟨r.toNat, by omega⟩
    have hrn : r < n := by omega
    have h4q := h3q.same e4
    have okr := ok r
    have hnext : bhN n fs ret at_ rs cs (i + 1) = bst (bhN n fs ret at_ rs cs i) (r : Int) (tgt n fs ret at_ i (r : Int)) := by
      show bst (bhN n fs ret at_ rs cs i) (fn rs i) (tgt n fs ret at_ i (fn rs i)) = _
      rw [hfn]
    have htg : tgt n fs ret at_ i (r : Int) = if (if (i : Int) = at_ then (r : Int) + 1 else fs r) = n then (if ret then 0 else -1) else (if (i : Int) = at_ then (r : Int) + 1 else fs r) := by
      unfold tgt
      rw [Int.toNat_natCast]
    obtain ⟨t0, ht0⟩ : ∃ t0 : Int, t0 = (if (i : Int) = at_ then (r : Int) + 1 else fs r) := ⟨_, rfl⟩
    obtain ⟨t1, ht1⟩ : ∃ t1 : Int, t1 = (if t0 = n then (if ret then 0 else -1) else t0) := ⟨_, rfl⟩
    rw [← ht0, ← ht1] at htg
    rw [htg] at hnext
    rw [hnext]
    clear htg hnext
    have hto : -1 ≤ t0 ∧ t0 ≤ n := by rw [ht0]; split <;> omega
    have htn1 : -1 ≤ t1 ∧ t1 < n := by
      rw [ht1]
      split
      · cases ret <;> simp <;> omega
      · omega
    generalize bhN n fs ret at_ rs cs i = bc at *
    have e14 := e3.trans e4
    o_readsAll
    refine g_ixL h4q.sq (atI_nat (rng_at hrn)) ?_
    o_readsAll
    refine g_setL h4q (by rw [rng_len]; exact ixN_at hrn) (rng_set n r _ _) ?_
    have e1u : Same H1 (upd H4 q (.lst (rng n fun j => if j = r then bc r - 1 else bc j))) := Eg.Same.put e14 fq
    have hu : IL (upd H4 q (.lst (rng n fun j => if j = r then bc r - 1 else bc j))) q n (fun j => if j = r then bc r - 1 else bc j) := upd_same
    generalize upd H4 q (.lst (rng n fun j => if j = r then bc r - 1 else bc j)) = H5 at *
    have h15 := e1u _ _ h11
    have a15 := e1u _ _ a11
    have hl5 := (h3.same e1).same e1u
    o_readsAll
    refine jnE (fun x H' => x = .int t0 ∧ H' = H5) ?_ (fun Q' hQ => br (fun hc => ?_) (fun hc => ?_))
    · rintro x H' ⟨rfl, rfl⟩
      have hu' := hu
      unfold IL at hu'
      o_readsAll
      rw [rng_len]
      refine jnS (fun (σ' : L2.St) (H'' : Hp) => σ' = [some (.ref t), some (.ref rl), some (.int at_), some (.ref q), some (.int (i : Int)), some (.int (r : Int)), some (.int t1), none] ∧ H'' = H') ?_ (fun N hN => br (fun hk => ?_) (fun hk => ?_))
      · rintro σ' H'' ⟨rfl, rfl⟩
        o_readsAll
        refine brn (fun hk => ?_) (fun hk => ?_)
        · obtain ⟨t1, rfl⟩ : ∃ a' : Nat, t1 = a' := ⟨t1.toNat, by omega⟩
          have htn : t1 < n := by omega
          clear ht1
          o_readsAll
          refine g_ixL hu.sq (atI_nat (rng_at htn)) ?_
          o_readsAll
          refine g_setL hu (by rw [rng_len]; exact ixN_at htn) (rng_set n t1 _ _) ?_
          refine ⟨_, _, _, rfl, Eg.Same.put e1u fq, ?_⟩
          unfold IL
          rw [upd_same]
          refine congrArg (fun z => some (HO.lst z)) (rng_congr fun j hj => ?_)
          unfold bst
          by_cases hj1 : j = t1
          · subst hj1
            by_cases hj2 : j = r
            · subst hj2
              simp
            · simp [hj2, show ¬ ((j : Int) = (r : Int)) from fun z => hj2 (by omega)]
          · by_cases hj2 : j = r
            · subst hj2
              simp [hj1, show ¬ ((j : Int) = (t1 : Int)) from fun z => hj1 (by omega)]
            · simp [hj1, hj2, show ¬ ((j : Int) = (t1 : Int)) from fun z => hj1 (by omega), show ¬ ((j : Int) = (r : Int)) from fun z => hj2 (by omega)]
        · o_readsAll
          refine ⟨_, _, _, rfl, e1u, ?_⟩
          unfold IL at hu ⊢
          rw [hu]
          refine congrArg (fun z => some (HO.lst z)) (rng_congr fun j hj => ?_)
          unfold bst
          by_cases hj2 : j = r <;> simp [hj2] <;> omega
      · o_readsAll
        refine c_lnum hl5 ?_
        o_readsAll
        refine brB (fun hb => ?_) (fun hb => ?_)
        · o_readsAll
          exact ⟨by rw [ht1, if_pos hk, if_pos hb]; rfl, rfl⟩
        · o_readsAll
          exact ⟨by rw [ht1, if_pos hk, hb]; rfl, rfl⟩
      · o_readsAll
        exact ⟨by rw [ht1, if_neg hk]; rfl, rfl⟩
    · o_readsAll
      exact hQ _ _ ⟨by rw [ht0, if_pos hc], rfl⟩
    · o_readsAll
      refine c_lfall hl5 hrn ?_
      exact hQ _ _ ⟨by rw [ht0, if_neg hc], rfl⟩
  · rintro σ' H3 ⟨a, b, c, rfl, e3, h3q⟩
    rw [List.length_map] at h3q
    have hrl3 := e3 _ _ hrl1
    have h13 := e3 _ _ h11
    have h3q' := h3q
    unfold IL at h3q'
    obtain ⟨at_, rfl⟩ : ∃ a' : Nat, at_ = a' := ⟨at_.toNat, by omega⟩
    have hat : at_ < rs.length := by omega
    have hra := List.getElem?_eq_getElem (l := rs) (i := at_) hat
    rw [Int.toNat_natCast] at k1
    have hfa := fn_at hra
    o_readsAll
    refine g_ixL (v := .int (rs[at_]'hat)) (.of hrl3) (atI_nat (by rw [List.getElem?_map, hra]; rfl)) ?_
    o_readsAll
    rw [rng_len]
    refine c_tmakeF ((h3.same e1).same e3) h3q n40 (bhN_nn hm (Nat.le_refl _)) fun t' H4 ft e4 ht4 ⟨dx', cl', fcl', g1, g2⟩ => ?_
    o_readsAll
    rename_i p H5 fp e5 hp
    have e03 := e1.trans e3
    have hd' : decide (rs[at_] + 1 = (n : Int)) = decide (fn rs at_ + 1 = (n : Int)) := by rw [hfa]
    rw [hd'] at hp
    exact k1 hm p t' H5 ((e03.trans e4).free fp) (e03.free ft) ((e03.trans e4).trans e5) hp (ht4.same e5) ⟨dx, l, dx', cl, cl', h1, e03.free fcl', e5 _ _ g1, g2.same e5⟩
end
end L31

namespace L31
set_option exponentiation.threshold 2000
open SX Ld
section
variable {P : Program} {w : World} {K : PySem.W.Frag} {mg : Str → Option Value} {base : Heap} {Z : Ad}
theorem c_eheads {p : Addr} {L : Int} {n : Nat} {fs : Nat → Int} {ret : Bool} {H : Hp} {Q : VK} {E : XK} (h : PlA H p L n fs ret) (l0 : 0 ≤ L) (l6 : L ≤ 6) (n40 : n ≤ 40) (ok : OkF fs) (k : ∀ q H', H q = none → Same H H' → IL H' q (n + 1) (hd L fs) → Q (.ref q) H') : sp_eheads [.ref p] H Q E := ⟨p, L, n, fs, ret, rfl, h, l0, l6, n40, ok, k⟩
theorem c_eloads {p : Addr} {L : Int} {n : Nat} {fs : Nat → Int} {ret : Bool} {H : Hp} {Q : VK} {E : XK} (h : PlA H p L n fs ret) (l0 : 0 ≤ L) (l6 : L ≤ 6) (n40 : n ≤ 40) (ok : OkF fs) (k : ∀ q qs H', H q = none → Same H H' → H' q = some (.lst (qs.map V.ref)) → qs.length = n → RowsAt H' qs n L fs → Q (.ref q) H') : sp_eloads [.ref p] H Q E := ⟨p, L, n, fs, ret, rfl, h, l0, l6, n40, ok, k⟩
def sp_esum : Sp := fun vs H Q _ => ∃ (r c : Addr) (n m : Nat) (s v : Nat → Int), vs = [.ref r, .ref c] ∧ IL H c n s ∧ IL H r m v ∧ n ≤ m ∧ m ≤ 41 ∧ (∀ i, i < n → (s i).natAbs < 2 ^ 250 ∧ (v i).natAbs < 2 ^ 250) ∧ ∀ H', Same H H' → Q (.int (sm (fun b => v b * s b) n)) H'
theorem d_law_e_sum (T : Txt K w mg Z) : Dfn P w K mg base 1 "_law_e_sum" ["row", "counts"] (sp_esum) := by
  obtain ⟨f, fd, F, hm, hb⟩ := T.f_law_e_sum
  refine ⟨f, fd, F.ok sc_law_e_sum (fun vs H Q E h => by first | (obtain ⟨rfl, _⟩ := h; rfl) | (obtain ⟨_, rfl, _⟩ := h; rfl) | (obtain ⟨_, _, rfl, _⟩ := h; rfl) | (obtain ⟨_, _, _, rfl, _⟩ := h; rfl) | (obtain ⟨_, _, _, _, rfl, _⟩ := h; rfl) | (obtain ⟨_, _, _, _, _, rfl, _⟩ := h; rfl) | (obtain ⟨_, _, _, _, _, _, rfl, _⟩ := h; rfl) | (obtain ⟨_, _, _, _, _, _, _, rfl, _⟩ := h; rfl) | (obtain ⟨_, _, _, _, _, _, _, _, rfl, _⟩ := h; rfl) | (obtain ⟨_, _, _, _, _, _, _, _, _, rfl, _⟩ := h; rfl) | (obtain ⟨_, _, _, _, _, _, _, _, _, _, rfl, _⟩ := h; rfl) | (obtain ⟨_, _, _, _, _, _, _, _, _, _, _, rfl, _⟩ := h; rfl) | (obtain ⟨_, _, _, _, _, _, _, _, _, _, _, _, rfl, _⟩ := h; rfl) | (obtain ⟨_, _, _, _, _, _, _, _, _, _, _, _, _, rfl, _⟩ := h; rfl) | (obtain ⟨_, _, _, _, _, _, _, _, _, _, _, _, _, _, rfl, _⟩ := h; rfl) | (obtain ⟨_, _, _, _, _, _, _, _, _, _, _, _, _, _, _, rfl, _⟩ := h; rfl) | (obtain ⟨_, _, _, _, _, _, _, _, _, _, _, _, _, _, _, _, rfl, _⟩ := h; rfl)) (fun cdv A outer s H vs Q E hr h => ?_), hm, F.kp, hb⟩
  obtain ⟨r, c, n, m, s, v, rfl, hc, hr', hnm, hm, hb, k⟩ := h
  have hc' := hc
  unfold IL at hc'
  refine ⟨_, (pss_one (ps_ret (pe_callB (cr_sum rfl) (by rfl) T.b_sum bt_sum (pa_cons (pe_lc (own := [("b", 2)]) (by rfl) sc_law_e_sum.nd (pi_range1 (by rfl) T.b_range (pa_cons (pe_callB call_uLen (by rfl) T.b_len bt_len (pa_cons (pv 1) pa_nil)) pa_nil)) (blkOk_by (N := n_law_e_sum) (sc := defScope st_law_e_sum) (by decide +kernel)) (fun _ _ _ _ _ => (pg_name (i := 2) sc_law_e_sum.nd rfl (.inl rfl))) (fun _ _ _ _ _ => pts_nil) (fun _ _ _ _ _ => (pe_op op_uMul (pe_ix (ix_seqK (K := K) rfl) (pv 0) (pv 2) (fun _ _ => rfl)) (pe_ix (ix_seqK (K := K) rfl) (pv 1) (pv 2) (fun _ _ => rfl))))) pa_nil)))), ?_⟩
  try dsimp only [cxOf, Cx.nox, Cx.wish]
  show (_ : TS) _ [some _, some _, none] _
  o_readsAll
  rw [rng_len, Int.toNat_natCast]
  refine l_rngP (fun i => .int (v i * s i)) (fun x => rfl) (fun D i H' hi hD e hl => ?_) fun q H2 hq e2 h2 => ?_
  · rw [Int.zero_add]
    obtain ⟨b1, b2⟩ := hb i hi
    o_readsAll
    refine g_ixL (hr'.same e).sq (atI_nat (rng_at (by omega))) ?_
    o_readsAll
    refine g_ixL (hc.same e).sq (atI_nat (rng_at (by omega))) ?_
    refine g_mulW (mul_nb b2 b1 (by decide)) ?_
    exact g_itemP e hl hD (by rw [sizeLine_eq]; omega) rfl
  · o_readsAll
    refine g_sumI (f := fun i => v i * s i) (n := n) h2 ?_
    o_readsAll
    exact k _ e2
theorem c_esum {r c : Addr} {n m : Nat} {s v : Nat → Int} {H : Hp} {Q : VK} {E : XK} (hc : IL H c n s) (hr : IL H r m v) (hnm : n ≤ m) (hm : m ≤ 41) (hb : ∀ i, i < n → (s i).natAbs < 2 ^ 250 ∧ (v i).natAbs < 2 ^ 250) (k : ∀ H', Same H H' → Q (.int (sm (fun b => v b * s b) n)) H') : sp_esum [.ref r, .ref c] H Q E := ⟨r, c, n, m, s, v, rfl, hc, hr, hnm, hm, hb, k⟩
theorem flat_rng (n : Nat) (f : Nat → Int) : (rng n f).all flatV = true := by rw [rng_ints]; exact flat_ints _
def sp_eworths : Sp := fun vs H Q _ => ∃ (p : Addr) (L : Int) (n : Nat) (fs : Nat → Int) (ret : Bool), vs = [.ref p] ∧ PlA H p L n fs ret ∧ 0 ≤ L ∧ L ≤ 6 ∧ n ≤ 40 ∧ OkF fs ∧ ∀ q H', H q = none → Same H H' → IL H' q (n + 1) (wd L fs) → Q (.ref q) H'
theorem c_eworths {p : Addr} {L : Int} {n : Nat} {fs : Nat → Int} {ret : Bool} {H : Hp} {Q : VK} {E : XK} (h : PlA H p L n fs ret) (l0 : 0 ≤ L) (l6 : L ≤ 6) (n40 : n ≤ 40) (ok : OkF fs) (k : ∀ q H', H q = none → Same H H' → IL H' q (n + 1) (wd L fs) → Q (.ref q) H') : sp_eworths [.ref p] H Q E := ⟨p, L, n, fs, ret, rfl, h, l0, l6, n40, ok, k⟩
def sp_ebehind : Sp := fun vs H Q _ => ∃ (p q rl : Addr) (at_ L : Int) (n : Nat) (fs cs : Nat → Int) (ret : Bool) (rs : List Int), vs = [.ref p, .ref q, .ref rl, .int at_] ∧ PlA H p L n fs ret ∧ IL H q n cs ∧ n ≤ 40 ∧ OkF fs ∧ H rl = some (.lst (rs.map V.int)) ∧ rs.length ≤ 1000 ∧ mfault L n cs rs at_ = none ∧ ∀ tp ap H', H tp = none → H ap = none → Same H H' → H' tp = some (.tup [.ref ap, .bl (decide (fn rs at_.toNat + 1 = n))]) → IL H' ap n (bhN n fs ret at_ rs cs rs.length) → Q (.ref tp) H'
theorem d_law_e_behind (T : Txt K w mg Z) : Dfn P w K mg base 1 "_law_e_behind" ["ladder", "counts", "rungs", "at"] (sp_ebehind) := by
  obtain ⟨f, fd, F, hm, hb⟩ := T.f_law_e_behind
  refine ⟨f, fd, F.ok sc_law_e_behind (fun vs H Q E h => by first | (obtain ⟨rfl, _⟩ := h; rfl) | (obtain ⟨_, rfl, _⟩ := h; rfl) | (obtain ⟨_, _, rfl, _⟩ := h; rfl) | (obtain ⟨_, _, _, rfl, _⟩ := h; rfl) | (obtain ⟨_, _, _, _, rfl, _⟩ := h; rfl) | (obtain ⟨_, _, _, _, _, rfl, _⟩ := h; rfl) | (obtain ⟨_, _, _, _, _, _, rfl, _⟩ := h; rfl) | (obtain ⟨_, _, _, _, _, _, _, rfl, _⟩ := h; rfl) | (obtain ⟨_, _, _, _, _, _, _, _, rfl, _⟩ := h; rfl) | (obtain ⟨_, _, _, _, _, _, _, _, _, rfl, _⟩ := h; rfl) | (obtain ⟨_, _, _, _, _, _, _, _, _, _, rfl, _⟩ := h; rfl) | (obtain ⟨_, _, _, _, _, _, _, _, _, _, _, rfl, _⟩ := h; rfl) | (obtain ⟨_, _, _, _, _, _, _, _, _, _, _, _, rfl, _⟩ := h; rfl) | (obtain ⟨_, _, _, _, _, _, _, _, _, _, _, _, _, rfl, _⟩ := h; rfl) | (obtain ⟨_, _, _, _, _, _, _, _, _, _, _, _, _, _, rfl, _⟩ := h; rfl) | (obtain ⟨_, _, _, _, _, _, _, _, _, _, _, _, _, _, _, rfl, _⟩ := h; rfl) | (obtain ⟨_, _, _, _, _, _, _, _, _, _, _, _, _, _, _, _, rfl, _⟩ := h; rfl)) (fun cdv A outer s H vs Q E hr h => ?_), hm, F.kp, hb⟩
  obtain ⟨p, q, rl, at_, L, n, fs, cs, ret, rs, rfl, ⟨fl, hp1, hp2⟩, hq, n40, ok, hrl, hrs, hm, k⟩ := h
  obtain ⟨mL, m0, m1, mr, mc⟩ := mf_none hm
  unfold IL at hq hp2
  refine ⟨_, (pss_cons (ps_set (i := 4) sc_law_e_behind.nd rfl (.inl rfl) (pe_callTy call_uList (by rfl) T.b_list bt_list (pa_cons (pv 1) pa_nil)))
      (pss_cons (ps_set (i := 5) sc_law_e_behind.nd rfl (.inl rfl) pe_bl)
      (pss_cons (ps_for PassesOwn.never rfl (pi_range1 (by rfl) T.b_range (pa_cons (pe_callB call_uLen (by rfl) T.b_len bt_len (pa_cons (pv 2) pa_nil)) pa_nil)) (pg_name (i := 6) sc_law_e_behind.nd rfl (.inl rfl))
        (pss_cons (ps_set (i := 7) sc_law_e_behind.nd rfl (.inl rfl) (pe_ix ix_seq (pv 2) (pv 6) (fun _ _ => rfl)))
      (pss_cons (ps_augS (pv 4) (pv 7) get_list pe_int ip_sub set_list)
      (pss_cons (ps_set (i := 8) sc_law_e_behind.nd rfl (.inl rfl) (pe_ifExp (pt_cmpR (op_uEq hr.units) (pv 6) (pv 3) (nomark _)) (pe_op op_uAdd (pv 7) pe_int) (pe_ix ix_seq (pe_ix ix_seq (pv 0) pe_int (fun _ _ => rfl)) (pv 7) (fun _ _ => rfl))))
      (pss_cons (ps_if (pt_cmpR (op_uEq hr.units) (pv 8) (pe_callB call_uLen (by rfl) T.b_len bt_len (pa_cons (pv 1) pa_nil)) (nomark _)) (pss_cons (ps_set (i := 5) sc_law_e_behind.nd rfl (.inl rfl) pe_bl)
      (pss_one (ps_set (i := 8) sc_law_e_behind.nd rfl (.inl rfl) (pe_ifExp (pt_u (pe_ix ix_seq (pv 0) pe_int (fun _ _ => rfl))) pe_int (pe_un un_neg pe_int))))) pss_nil)
      (pss_one (ps_if (pt_cmpR op_ge (pv 8) pe_int (nomark _)) (pss_one (ps_augS (pv 4) (pv 8) get_list pe_int ip_add set_list)) pss_nil)))))))
      (pss_one (ps_ret (pe_tup (pa_cons (pv 4) (pa_cons (pv 5) pa_nil)))))))), ?_⟩
  try dsimp only [cxOf, Cx.nox, Cx.wish]
  show (_ : TS) _ [some _, some _, some _, some _, none, none, none, none, none] _
  o_readsAll
  rename_i ap H1 fap e1 hap N1 hN1 N2 hN2
  rw [List.length_map, Int.toNat_natCast]
  have hrl1 := e1 _ _ hrl
  have hp11 := e1 _ _ hp1
  have hp21 := e1 _ _ hp2
  have hq1 := e1 _ _ hq
  refine f_rng (fun i σ' H' => ∃ (cr : Bool) (x y z : Option V), σ' = [some (.ref p), some (.ref q), some (.ref rl), some (.int at_), some (.ref ap), some (.bl cr), x, y, z] ∧ Same H H' ∧ IL H' ap n (bhN n fs ret at_ rs cs i) ∧ cr = decide (at_ < i ∧ fn rs at_.toNat + 1 = n)) ⟨false, _, _, _, rfl, e1, hap, (decide_eq_false (by omega)).symm⟩ ?_ ?_
  · rintro i σ' H2 hi ⟨cr, x, y, z, rfl, e2, h2, hcr⟩
    rw [Int.zero_add]
    have hri := List.getElem?_eq_getElem (l := rs) (i := i) hi
    have hfn := fn_at hri
    have hmem : rs[i] ∈ rs := List.getElem_mem _
    generalize rs[i] = r at *
    obtain ⟨r0, rn⟩ := mr r hmem
    obtain ⟨r, rfl⟩ : ∃ a' : Nat, r = a' := ⟨r.toNat, by omega⟩
    have hrn : r < n := by omega
    have okr := ok r
    have hrl2 := e2 _ _ hrl
    have hp12 := e2 _ _ hp1
    have hp22 := e2 _ _ hp2
    have hq2 := e2 _ _ hq
    have h2' := h2
    unfold IL at h2'
    o_readsAll
    refine g_ixL (v := .int (r : Int)) (.of hrl2) (atI_nat (by rw [List.getElem?_map, hri]; rfl)) ?_
    o_readsAll
    have hnext : bhN n fs ret at_ rs cs (i + 1) = bst (bhN n fs ret at_ rs cs i) (r : Int) (tgt n fs ret at_ i (r : Int)) := by
      show bst (bhN n fs ret at_ rs cs i) (fn rs i) (tgt n fs ret at_ i (fn rs i)) = _
      rw [hfn]
    have htg : tgt n fs ret at_ i (r : Int) = if (if (i : Int) = at_ then (r : Int) + 1 else fs r) = n then (if ret then 0 else -1) else (if (i : Int) = at_ then (r : Int) + 1 else fs r) := by
      unfold tgt
      rw [Int.toNat_natCast]
    obtain ⟨t0, ht0⟩ : ∃ t0 : Int, t0 = (if (i : Int) = at_ then (r : Int) + 1 else fs r) := ⟨_, rfl⟩
    obtain ⟨t1, ht1⟩ : ∃ t1 : Int, t1 = (if t0 = n then (if ret then 0 else -1) else t0) := ⟨_, rfl⟩
    rw [← ht0, ← ht1] at htg
    rw [htg] at hnext
    have hto : -1 ≤ t0 ∧ t0 ≤ n := by rw [ht0]; split <;> omega
    have htn1 : -1 ≤ t1 ∧ t1 < n := by
      rw [ht1]
      split
      · cases ret <;> simp <;> omega
      · omega
    have hcn : (cr || decide (t0 = n)) = decide (at_ < ((i + 1 : Nat) : Int) ∧ fn rs at_.toNat + 1 = n) := by
      rw [hcr, Bool.eq_iff_iff, Bool.or_eq_true, decide_eq_true_iff, decide_eq_true_iff, decide_eq_true_iff, ht0]
      by_cases hia : (i : Int) = at_
      · rw [if_pos hia, show at_.toNat = i by omega, hfn]
        omega
      · rw [if_neg hia]
        omega
    have fin : ∀ {H' : Hp} (cr' : Bool) (g : Int), Same H H' → cr' = (cr || decide (t0 = n)) → IL H' ap n (bst (bhN n fs ret at_ rs cs i) (r : Int) t1) → ∃ (cr : Bool) (x y z : Option V), [some (V.ref p), some (V.ref q), some (V.ref rl), some (V.int at_), some (V.ref ap), some (V.bl cr'), some (V.int (i : Int)), some (V.int (r : Int)), some (V.int g)] = [some (V.ref p), some (V.ref q), some (V.ref rl), some (V.int at_), some (V.ref ap), some (V.bl cr), x, y, z] ∧ Same H H' ∧ IL H' ap n (bhN n fs ret at_ rs cs (i + 1)) ∧ cr = decide (at_ < ((i + 1 : Nat) : Int) ∧ fn rs at_.toNat + 1 = n) := fun {H'} cr' g e hcr' hI => ⟨cr', _, _, _, rfl, e, by rw [hnext]; exact hI, by rw [hcr', hcn]⟩
    clear htg hnext hcn
    generalize bhN n fs ret at_ rs cs i = bc at *
    refine g_ixLg (.of h2') (atI_nat (rng_at hrn)) ?_
    o_readsAll
    refine g_setL h2' (by rw [rng_len]; exact ixN_at hrn) (rng_set n r _ _) ?_
    have e1u : Same H (upd H2 ap (.lst (rng n fun j => if j = r then bc r - 1 else bc j))) := Eg.Same.put e2 fap
    have hu : IL (upd H2 ap (.lst (rng n fun j => if j = r then bc r - 1 else bc j))) ap n (fun j => if j = r then bc r - 1 else bc j) := upd_same
    generalize upd H2 ap (.lst (rng n fun j => if j = r then bc r - 1 else bc j)) = H5 at *
    have hp15 := e1u _ _ hp1
    have hp25 := e1u _ _ hp2
    have hq5 := e1u _ _ hq
    o_readsAll
    refine jnE (fun x H' => x = .int t0 ∧ H' = H5) ?_ (fun Q' hQ => br (fun hc => ?_) (fun hc => ?_))
    · rintro x' H' ⟨rfl, rfl⟩
      o_readsAll
      rw [rng_len]
      refine jnS (fun (σ' : L2.St) (H'' : Hp) => σ' = [some (.ref p), some (.ref q), some (.ref rl), some (.int at_), some (.ref ap), some (.bl (cr || decide (t0 = n))), some (.int (i : Int)), some (.int (r : Int)), some (.int t1)] ∧ H'' = H') ?_ (fun N hN => br (fun hk => ?_) (fun hk => ?_))
      · rintro σ' H'' ⟨rfl, rfl⟩
        o_readsAll
        refine br (fun hk => ?_) (fun hk => ?_)
        · obtain ⟨t1, rfl⟩ : ∃ a' : Nat, t1 = a' := ⟨t1.toNat, by omega⟩
          have htn : t1 < n := by omega
          clear ht1
          o_readsAll
          refine g_ixLg hu.sq (atI_nat (rng_at htn)) ?_
          o_readsAll
          refine g_setL hu (by rw [rng_len]; exact ixN_at htn) (rng_set n t1 _ _) ?_
          refine fin _ _ (Eg.Same.put e1u fap) rfl ?_
          unfold IL
          rw [upd_same]
          refine congrArg (fun z => some (HO.lst z)) (rng_congr fun j hj => ?_)
          unfold bst
          by_cases hj1 : j = t1
          · subst hj1
            by_cases hj2 : j = r
            · subst hj2
              simp
            · simp [hj2, show ¬ ((j : Int) = (r : Int)) from fun z => hj2 (by omega)]
          · by_cases hj2 : j = r
            · subst hj2
              simp [hj1, show ¬ ((j : Int) = (t1 : Int)) from fun z => hj1 (by omega)]
            · simp [hj1, hj2, show ¬ ((j : Int) = (t1 : Int)) from fun z => hj1 (by omega), show ¬ ((j : Int) = (r : Int)) from fun z => hj2 (by omega)]
        · o_readsAll
          refine fin _ _ e1u rfl ?_
          unfold IL at hu ⊢
          rw [hu]
          refine congrArg (fun z => some (HO.lst z)) (rng_congr fun j hj => ?_)
          unfold bst
          by_cases hj2 : j = r
          · subst hj2
            simp [show ¬ ((j : Int) = t1) from fun z => hk (by omega)]
          · simp [hj2, show ¬ ((j : Int) = t1) from fun z => hk (by omega), show ¬ ((j : Int) = (r : Int)) from fun z => hj2 (by omega)]
      · o_readsAll
        refine brB (fun hb => ?_) (fun hb => ?_)
        · o_readsAll
          exact ⟨by rw [ht1, if_pos hk, if_pos hb, decide_eq_true hk, Bool.or_true]; rfl, rfl⟩
        · o_readsAll
          exact ⟨by rw [ht1, if_pos hk, hb, decide_eq_true hk, Bool.or_true]; rfl, rfl⟩
      · o_readsAll
        exact ⟨by rw [ht1, if_neg hk, decide_eq_false hk, Bool.or_false]; rfl, rfl⟩
    · o_readsAll
      exact hQ _ _ ⟨by rw [ht0, if_pos hc], rfl⟩
    · o_readsAll
      refine g_ixL (.of hp25) (atI_nat (rng_at hrn)) ?_
      exact hQ _ _ ⟨by rw [ht0, if_neg hc], rfl⟩
  · rintro σ' H2 ⟨cr, x, y, z, rfl, e2, h2, hcr⟩
    o_readsAll
    rename_i tp H3 ftp e3 htp
    have hc : cr = decide (fn rs at_.toNat + 1 = n) := by
      rw [hcr, decide_eq_decide]
      exact ⟨fun z => z.2, fun z => ⟨by omega, z⟩⟩
    rw [hc] at htp
    exact k tp ap H3 (e2.free ftp) fap (e2.trans e3) htp (h2.same e3)
end
end L31

namespace L31
set_option exponentiation.threshold 9000
open SX Ld Rd Bl
section
variable {P : Program} {w : World} {K : PySem.W.Frag} {mg : Str → Option Value} {base : Heap} {Z : Ad}
theorem fn_rep {Ln q : Nat} {r : Int} (h : q < Ln) : fn (List.replicate Ln r) q = r := fn_at (by rw [List.getElem?_replicate, if_pos h])
theorem tgt_goes {n : Nat} {fs : Nat → Int} {ret : Bool} {r : Nat} (hr : r < n) (ok : OkF fs) (q : Nat) : tgt n fs ret 0 q (r : Int) = goes n fs ret r (decide (q = 0)) := by
  have okr := ok r
  unfold tgt goes
  by_cases h : q = 0
  · subst h
    rw [if_pos (show ((0 : Nat) : Int) = 0 from rfl), if_pos (show decide (0 = 0) = true from rfl)]
    by_cases h2 : r + 1 = n
    · rw [if_pos h2, if_pos (show (r : Int) + 1 = (n : Int) by omega)]
      rfl
    · rw [if_neg h2, if_neg (show ¬ (r : Int) + 1 = (n : Int) by omega)]
  · rw [if_neg (show ¬ (q : Int) = 0 by omega), decide_eq_false h, Int.toNat_natCast, if_neg (show ¬ fs r = (n : Int) by omega)]
    rfl
theorem bhN_lev {n : Nat} {fs : Nat → Int} {ret : Bool} {cs : Nat → Int} {r Ln : Nat} (hr : r < n) (ok : OkF fs) {b : Nat} : ∀ i, i ≤ Ln → bhN n fs ret 0 (List.replicate Ln (r : Int)) cs i b = cs b - (if b = r then (i : Int) else 0) + sm (fun q => if goes n fs ret r (decide (q = 0)) = (b : Int) then 1 else 0) i
  | 0, _ => by
    show cs b = cs b - (if b = r then (0 : Int) else 0) + 0
    split <;> omega
  | i + 1, hi => by
    have ih := bhN_lev (Ln := Ln) (cs := cs) (ret := ret) hr ok (b := b) i (by omega)
    show bst (bhN n fs ret 0 (List.replicate Ln (r : Int)) cs i) (fn (List.replicate Ln (r : Int)) i) (tgt n fs ret 0 i (fn (List.replicate Ln (r : Int)) i)) b = _
    rw [fn_rep (show i < Ln by omega), tgt_goes hr ok, sm]
    unfold bst
    rw [ih]
    have e1 : (if (b : Int) = (r : Int) then (1 : Int) else 0) = if b = r then 1 else 0 := by
      by_cases h : b = r
      · rw [if_pos h, if_pos (by omega)]
      · rw [if_neg h, if_neg (by omega)]
    have e2 : (if (b : Int) = goes n fs ret r (decide (i = 0)) then (1 : Int) else 0) = if goes n fs ret r (decide (i = 0)) = (b : Int) then 1 else 0 := by
      by_cases h : goes n fs ret r (decide (i = 0)) = (b : Int)
      · rw [if_pos h, if_pos h.symm]
      · rw [if_neg h, if_neg fun z => h z.symm]
    rw [e1, e2]
    generalize (if goes n fs ret r (decide (i = 0)) = (b : Int) then (1 : Int) else 0) = u
    generalize sm (fun q => if goes n fs ret r (decide (q = 0)) = (b : Int) then (1 : Int) else 0) i = v
    split <;> omega
theorem bhN_mv {n : Nat} {fs : Nat → Int} {ret : Bool} {cs : Nat → Int} {r Ln : Nat} (hr : r < n) (ok : OkF fs) (l1 : 0 < Ln) {b : Nat} (hb : b < n) : bhN n fs ret 0 (List.replicate Ln (r : Int)) cs (List.replicate Ln (r : Int)).length b = mv (Ln : Int) n fs ret cs r b := by
  rw [List.length_replicate, bhN_lev hr ok Ln (Nat.le_refl _), goes_all hr hb l1]
  unfold mv
  omega
theorem lev_ok {n : Nat} {cs : Nat → Int} {r Ln : Nat} (hr : r < n) (l1 : 0 < Ln) (hl : (Ln : Int) ≤ cs r) (c0 : ∀ b, b < n → 0 ≤ cs b) : mfault (Ln : Int) n cs (List.replicate Ln (r : Int)) 0 = none := by
  unfold mfault
  rw [if_neg, fb_none]
  · rfl
  · intro i hi h
    unfold over at h
    rw [List.count_replicate] at h
    have := c0 i hi
    by_cases e : i = r
    · subst e
      rw [if_pos (by simp)] at h
      omega
    · rw [if_neg (by simp; omega)] at h
      omega
  · intro h
    rcases h with h | h | h
    · exact h (by rw [List.length_replicate])
    · exact h ⟨by omega, by omega⟩
    · exact h fun x hx => by
        have := List.eq_of_mem_replicate hx
        omega
/-- a level meeting, by the law -/
theorem c_ebehindL {p q rl : Addr} {L : Int} {n r Ln : Nat} {fs cs : Nat → Int} {ret : Bool} {H : Hp} {Q : VK} {E : XK} (hp : PlA H p L n fs ret) (hq : IL H q n cs) (n40 : n ≤ 40) (ok : OkF fs) (hL : L = (Ln : Int)) (l1 : 0 < Ln) (l6 : Ln ≤ 1000) (hr : r < n) (hl : L ≤ cs r) (c0 : ∀ b, b < n → 0 ≤ cs b) (hrl : H rl = some (.lst ((List.replicate Ln (r : Int)).map V.int))) (k : ∀ tp ap H', H tp = none → H ap = none → Same H H' → H' tp = some (.tup [.ref ap, .bl (decide (r + 1 = n))]) → IL H' ap n (mv L n fs ret cs r) → Q (.ref tp) H') : sp_ebehind [.ref p, .ref q, .ref rl, .int 0] H Q E := by
  subst hL
  refine ⟨p, q, rl, 0, _, n, fs, cs, ret, _, rfl, hp, hq, n40, ok, hrl, by rw [List.length_replicate]; exact l6, lev_ok hr l1 hl c0, fun tp ap H' f1 f2 e h1 h2 => k tp ap H' f1 f2 e ?_ ?_⟩
  · rw [h1]
    show some (HO.tup [_, V.bl (decide (fn (List.replicate Ln (r : Int)) 0 + 1 = (n : Int)))]) = _
    rw [fn_rep l1, show decide ((r : Int) + 1 = (n : Int)) = decide (r + 1 = n) from decide_eq_decide.mpr (by omega)]
  · unfold IL at h2 ⊢
    rw [h2]
    congr 2
    exact rng_congr fun b hb => bhN_mv hr ok l1 hb
/-- those that are ready, as a list -/
theorem filt_hi (p : Nat → Bool) : ∀ n, (∀ r, ((List.range n).filter p)[((List.range n).filter p).length - 1]? = some r → r < n ∧ p r = true ∧ ∀ e, r < e → e < n → p e = false) ∧ ((List.range n).filter p = [] → ∀ e, e < n → p e = false)
  | 0 => ⟨fun r h => (nomatch h), fun _ e he => absurd he (Nat.not_lt_zero e)⟩
  | n + 1 => by
    have ih := filt_hi p n
    rw [List.range_succ, List.filter_append]
    by_cases h : p n = true
    · simp only [List.filter_cons, h, if_true, List.filter_nil]
      refine ⟨fun r hr => ?_, fun he => by simp at he⟩
      rw [List.length_append, List.length_singleton, show ((List.range n).filter p).length + 1 - 1 = ((List.range n).filter p).length by omega, List.getElem?_append_right (Nat.le_refl _), Nat.sub_self] at hr
      cases hr
      exact ⟨by omega, h, fun e h1 h2 => by omega⟩
    · have hf : p n = false := by simpa using h
      simp only [List.filter_cons, hf, Bool.false_eq_true, if_false, List.filter_nil, List.append_nil]
      refine ⟨fun r hr => ?_, fun he e hen => ?_⟩
      · obtain ⟨h1, h2, h3⟩ := ih.1 r hr
        refine ⟨by omega, h2, fun e h4 h5 => ?_⟩
        by_cases h6 : e = n
        · rw [h6]; exact hf
        · exact h3 e h4 (by omega)
      · by_cases h6 : e = n
        · rw [h6]; exact hf
        · exact ih.2 he e (by omega)
theorem filt_lo (p : Nat → Bool) (n : Nat) : ∀ r, ((List.range n).filter p)[0]? = some r → r < n ∧ p r = true ∧ ∀ e, e < r → p e = false := by
  induction n with
  | zero => intro r h; cases h
  | succ n ih =>
    intro r h
    rw [List.range_succ, List.filter_append] at h
    by_cases h0 : (List.range n).filter p = []
    · rw [h0, List.nil_append] at h
      by_cases h1 : p n = true
      · simp only [List.filter_cons, h1, if_true, List.filter_nil] at h
        cases h
        exact ⟨by omega, h1, fun e he => (filt_hi p n).2 h0 e he⟩
      · have hf : p n = false := by simpa using h1
        simp only [List.filter_cons, hf, Bool.false_eq_true, if_false, List.filter_nil] at h
        cases h
    · rw [List.getElem?_append_left (by have := List.length_pos_iff.mpr h0; omega)] at h
      obtain ⟨h1, h2, h3⟩ := ih r h
      exact ⟨by omega, h2, h3⟩
theorem hi_eq (L : Int) (s : Pl) : ∀ n r, r < n → rdy L s r → (∀ e, r < e → e < n → ¬ rdy L s e) → hiR L s n = some r
  | 0, r, h, _, _ => by omega
  | n + 1, r, h, hd, ho => by
    unfold hiR
    by_cases e : r = n
    · rw [if_pos (by rw [← e]; exact hd), e]
    · rw [if_neg (ho n (by omega) (by omega))]
      exact hi_eq L s n r (by omega) hd fun e h1 h2 => ho e h1 (by omega)
theorem hi_none (L : Int) (s : Pl) : ∀ n, (∀ e, e < n → ¬ rdy L s e) → hiR L s n = none
  | 0, _ => rfl
  | n + 1, h => by
    unfold hiR
    rw [if_neg (h n (by omega))]
    exact hi_none L s n fun e he => h e (by omega)
theorem lo_none (L : Int) (s : Pl) : ∀ n, (∀ e, e < n → ¬ rdy L s e) → loR L s n = none
  | 0, _ => rfl
  | n + 1, h => by
    show (match loR L s n with | some r => some r | none => if rdy L s n then some n else none) = none
    rw [lo_none L s n fun e he => h e (by omega)]
    exact if_neg (h n (by omega))
theorem lo_eq (L : Int) (s : Pl) : ∀ n r, r < n → rdy L s r → (∀ e, e < r → ¬ rdy L s e) → loR L s n = some r
  | 0, r, h, _, _ => by omega
  | n + 1, r, h, hd, ho => by
    show (match loR L s n with | some r => some r | none => if rdy L s n then some n else none) = some r
    by_cases e : r = n
    · subst e
      rw [lo_none L s r ho]
      exact if_pos hd
    · rw [lo_eq L s n r (by omega) hd ho]
/-- the bill, by the law -/
structure BOk (L : Int) (n : Nat) (fs : Nat → Int) : Prop where
  l2 : 2 ≤ L
  l3 : L ≤ 3
  n0 : 0 < n
  n5 : n ≤ 5
  ok : OkF fs
theorem BOk.ldb {L : Int} {n : Nat} {fs : Nat → Int} (o : BOk L n fs) (a b : Nat) (hb : b ≤ 41) : (ld L fs a b).natAbs < 2 ^ 150 := ld_bd o.ok (by have := o.l2; omega) (by have := o.l3; omega) a b hb
def sp_kbill : Sp := fun vs H Q _ => ∃ (p fq lq : Addr) (x L : Int) (n : Nat) (fs first last : Nat → Int) (ret : Bool), vs = [.ref p, .ref fq, .ref lq, .int x] ∧ PlA H p L n fs ret ∧ IL H fq n first ∧ IL H lq n last ∧ BOk L n fs ∧ (∀ i, i < n → (first i).natAbs < 2 ^ 100) ∧ (∀ i, i < n → (last i).natAbs < 2 ^ 100) ∧ x.natAbs < 2 ^ 100 ∧ ∀ q H', H q = none → Same H H' → IL H' q n (bill L n fs first last x) → Q (.ref q) H'
theorem d_law_k31_bill (T : Txt K w mg Z) : Dfn P w K mg base 3 "_law_k31_bill" ["plain", "first", "last", "crowns"] (sp_kbill) := by
  obtain ⟨f, fd, F, hm, hb⟩ := T.f_law_k31_bill
  refine ⟨f, fd, F.ok sc_law_k31_bill (fun vs H Q E h => by first | (obtain ⟨rfl, _⟩ := h; rfl) | (obtain ⟨_, rfl, _⟩ := h; rfl) | (obtain ⟨_, _, rfl, _⟩ := h; rfl) | (obtain ⟨_, _, _, rfl, _⟩ := h; rfl) | (obtain ⟨_, _, _, _, rfl, _⟩ := h; rfl) | (obtain ⟨_, _, _, _, _, rfl, _⟩ := h; rfl) | (obtain ⟨_, _, _, _, _, _, rfl, _⟩ := h; rfl) | (obtain ⟨_, _, _, _, _, _, _, rfl, _⟩ := h; rfl) | (obtain ⟨_, _, _, _, _, _, _, _, rfl, _⟩ := h; rfl) | (obtain ⟨_, _, _, _, _, _, _, _, _, rfl, _⟩ := h; rfl) | (obtain ⟨_, _, _, _, _, _, _, _, _, _, rfl, _⟩ := h; rfl) | (obtain ⟨_, _, _, _, _, _, _, _, _, _, _, rfl, _⟩ := h; rfl) | (obtain ⟨_, _, _, _, _, _, _, _, _, _, _, _, rfl, _⟩ := h; rfl) | (obtain ⟨_, _, _, _, _, _, _, _, _, _, _, _, _, rfl, _⟩ := h; rfl) | (obtain ⟨_, _, _, _, _, _, _, _, _, _, _, _, _, _, rfl, _⟩ := h; rfl) | (obtain ⟨_, _, _, _, _, _, _, _, _, _, _, _, _, _, _, rfl, _⟩ := h; rfl) | (obtain ⟨_, _, _, _, _, _, _, _, _, _, _, _, _, _, _, _, rfl, _⟩ := h; rfl)) (fun cdv A outer s H vs Q E hr h => ?_), hm, F.kp, hb⟩
  obtain ⟨p, fq, lq, x, L, n, fs, first, last, ret, rfl, hp, hf, hl, o, fb, lb, xb, k⟩ := h
  have n0 := o.n0
  have n5 := o.n5
  have l2 := o.l2
  have l3 := o.l3
  have hf' := hf
  unfold IL at hf'
  have D_law_e_loads := d_law_e_loads (P := P) (base := base) T
  have D_law_e_sum := d_law_e_sum (P := P) (base := base) T
  refine ⟨_, (pss_cons (ps_set (i := 4) sc_law_k31_bill.nd rfl (.inl rfl) (pe_callB call_uLen (by rfl) T.b_len bt_len (pa_cons (pv 1) pa_nil)))
      (pss_cons (ps_set (i := 5) sc_law_k31_bill.nd rfl (.inl rfl) (pe_lst pa_nil))
      (pss_cons (ps_for PassesOwn.never rfl (pi_list (pe_dfn D_law_e_loads (hr.mono (by decide)) (by rfl) (pa_cons (pv 0) pa_nil))) (pg_name (i := 6) sc_law_k31_bill.nd rfl (.inl rfl))
        (pss_one (ps_expr (pe_bm PySem.F.plainAttrs_list PySem.F.slot_list_append PySem.F.type_list_append mt_append (pv 5) (pa_cons (pe_op op_uAdd (pe_op op_sub (pe_dfn D_law_e_sum (hr.mono (by decide)) (by rfl) (pa_cons (pv 6) (pa_cons (pv 2) pa_nil))) (pe_dfn D_law_e_sum (hr.mono (by decide)) (by rfl) (pa_cons (pv 6) (pa_cons (pv 1) pa_nil)))) (pe_op op_uMul (pv 3) (pe_ix ix_seq (pv 6) (pv 4) (fun _ _ => rfl)))) pa_nil)))))
      (pss_one (ps_ret (pv 5)))))), ?_⟩
  try dsimp only [cxOf, Cx.nox, Cx.wish]
  show (_ : TS) _ [some _, some _, some _, some _, none, none, none] _
  o_readsAll
  rw [rng_len]
  rename_i r H1 fr e1 hr1 N hN
  refine c_eloads (hp.same e1) (by omega) (by omega) (by omega) o.ok fun lq0 qs H2 flq e2 hlq hql hqs => ?_
  have e02 : Same H H2 := e1.trans e2
  have hr2 := e2 _ _ hr1
  have nr : r ≠ lq0 := ne_of_none hr1 flq
  have up : ∀ {z : Int} {m : Nat}, z.natAbs < 2 ^ m → m ≤ 250 → z.natAbs < 2 ^ 250 := fun h hm => Nat.lt_of_lt_of_le h (Nat.pow_le_pow_right (by decide) hm)
  o_readsAll
  refine f_lst (xs := qs.map V.ref) (fun i σ' H' => ∃ (x7 : Option V), σ' = [some (.ref p), some (.ref fq), some (.ref lq), some (.int x), some (.int (n : Int)), some (.ref r), x7] ∧ Off r H2 H' ∧ IL H' r i (bill L n fs first last x)) ⟨_, rfl, off_refl _ _, hr2⟩ ?_ ?_ ?_
  · rintro i σ' H' hi ⟨x7, rfl, o3, h3⟩
    exact .of (o3 _ _ nr.symm hlq)
  · rintro i y σ' H3 hy ⟨x7, rfl, o3, h3⟩
    rw [List.getElem?_map] at hy
    obtain ⟨q, hq, rfl⟩ := Option.map_eq_some_iff.mp hy
    have hi : i < n := by have := (List.getElem?_eq_some_iff.mp hq).1; omega
    have f0 : H r = none := fr
    have nq : q ≠ r := fun z => by
      have h2 := hqs i q hq
      rw [z] at h2
      unfold IL at h2
      rw [hr2] at h2
      have := congrArg (fun o => match o with | some (HO.lst l) => l.length | _ => 0) h2
      simp only [rng_len, List.length_nil] at this
      omega
    have hq3 : IL H3 q (n + 1) (ld L fs i) := o3 _ _ nq (hqs i q hq)
    have hf3 : IL H3 fq n first := o3 _ _ (ne_of_none hf f0) (e02 _ _ hf)
    have hl3 : IL H3 lq n last := o3 _ _ (ne_of_none hl f0) (e02 _ _ hl)
    have h3' := h3
    unfold IL at h3'
    o_readsAll
    refine c_esum hl3 hq3 (by omega) (by omega) (fun b hb => ⟨up (lb b hb) (by decide), up (o.ldb i b (by omega)) (by decide)⟩) fun H4 e4 => ?_
    o_readsAll
    refine c_esum (hf3.same e4) (hq3.same e4) (by omega) (by omega) (fun b hb => ⟨up (fb b hb) (by decide), up (o.ldb i b (by omega)) (by decide)⟩) fun H5 e5 => ?_
    have e35 : Same H3 H5 := e4.trans e5
    have h5' := e35 _ _ h3'
    o_readsAll
    refine g_ixL (hq3.same e35).sq (atI_nat (rng_at (Nat.lt_succ_self n))) ?_
    o_readsAll
    refine g_mulW (mul_nb xb (o.ldb i n (by omega)) (by decide)) ?_
    o_readsAll
    refine ⟨_, rfl, (o3.same e35).upd, ?_⟩
    show upd _ _ _ _ = _
    rw [upd_same, rng_succ]
    unfold bill
    rw [sm_congr (f := fun b => ld L fs i b * last b) (g := fun b => last b * ld L fs i b) (fun b _ => Int.mul_comm _ _), sm_congr (f := fun b => ld L fs i b * first b) (g := fun b => first b * ld L fs i b) (fun b _ => Int.mul_comm _ _)]
  · rintro σ' H3 ⟨x7, rfl, o3, h3⟩
    rw [List.length_map, hql] at h3
    o_readsAll
    exact k r H3 fr (fun b u q => o3 b u (ne_of_none q fr) (e02 b u q)) h3
end
end L31

namespace L31
set_option exponentiation.threshold 9000
open SX Ld Rd Bl
section
variable {P : Program} {w : World} {K : PySem.W.Frag} {mg : Str → Option Value} {base : Heap} {Z : Ad}
theorem c_kbill {p fq lq : Addr} {x L : Int} {n : Nat} {fs first last : Nat → Int} {ret : Bool} {H : Hp} {Q : VK} {E : XK} (hp : PlA H p L n fs ret) (hf : IL H fq n first) (hl : IL H lq n last) (o : BOk L n fs) (fb : ∀ i, i < n → (first i).natAbs < 2 ^ 100) (lb : ∀ i, i < n → (last i).natAbs < 2 ^ 100) (xb : x.natAbs < 2 ^ 100) (k : ∀ q H', H q = none → Same H H' → IL H' q n (bill L n fs first last x) → Q (.ref q) H') : sp_kbill [.ref p, .ref fq, .ref lq, .int x] H Q E := ⟨p, fq, lq, x, L, n, fs, first, last, ret, rfl, hp, hf, hl, o, fb, lb, xb, k⟩
/-- the counts that so many meetings lead to -/
def sms (L : Int) (n : Nat) (fs : Nat → Int) (ret : Bool) (first h : Nat → Int) (x : Int) (a : Nat) : Int := first a - L * h a + (if 0 < a then h (a - 1) else if ret = true then x else 0) + sm (fun e => if fs e = (a : Int) then (L - 1) * h e else 0) n
def sp_ksums : Sp := fun vs H Q _ => ∃ (p fq hq : Addr) (x L : Int) (n : Nat) (fs first h : Nat → Int) (ret : Bool), vs = [.ref p, .ref fq, .ref hq, .int x] ∧ PlA H p L n fs ret ∧ IL H fq n first ∧ IL H hq n h ∧ BOk L n fs ∧ (∀ i, i < n → (h i).natAbs < 2 ^ 500) ∧ ∀ q H', H q = none → Same H H' → IL H' q n (sms L n fs ret first h x) → Q (.ref q) H'
theorem d_law_k31_sums (T : Txt K w mg Z) : Dfn P w K mg base 1 "_law_k31_sums" ["plain", "first", "held", "crowns"] (sp_ksums) := by
  obtain ⟨f, fd, F, hm, hb⟩ := T.f_law_k31_sums
  refine ⟨f, fd, F.ok sc_law_k31_sums (fun vs H Q E h => by first | (obtain ⟨rfl, _⟩ := h; rfl) | (obtain ⟨_, rfl, _⟩ := h; rfl) | (obtain ⟨_, _, rfl, _⟩ := h; rfl) | (obtain ⟨_, _, _, rfl, _⟩ := h; rfl) | (obtain ⟨_, _, _, _, rfl, _⟩ := h; rfl) | (obtain ⟨_, _, _, _, _, rfl, _⟩ := h; rfl) | (obtain ⟨_, _, _, _, _, _, rfl, _⟩ := h; rfl) | (obtain ⟨_, _, _, _, _, _, _, rfl, _⟩ := h; rfl) | (obtain ⟨_, _, _, _, _, _, _, _, rfl, _⟩ := h; rfl) | (obtain ⟨_, _, _, _, _, _, _, _, _, rfl, _⟩ := h; rfl) | (obtain ⟨_, _, _, _, _, _, _, _, _, _, rfl, _⟩ := h; rfl) | (obtain ⟨_, _, _, _, _, _, _, _, _, _, _, rfl, _⟩ := h; rfl) | (obtain ⟨_, _, _, _, _, _, _, _, _, _, _, _, rfl, _⟩ := h; rfl) | (obtain ⟨_, _, _, _, _, _, _, _, _, _, _, _, _, rfl, _⟩ := h; rfl) | (obtain ⟨_, _, _, _, _, _, _, _, _, _, _, _, _, _, rfl, _⟩ := h; rfl) | (obtain ⟨_, _, _, _, _, _, _, _, _, _, _, _, _, _, _, rfl, _⟩ := h; rfl) | (obtain ⟨_, _, _, _, _, _, _, _, _, _, _, _, _, _, _, _, rfl, _⟩ := h; rfl)) (fun cdv A outer s H vs Q E hr h => ?_), hm, F.kp, hb⟩
  obtain ⟨p, fq, hq, x, L, n, fs, first, h, ret, rfl, ⟨fl, hp, hfl⟩, hf, hh, o, hb, k⟩ := h
  have n0 := o.n0
  have n5 := o.n5
  have l2 := o.l2
  have l3 := o.l3
  have hf' := hf
  have hfl' := hfl
  unfold IL at hf' hfl'
  refine ⟨_, (pss_cons (ps_set (i := 4) sc_law_k31_sums.nd rfl (.inl rfl) (pe_callB call_uLen (by rfl) T.b_len bt_len (pa_cons (pv 1) pa_nil)))
      (pss_cons (ps_set (i := 5) sc_law_k31_sums.nd rfl (.inl rfl) (pe_lst pa_nil))
      (pss_cons (ps_for PassesOwn.never rfl (pi_range1 (by rfl) T.b_range (pa_cons (pv 4) pa_nil)) (pg_name (i := 6) sc_law_k31_sums.nd rfl (.inl rfl))
        (pss_cons (ps_set (i := 7) sc_law_k31_sums.nd rfl (.inl rfl) (pe_op op_uAdd (pe_op op_sub (pe_ix ix_seq (pv 1) (pv 6) (fun _ _ => rfl)) (pe_op op_uMul (pe_ix ix_seq (pv 0) pe_int (fun _ _ => rfl)) (pe_ix ix_seq (pv 2) (pv 6) (fun _ _ => rfl)))) (pe_ifExp (pt_cmpR op_gt (pv 6) pe_int (nomark _)) (pe_ix ix_seq (pv 2) (pe_op op_sub (pv 6) pe_int) (fun _ _ => rfl)) (pe_ifExp (pt_u (pe_ix ix_seq (pv 0) pe_int (fun _ _ => rfl))) (pv 3) pe_int))))
      (pss_cons (ps_for PassesOwn.never rfl (pi_range1 (by rfl) T.b_range (pa_cons (pv 4) pa_nil)) (pg_name (i := 8) sc_law_k31_sums.nd rfl (.inl rfl))
        (pss_one (ps_if (pt_cmpR (op_uEq hr.units) (pe_ix ix_seq (pe_ix ix_seq (pv 0) pe_int (fun _ _ => rfl)) (pv 8) (fun _ _ => rfl)) (pv 6) (nomark _)) (pss_one (ps_aug (i := 7) sc_law_k31_sums.nd rfl (.inl rfl) (pe_op op_uMul (pe_op op_sub (pe_ix ix_seq (pv 0) pe_int (fun _ _ => rfl)) pe_int) (pe_ix ix_seq (pv 2) (pv 8) (fun _ _ => rfl))) ip_add)) pss_nil)))
      (pss_one (ps_expr (pe_bm PySem.F.plainAttrs_list PySem.F.slot_list_append PySem.F.type_list_append mt_append (pv 5) (pa_cons (pv 7) pa_nil)))))))
      (pss_one (ps_ret (pv 5)))))), ?_⟩
  try dsimp only [cxOf, Cx.nox, Cx.wish]
  show (_ : TS) _ [some _, some _, some _, some _, none, none, none, none, none] _
  o_readsAll
  rw [rng_len]
  rename_i r H1 fr e1 hr1 N hN
  refine f_rng (fun i σ' H' => ∃ (x6 x7 x8 : Option V), σ' = [some (.ref p), some (.ref fq), some (.ref hq), some (.int x), some (.int (n : Int)), some (.ref r), x6, x7, x8] ∧ Same H H' ∧ IL H' r i (sms L n fs ret first h x)) ⟨_, _, _, rfl, e1, hr1⟩ ?_ ?_
  · rintro i σ' H2 hi ⟨x6, x7, x8, rfl, e2, h2⟩
    rw [Int.toNat_natCast] at hi
    rw [Int.zero_add]
    have hp2 := e2 _ _ hp
    o_readsAll
    refine g_ixL (hf.same e2).sq (atI_nat (rng_at hi)) ?_
    o_readsAll
    refine g_ixL (hh.same e2).sq (atI_nat (rng_at hi)) ?_
    o_readsAll
    refine jnE (fun y H' => y = .int (if 0 < i then h (i - 1) else if ret = true then x else 0) ∧ H' = H2) ?_ (fun Q' hQ => br (fun hc => ?_) (fun hc => ?_))
    · rintro y G ⟨rfl, hG⟩
      rw [hG]
      clear hG
      o_readsAll
      refine f_rng (fun j σ' H' => ∃ (x8 : Option V), σ' = [some (.ref p), some (.ref fq), some (.ref hq), some (.int x), some (.int (n : Int)), some (.ref r), some (.int (i : Int)), some (.int (first i - L * h i + (if 0 < i then h (i - 1) else if ret = true then x else 0) + sm (fun e => if fs e = (i : Int) then (L - 1) * h e else 0) j)), x8] ∧ H' = H2) ⟨_, by show _ = [_, _, _, _, _, _, _, some (V.int (first i - L * h i + _ + 0)), _]; rw [Int.add_zero]; rfl, rfl⟩ ?_ ?_
      · rintro j σ' G hj ⟨x8, rfl, hG⟩
        rw [hG]
        clear hG
        rw [Int.toNat_natCast] at hj
        rw [Int.zero_add]
        have hfl2 := e2 _ _ hfl'
        o_readsAll
        refine g_ixL (.of hfl2) (atI_nat (rng_at hj)) ?_
        o_readsAll
        refine br (fun hc => ?_) (fun hc => ?_)
        · o_readsAll
          refine g_ixL (hh.same e2).sq (atI_nat (rng_at hj)) ?_
          o_readsAll
          exact ⟨_, by rw [sm, if_pos hc, ← Int.add_assoc]; rfl, rfl⟩
        · o_readsAll
          exact ⟨_, by rw [sm, if_neg hc, Int.add_zero]; rfl, rfl⟩
      · rintro σ' G ⟨x8, rfl, hG⟩
        rw [hG]
        clear hG
        rw [Int.toNat_natCast]
        have h2' := h2
        unfold IL at h2'
        o_readsAll
        refine ⟨_, _, _, rfl, Eg.Same.put e2 fr, ?_⟩
        show upd _ _ _ _ = _
        rw [upd_same, rng_succ]
        rfl
    · o_readsAll
      refine g_ixL (hh.same e2).sq (at_ofN (j := i - 1) (by omega) (rng_at (by omega))) ?_
      exact hQ _ _ ⟨by rw [if_pos (by omega)], rfl⟩
    · o_readsAll
      refine brB (fun hret => ?_) (fun hret => ?_)
      · o_readsAll
        exact hQ _ _ ⟨by rw [if_neg (by omega), if_pos hret], rfl⟩
      · o_readsAll
        exact hQ _ _ ⟨by rw [if_neg (by omega), if_neg (by rw [hret]; exact fun z => nomatch z)], rfl⟩
  · rintro σ' H2 ⟨x6, x7, x8, rfl, e2, h2⟩
    rw [Int.toNat_natCast] at h2
    o_readsAll
    exact k r H2 fr e2 h2
theorem c_ksums {p fq hq : Addr} {x L : Int} {n : Nat} {fs first h : Nat → Int} {ret : Bool} {H : Hp} {Q : VK} {E : XK} (hp : PlA H p L n fs ret) (hf : IL H fq n first) (hh : IL H hq n h) (o : BOk L n fs) (hb : ∀ i, i < n → (h i).natAbs < 2 ^ 500) (k : ∀ q H', H q = none → Same H H' → IL H' q n (sms L n fs ret first h x) → Q (.ref q) H') : sp_ksums [.ref p, .ref fq, .ref hq, .int x] H Q E := ⟨p, fq, hq, x, L, n, fs, first, h, ret, rfl, hp, hf, hh, o, hb, k⟩
/-- thrifty play, by the law -/
def pkb (L : Int) (n : Nat) (hi : Bool) (s : Pl) : Option Nat := if hi then hiR L s n else loR L s n
theorem pkb_pick (L : Int) (n : Nat) (hi : Bool) : Pick L n (pkb L n hi) := by
  cases hi
  · exact lo_pick L n
  · exact hi_pick L n
def sp_kthr : Sp := fun vs H Q _ => ∃ (p fq hq : Addr) (hi : Bool) (L : Int) (n N : Nat) (fs first h : Nat → Int) (ret : Bool), vs = [.ref p, .ref fq, .ref hq, .bl hi] ∧ PlA H p L n fs ret ∧ IL H fq n first ∧ IL H hq n h ∧ BOk L n fs ∧ (∀ i, i < n → 0 ≤ first i) ∧ (∀ i, i < n → 0 ≤ h i) ∧ sm h n = (N : Int) ∧ N ≤ 3000 ∧ ∀ q rq cq lq H', H q = none → H cq = none → H lq = none → H rq = none → Same H H' → H' q = some (.lst [.ref rq, .ref cq, .ref lq]) → H' rq = some (.lst ((it L n fs ret (pkb L n hi) ⟨first, h, []⟩ N).rs.map fun (r : Nat) => V.int (r : Int))) → IL H' cq n (it L n fs ret (pkb L n hi) ⟨first, h, []⟩ N).cs → IL H' lq n (it L n fs ret (pkb L n hi) ⟨first, h, []⟩ N).h → Q (.ref q) H'
theorem d_law_k31_thrifty (T : Txt K w mg Z) : Dfn P w K mg base 2 "_law_k31_thrifty" ["plain", "first", "due", "highest"] (sp_kthr) := by
  obtain ⟨f, fd, F, hm, hb⟩ := T.f_law_k31_thrifty
  refine ⟨f, fd, F.ok sc_law_k31_thrifty (fun vs H Q E h => by first | (obtain ⟨rfl, _⟩ := h; rfl) | (obtain ⟨_, rfl, _⟩ := h; rfl) | (obtain ⟨_, _, rfl, _⟩ := h; rfl) | (obtain ⟨_, _, _, rfl, _⟩ := h; rfl) | (obtain ⟨_, _, _, _, rfl, _⟩ := h; rfl) | (obtain ⟨_, _, _, _, _, rfl, _⟩ := h; rfl) | (obtain ⟨_, _, _, _, _, _, rfl, _⟩ := h; rfl) | (obtain ⟨_, _, _, _, _, _, _, rfl, _⟩ := h; rfl) | (obtain ⟨_, _, _, _, _, _, _, _, rfl, _⟩ := h; rfl) | (obtain ⟨_, _, _, _, _, _, _, _, _, rfl, _⟩ := h; rfl) | (obtain ⟨_, _, _, _, _, _, _, _, _, _, rfl, _⟩ := h; rfl) | (obtain ⟨_, _, _, _, _, _, _, _, _, _, _, rfl, _⟩ := h; rfl) | (obtain ⟨_, _, _, _, _, _, _, _, _, _, _, _, rfl, _⟩ := h; rfl) | (obtain ⟨_, _, _, _, _, _, _, _, _, _, _, _, _, rfl, _⟩ := h; rfl) | (obtain ⟨_, _, _, _, _, _, _, _, _, _, _, _, _, _, rfl, _⟩ := h; rfl) | (obtain ⟨_, _, _, _, _, _, _, _, _, _, _, _, _, _, _, rfl, _⟩ := h; rfl) | (obtain ⟨_, _, _, _, _, _, _, _, _, _, _, _, _, _, _, _, rfl, _⟩ := h; rfl)) (fun cdv A outer s H vs Q E hr h => ?_), hm, F.kp, hb⟩
  obtain ⟨p, fq, hq, hi, L, n, N, fs, first, h, ret, rfl, ⟨fl, hp, hfl⟩, hf, hh, o, f0, h0, hN, N3, k⟩ := h
  have n0 := o.n0
  have n5 := o.n5
  have l2 := o.l2
  have l3 := o.l3
  obtain ⟨Ln, hLn⟩ : ∃ Ln : Nat, L = (Ln : Int) := ⟨L.toNat, by omega⟩
  have hf' := hf
  have hh' := hh
  have hfl' := hfl
  unfold IL at hf' hh' hfl'
  have D_law_e_behind := d_law_e_behind (P := P) (base := base) T
  refine ⟨_, (pss_cons (ps_set (i := 4) sc_law_k31_thrifty.nd rfl (.inr rfl) (pe_callTy call_uList (by rfl) T.b_list bt_list (pa_cons (pv 2) pa_nil)))
      (pss_cons (ps_set (i := 5) sc_law_k31_thrifty.nd rfl (.inr rfl) (pe_callTy call_uList (by rfl) T.b_list bt_list (pa_cons (pv 1) pa_nil)))
      (pss_cons (ps_set (i := 6) sc_law_k31_thrifty.nd rfl (.inl rfl) (pe_lst pa_nil))
      (pss_cons (ps_for PassesOwn.never rfl (pi_range1 (by rfl) T.b_range (pa_cons (pe_callB (cr_sum rfl) (by rfl) T.b_sum bt_sum (pa_cons (pv 2) pa_nil)) pa_nil)) (pg_name (i := 7) sc_law_k31_thrifty.nd rfl (.inl rfl))
        (pss_cons (ps_setLc (i := 8) (own := [("rung", 9)]) (by rfl) sc_law_k31_thrifty.nd rfl rfl (sw_true rfl rfl rfl (by decide +kernel)) (pi_range1 (by rfl) T.b_range (pa_cons (pe_callB call_uLen (by rfl) T.b_len bt_len (pa_cons (pv 5) pa_nil)) pa_nil)) (blkOk_by (N := n_law_k31_thrifty) (sc := defScope st_law_k31_thrifty) (by decide +kernel)) (fun _ _ _ _ _ => (pg_name (i := 9) sc_law_k31_thrifty.nd rfl (.inl rfl))) (fun _ _ _ _ _ => (pts_one (PW.pt (pw_and (pt_cmpR op_ge (pe_ix (ix_seqK (K := K) rfl) (pv 5) (pv 9) (fun _ _ => rfl)) (pe_ix (ix_seqK (K := K) rfl) (pv 0) pe_int (fun _ _ => rfl)) (nomark _)) (pw_and1 (pt_cmpR op_gt (pe_ix (ix_seqK (K := K) rfl) (pv 4) (pv 9) (fun _ _ => rfl)) pe_int (nomark _))))))) (fun _ _ _ _ _ => (pv 9)))
      (pss_one (ps_if (pt_cmpR (op_uNe hr.units) (pv 8) (pe_lst pa_nil) (nomark _)) (pss_cons (ps_set (i := 9) sc_law_k31_thrifty.nd rfl (.inl rfl) (pe_ifExp (pt_u (pv 3)) (pe_ix ix_seq (pv 8) (pe_op op_sub (pe_callB call_uLen (by rfl) T.b_len bt_len (pa_cons (pv 8) pa_nil)) pe_int) (fun _ _ => rfl)) (pe_ix ix_seq (pv 8) pe_int (fun _ _ => rfl))))
      (pss_cons (ps_augS (pv 4) (pv 9) get_list pe_int ip_sub set_list)
      (pss_cons (ps_expr (pe_bm PySem.F.plainAttrs_list PySem.F.slot_list_append PySem.F.type_list_append mt_append (pv 6) (pa_cons (pv 9) pa_nil)))
      (pss_one (ps_set (i := 5) sc_law_k31_thrifty.nd rfl (.inr rfl) (pe_ix ix_seq (pe_dfn D_law_e_behind (hr.mono (by decide)) (by rfl) (pa_cons (pv 0) (pa_cons (pv 5) (pa_cons (pe_op op_rep (pe_lst (pa_cons (pv 9) pa_nil)) (pe_ix ix_seq (pv 0) pe_int (fun _ _ => rfl))) (pa_cons pe_int pa_nil))))) pe_int (fun _ _ => rfl))))))) pss_nil))))
      (pss_one (ps_ret (pe_lst (pa_cons (pv 6) (pa_cons (pv 5) (pa_cons (pv 4) pa_nil)))))))))), ?_⟩
  try dsimp only [cxOf, Cx.nox, Cx.wish]
  show (_ : TS) _ [some _, some _, some _, some _, none, none, none, none, none, none] _
  o_readsAll
  rename_i lq H1 flq e1 hlq N1 hN1 cq H2 fcq e2 hcq N2 hN2 rq H3 frq e3 hrq N3' hN3
  have e02 : Same H H2 := e1.trans e2
  have e03 : Same H H3 := e02.trans e3
  have hh3 := hh.same e03
  refine g_sumI hh3 ?_
  rw [hN]
  o_readsAll
  rw [Int.toNat_natCast]
  have f1 : H lq = none := flq
  have f3 : H rq = none := e02.free frq
  have nlr : lq ≠ rq := ne_of_none (e2 _ _ hlq) frq
  refine f_rng (fun i σ' H' => ∃ (cq : Addr) (x7 x8 x9 : Option V), σ' = [some (.ref p), some (.ref fq), some (.ref hq), some (.bl hi), some (.ref lq), some (.ref cq), some (.ref rq), x7, x8, x9] ∧ Same H H' ∧ H cq = none ∧ cq ≠ lq ∧ cq ≠ rq ∧ H' rq = some (.lst ((it L n fs ret (pkb L n hi) ⟨first, h, []⟩ i).rs.map fun (r : Nat) => V.int (r : Int))) ∧ IL H' cq n (it L n fs ret (pkb L n hi) ⟨first, h, []⟩ i).cs ∧ IL H' lq n (it L n fs ret (pkb L n hi) ⟨first, h, []⟩ i).h ∧ (it L n fs ret (pkb L n hi) ⟨first, h, []⟩ i).rs.length ≤ i) ⟨cq, _, _, _, rfl, e03, e1.free fcq, (ne_of_none hlq fcq).symm, ne_of_none hcq frq, hrq, e3 _ _ hcq, e3 _ _ (e2 _ _ hlq), Nat.le_refl _⟩ ?_ ?_
  · rintro i σ' H4 hi' ⟨cq, x7, x8, x9, rfl, e4, fc, ncl, ncr, hr4, hc4, hl4, hlen⟩
    have lg := leg_it (fs := fs) (ret := ret) (pkb_pick L n hi) (by omega) (s := ⟨first, h, []⟩) h0 f0 i
    have hit := fun r => it_some (L := L) (n := n) (fs := fs) (ret := ret) (pk := pkb L n hi) (s := ⟨first, h, []⟩) (i := i) (r := r)
    have hin := it_none (L := L) (n := n) (fs := fs) (ret := ret) (pk := pkb L n hi) (s := ⟨first, h, []⟩) (i := i)
    generalize it L n fs ret (pkb L n hi) ⟨first, h, []⟩ (i + 1) = s' at *
    generalize it L n fs ret (pkb L n hi) ⟨first, h, []⟩ i = s at *
    have c0 := lg.c0
    have hp4 := e4 _ _ hp
    have hc4' := hc4
    have hl4' := hl4
    unfold IL at hc4' hl4'
    rw [Int.zero_add]
    o_readsAll
    rw [rng_len, Int.toNat_natCast]
    refine l_itF (walk_range (lo := 0) (n := n)) (fun D i acc H' => acc = ((List.range i).filter fun r => decide (rdy L s r)).map (fun (r : Nat) => V.int (r : Int)) ∧ Same H4 H') (fun D hD => ⟨rfl, Eg.Same.put (Same.refl _) hD⟩) (fun D i acc H' hD hi h pv => trivial) (fun D j x acc H5 H' hD hj e pv y => ?_) (fun D acc H5 hD e pv => ?_)
    · obtain ⟨y1, y2⟩ := y
      obtain ⟨rfl, e5⟩ := pv
      subst y1 y2
      show gName 9 (V.int (0 + (j : Int))) _ _ _
      rw [Int.zero_add]
      have hp5 := e5 _ _ hp4
      refine ⟨rfl, ?_⟩
      o_readsAll
      refine g_ixL (hc4.same e5).sq (atI_nat (rng_at hj)) ?_
      o_readsAll
      refine and_j (d := decide (0 < s.h j)) (fun h Q' hQ' => ?_) (fun H6 e6 => ?_)
      · o_readsAll
        refine g_ixL (hl4.same e5).sq (atI_nat (rng_at hj)) ?_
        o_readsAll
        exact hQ' _ (Same.refl _)
      · have hd : decide (rdy L s j) = (decide (L ≤ s.cs j) && decide (0 < s.h j)) := by
          unfold rdy
          by_cases h1 : L ≤ s.cs j <;> by_cases h2 : 0 < s.h j <;> simp [h1, h2]
        refine brB (fun hb => ?_) (fun hb => ?_)
        · o_readsAll
          refine ⟨_, e6 _ _ e, by rw [List.length_map, sizeLine_eq]; have := List.length_filter_le (fun r => decide (rdy L s r)) (List.range j); rw [List.length_range] at this; omega, ?_, Eg.Same.put (e5.trans e6) hD⟩
          rw [List.range_succ, List.filter_append, List.map_append]
          rw [← hd] at hb
          simp only [List.filter_cons, hb, if_true, List.filter_nil, List.map_cons, List.map_nil]
        · refine ⟨_, e6 _ _ e, ?_, e5.trans e6⟩
          rw [List.range_succ, List.filter_append, List.map_append]
          rw [← hd] at hb
          simp only [List.filter_cons, hb, Bool.false_eq_true, if_false, List.filter_nil, List.map_nil, List.append_nil]
    · obtain ⟨rfl, e5⟩ := pv
      have hhi := filt_hi (fun r => decide (rdy L s r)) n
      have hlo := filt_lo (fun r => decide (rdy L s r)) n
      have hFl : ((List.range n).filter fun r => decide (rdy L s r)).length ≤ 5 := by
        have := List.length_filter_le (fun r => decide (rdy L s r)) (List.range n)
        rw [List.length_range] at this
        omega
      generalize hF : (List.range n).filter (fun r => decide (rdy L s r)) = F at *
      have hDi : H5 D = some (.lst ((F.map fun (r : Nat) => (r : Int)).map V.int)) := by rw [e, List.map_map]; rfl
      have hr5 := e5 _ _ hr4
      have hc5 := hc4.same e5
      have hl5 := hl4.same e5
      have hp5 := e5 _ _ hp4
      o_readsAll
      rename_i N6 hN6 nl H6 fnl e6 hnl
      refine g_neIL (l := F.map fun (r : Nat) => (r : Int)) (m := []) (.of (e6 _ _ hDi)) (.of hnl) ?_
      o_readsAll
      refine brn (fun hne => ?_) (fun hne => ?_)
      · have hF0 : F ≠ [] := fun z => hne (by rw [z]; rfl)
        have hFp := List.length_pos_iff.mpr hF0
        have hDi6 := e6 _ _ hDi
        have e46 : Same H4 H6 := e5.trans e6
        o_readsAll
        refine jnE (fun x H' => ∃ r : Nat, x = .int (r : Int) ∧ pkb L n hi s = some r ∧ H' = H6) ?_ (fun Q' hQ => brB (fun hb => ?_) (fun hb => ?_))
        · rintro x G ⟨r, rfl, hpk, hG⟩
          rw [hG]
          clear hG
          obtain ⟨hrn, hrd⟩ := (pkb_pick L n hi).yes s r hpk
          have hit' := hit r hpk
          have hl6 := hl5.same e6
          have hr6 := e6 _ _ hr5
          have hc6 := hc5.same e6
          have hp6 := e6 _ _ hp5
          have fD : H4 D = none := hD
          o_readsAll
          refine g_ixLg hl6.sq (atI_nat (rng_at hrn)) ?_
          o_readsAll
          refine g_setL hl6 (by rw [rng_len]; exact ixN_at hrn) (rng_set n r _ _) ?_
          have hsz : (s.rs.map fun (r : Nat) => V.int (r : Int)).length < sizeLine := by rw [List.length_map, sizeLine_eq]; omega
          have nlp : p ≠ lq := ne_of_none hp f1
          have hl7 : IL (upd H6 lq (.lst (rng n fun i => if i = r then s.h r - 1 else s.h i))) lq n (fun i => if i = r then s.h r - 1 else s.h i) := upd_same
          have hr7 : (upd H6 lq (.lst (rng n fun i => if i = r then s.h r - 1 else s.h i))) rq = some (.lst (s.rs.map fun (r : Nat) => V.int (r : Int))) := by rw [upd_ne nlr.symm]; exact hr6
          have hc7 : IL (upd H6 lq (.lst (rng n fun i => if i = r then s.h r - 1 else s.h i))) cq n s.cs := by unfold IL; rw [upd_ne ncl]; exact hc6
          have e07 : Same H (upd H6 lq (.lst (rng n fun i => if i = r then s.h r - 1 else s.h i))) := Eg.Same.put (e4.trans e46) f1
          generalize upd H6 lq (.lst (rng n fun i => if i = r then s.h r - 1 else s.h i)) = H7 at *
          have hp7 := e07 _ _ hp
          o_readsAll
          have hr8 : (upd H7 rq (.lst ((s.rs.map fun (r : Nat) => V.int (r : Int)) ++ [.int (r : Int)]))) rq = some (.lst ((s.rs ++ [r]).map fun (r : Nat) => V.int (r : Int))) := by rw [upd_same, List.map_append]; rfl
          have hl8 : IL (upd H7 rq (.lst ((s.rs.map fun (r : Nat) => V.int (r : Int)) ++ [.int (r : Int)]))) lq n (fun i => if i = r then s.h r - 1 else s.h i) := by unfold IL; rw [upd_ne nlr]; exact hl7
          have hc8 : IL (upd H7 rq (.lst ((s.rs.map fun (r : Nat) => V.int (r : Int)) ++ [.int (r : Int)]))) cq n s.cs := by unfold IL; rw [upd_ne ncr]; exact hc7
          have e08 : Same H (upd H7 rq (.lst ((s.rs.map fun (r : Nat) => V.int (r : Int)) ++ [.int (r : Int)]))) := Eg.Same.put e07 f3
          have hp8 := e08 _ _ hp
          have hcs := lg.c0
          generalize upd H7 rq (.lst ((s.rs.map fun (r : Nat) => V.int (r : Int)) ++ [.int (r : Int)])) = H8 at *
          o_readsAll
          rename_i one H9 hone fone e9
          subst hLn
          refine g_rep hone (by omega) (by rw [sizeLine_eq, List.length_singleton]; omega) fun rr H10 frr e10 hrr => ?_
          rw [List.flatten_replicate_singleton, ← List.map_replicate] at hrr
          have e810 : Same H8 H10 := e9.trans e10
          o_readsAll
          refine c_ebehindL (Ln := Ln) (ret := ret) ⟨fl, e810 _ _ hp8, (show IL H10 fl n fs from e810 _ _ (e08 _ _ hfl'))⟩ (hc8.same e810) (by omega) o.ok rfl (by omega) (by omega) hrn hrd.1 hcs hrr fun tp ap H11 ftp fap e11 htp hap => ?_
          have e811 : Same H8 H11 := e810.trans e11
          o_readsAll
          have e0 : Same H H11 := e08.trans e811
          have fap0 : H ap = none := e08.free (e810.free fap)
          refine ⟨ap, _, _, _, rfl, e0, fap0, (ne_of_none (e810 _ _ hl8) fap).symm, (ne_of_none (e810 _ _ hr8) fap).symm, ?_, ?_, ?_, ?_⟩
          · rw [hit']; exact e811 _ _ hr8
          · rw [hit']; exact hap
          · rw [hit']; exact hl8.same e811
          · rw [hit']
            show (s.rs ++ [r]).length ≤ i + 1
            rw [List.length_append, List.length_singleton]
            omega
        · o_readsAll
          have hlen : ((List.map V.int (List.map (fun (r : Nat) => (r : Int)) F)).length : Int) - 1 = ((F.length - 1 : Nat) : Int) := by
            rw [List.length_map, List.length_map]
            omega
          rw [hlen]
          obtain ⟨r, hr⟩ : ∃ r, F[F.length - 1]? = some r := ⟨_, List.getElem?_eq_getElem (by omega)⟩
          refine g_ixL (.of hDi6) (atI_nat (j := F.length - 1) (v := .int (r : Int)) (by rw [List.getElem?_map, List.getElem?_map, hr]; rfl)) ?_
          obtain ⟨h1, h2, h3⟩ := hhi.1 r hr
          refine hQ _ _ ⟨r, rfl, ?_, rfl⟩
          unfold pkb
          rw [if_pos hb]
          exact hi_eq L s n r h1 (of_decide_eq_true h2) fun e h4 h5 => of_decide_eq_false (h3 e h4 h5)
        · o_readsAll
          obtain ⟨r, hr⟩ : ∃ r, F[0]? = some r := ⟨_, List.getElem?_eq_getElem hFp⟩
          refine g_ixL (.of hDi6) (atI_nat (j := 0) (v := .int (r : Int)) (by rw [List.getElem?_map, List.getElem?_map, hr]; rfl)) ?_
          obtain ⟨h1, h2, h3⟩ := hlo r hr
          refine hQ _ _ ⟨r, rfl, ?_, rfl⟩
          unfold pkb
          rw [if_neg (by rw [hb]; exact fun z => nomatch z)]
          exact lo_eq L s n r h1 (of_decide_eq_true h2) fun e h4 => of_decide_eq_false (h3 e h4)
      · have hF0 : F = [] := by simpa using hne
        have hnr : ∀ r, r < n → ¬ rdy L s r := fun r hr hd => by
          have := hhi.2 hF0 r hr
          rw [decide_eq_true hd] at this
          cases this
        have hpk : pkb L n hi s = none := by
          unfold pkb
          cases hi
          · exact lo_none L s n hnr
          · exact hi_none L s n hnr
        have hs' := hin hpk
        have e06 : Same H H6 := (e4.trans e5).trans e6
        o_readsAll
        exact ⟨cq, _, _, _, rfl, e06, fc, ncl, ncr, by rw [hs']; exact e6 _ _ hr5, by rw [hs']; exact hc5.same e6, by rw [hs']; exact hl5.same e6, by rw [hs']; omega⟩
  · rintro σ' H4 ⟨cq, x7, x8, x9, rfl, e4, fc, ncl, ncr, hr4, hc4, hl4, hlen⟩
    o_readsAll
    rename_i q H5 fq' e5 hq5
    exact k q rq cq lq H5 (e4.free fq') fc f1 f3 (e4.trans e5) hq5 (e5 _ _ hr4) (hc4.same e5) (hl4.same e5)
end
end L31

namespace L31
set_option exponentiation.threshold 9000
open SX Ld Rd Bl
section
variable {P : Program} {w : World} {K : PySem.W.Frag} {mg : Str → Option Value} {base : Heap} {Z : Ad}
theorem BOk.tok {L : Int} {n : Nat} {fs cs : Nat → Int} (o : BOk L n fs) (c0 : ∀ i, i < n → 0 ≤ cs i) (cb : ∀ i, i < n → (cs i).natAbs < 2 ^ 100) : TOk L n fs cs := ⟨o.l2, by have := o.l3; omega, o.n0, by have := o.n5; omega, o.ok, c0, fun i hi => Nat.lt_trans (cb i hi) (by decide)⟩
def sp_bof (Z : Ad) : Sp := fun vs H Q E => ∃ (t1 t2 : Addr) (x L : Int) (n : Nat) (fs first last : Nat → Int) (r1 r2 : Bool), vs = [.ref t1, .ref t2, .int x] ∧ TabAt Z.a_Table Z.a_Ladder H t1 L n fs r1 first ∧ TabAt Z.a_Table Z.a_Ladder H t2 L n fs r2 last ∧ BOk L n fs ∧ (∀ i, i < n → 0 ≤ first i ∧ (first i).natAbs < 2 ^ 100) ∧ (∀ i, i < n → 0 ≤ last i ∧ (last i).natAbs < 2 ^ 100) ∧ x.natAbs < 2 ^ 100 ∧
  (r1 ≠ r2 → RaiseI Z.a_BadTable "rung" (.int (-1)) H E) ∧ (r1 = r2 → x < 0 → RaiseI Z.a_BadDemand "what" (.str "crowns") H E) ∧ (r1 = r2 → 0 ≤ x → ∀ q H', H q = none → Same H H' → IL H' q n (bill L n fs first last x) → Q (.ref q) H')
theorem d_bill_of (T : Txt K w mg Z) : DfnX P w K mg base 6 "bill_of" ["first", "last", "crowns"] (sp_bof Z) := by
  obtain ⟨f, fd, F, hm, hb⟩ := T.f_bill_of
  refine ⟨f, fd, F.okX sc_bill_of (fun vs H Q E h => by first | (obtain ⟨rfl, _⟩ := h; rfl) | (obtain ⟨_, rfl, _⟩ := h; rfl) | (obtain ⟨_, _, rfl, _⟩ := h; rfl) | (obtain ⟨_, _, _, rfl, _⟩ := h; rfl) | (obtain ⟨_, _, _, _, rfl, _⟩ := h; rfl) | (obtain ⟨_, _, _, _, _, rfl, _⟩ := h; rfl) | (obtain ⟨_, _, _, _, _, _, rfl, _⟩ := h; rfl) | (obtain ⟨_, _, _, _, _, _, _, rfl, _⟩ := h; rfl) | (obtain ⟨_, _, _, _, _, _, _, _, rfl, _⟩ := h; rfl) | (obtain ⟨_, _, _, _, _, _, _, _, _, rfl, _⟩ := h; rfl) | (obtain ⟨_, _, _, _, _, _, _, _, _, _, rfl, _⟩ := h; rfl) | (obtain ⟨_, _, _, _, _, _, _, _, _, _, _, rfl, _⟩ := h; rfl) | (obtain ⟨_, _, _, _, _, _, _, _, _, _, _, _, rfl, _⟩ := h; rfl) | (obtain ⟨_, _, _, _, _, _, _, _, _, _, _, _, _, rfl, _⟩ := h; rfl) | (obtain ⟨_, _, _, _, _, _, _, _, _, _, _, _, _, _, rfl, _⟩ := h; rfl) | (obtain ⟨_, _, _, _, _, _, _, _, _, _, _, _, _, _, _, rfl, _⟩ := h; rfl) | (obtain ⟨_, _, _, _, _, _, _, _, _, _, _, _, _, _, _, _, rfl, _⟩ := h; rfl)) (fun cdv A outer s H vs Q E hr h => ?_), hm, F.kp, hb⟩
  obtain ⟨t1, t2, x, L, n, fs, first, last, r1, r2, rfl, h1, h2, o, fb, lb, xb, k1, k2, k3⟩ := h
  have h1' := h1
  obtain ⟨dx1, l1, cl1, i1, _, _⟩ := h1'
  have h2' := h2
  obtain ⟨dx2, l2, cl2, i2, _, _⟩ := h2'
  have n5 := o.n5
  have tok1 := o.tok (fun i hi => (fb i hi).1) (fun i hi => (fb i hi).2)
  have tok2 := o.tok (fun i hi => (lb i hi).1) (fun i hi => (lb i hi).2)
  have D_Table_ladder := d_Table_ladder (P := P) (base := base) T
  have D_Ladder_rungs := d_Ladder_rungs (P := P) (base := base) T
  have D_Ladder_same_as := d_Ladder_same_as (P := P) (base := base) T
  have D_BadTable_init := d_BadTable_init (P := P) (base := base) T
  have D_BadDemand_init := d_BadDemand_init (P := P) (base := base) T
  have D_Table_load := d_Table_load (P := P) (base := base) T
  have D_Ladder_load := d_Ladder_load (P := P) (base := base) T
  refine ⟨_, (pss_cons (ps_set (i := 3) sc_bill_of.nd rfl (.inr rfl) (pe_mth0 D_Table_ladder (hr.mono (by decide)) (pv 0)))
      (pss_cons (ps_if (pt_not (pt_u (pe_mth D_Ladder_same_as (hr.mono (by decide)) (pv 3) (pa_cons (pe_mth0 D_Table_ladder (hr.mono (by decide)) (pv 1)) pa_nil)))) (pss_one (ps_rs (takes_of rfl rfl rfl rfl) (pmk_iex D_BadTable_init (hr.mono (by decide)) (by rfl) (pa_cons (pe_un un_neg pe_int) pa_nil)) rfl)) pss_nil)
      (pss_cons (ps_if (pt_cmpR op_lt (pv 2) pe_int (nomark _)) (pss_one (ps_rs (takes_of rfl rfl rfl rfl) (pmk_iex D_BadDemand_init (hr.mono (by decide)) (by rfl) (pa_cons pe_str pa_nil)) rfl)) pss_nil)
      (pss_cons (ps_set (i := 4) sc_bill_of.nd rfl (.inr rfl) (pe_mth0 D_Ladder_rungs (hr.mono (by decide)) (pv 3)))
      (pss_one (ps_ret (pe_lc (own := [("a", 5)]) (by rfl) sc_bill_of.nd (pi_range1 (by rfl) T.b_range (pa_cons (pv 4) pa_nil)) (blkOk_by (N := n_bill_of) (sc := defScope st_bill_of) (by decide +kernel)) (fun _ _ _ _ _ => (pg_name (i := 5) sc_bill_of.nd rfl (.inl rfl))) (fun _ _ _ _ _ => pts_nil) (fun _ _ _ _ _ => (pe_op (op_uAddK (K := K) rfl) (pe_op op_sub (pe_mthS D_Table_load (hr.mono (by decide)) takes0 (pv 1) (pa_cons (pv 5) pa_nil)) (pe_mthS D_Table_load (hr.mono (by decide)) takes0 (pv 0) (pa_cons (pv 5) pa_nil))) (pe_op op_uMul (pv 2) (pe_mthS D_Ladder_load (hr.mono (by decide)) takes0 (pv 3) (pa_cons (pv 5) (pa_cons (pv 4) pa_nil))))))))))))), ?_⟩
  try dsimp only [cxOf, Cx.nox, Cx.wish]
  show (_ : TS) _ [some _, some _, some _, none, none, none] _
  o_readsAll
  refine c_tlad h1 fun l hl => ?_
  have hl' := hl
  obtain ⟨ldx, lfl, llt, lhh, lwl, lps, a1, _, _, _, _, _, _⟩ := hl'
  o_readsAll
  refine c_tlad h2 fun m hm => ?_
  o_readsAll
  refine c_lsameR hl hm fun H1 e1 => ?_
  o_readsAll
  refine brn (fun hb => ?_) (fun hb => ?_)
  · o_readsAll
    refine c_raise fun d H2 fd e2 hd => ?_
    exact k1 hb d H2 (e1.free fd) (e1.trans e2) hd
  · subst hb
    o_readsAll
    refine br (fun hx => ?_) (fun hx => ?_)
    · o_readsAll
      refine c_raise fun d H2 fd e2 hd => ?_
      exact k2 rfl hx d H2 (e1.free fd) (e1.trans e2) hd
    · have a11 := e1 _ _ a1
      o_readsAll
      refine c_lnum (hl.same e1) ?_
      o_readsAll
      rw [Int.toNat_natCast]
      refine l_rngP (fun a => .int (bill L n fs first last x a)) (fun y => rfl) (fun D a H' ha hD e hl' => ?_) fun q H2 fq e2 hq => ?_
      · rw [Int.zero_add]
        have ee : Same H H' := e1.trans e
        have i2' := ee _ _ i2
        have i1' := ee _ _ i1
        have a1' := ee _ _ a1
        o_readsAll
        refine c_tload (h2.same ee) tok2 ha fun H3 e3 => ?_
        have i13 := e3 _ _ i1'
        o_readsAll
        refine c_tload ((h1.same ee).same e3) tok1 ha fun H4 e4 => ?_
        have a14 := e4 _ _ (e3 _ _ a1')
        o_readsAll
        refine c_lload (((hl.same ee).same e3).same e4) ha (Nat.le_refl n) ?_
        o_readsAll
        refine g_mulW (mul_nb xb (o.ldb a n (by omega)) (by decide)) ?_
        o_readsAll
        exact g_itemP ((e.trans e3).trans e4) (e4 _ _ (e3 _ _ hl')) hD (by rw [sizeLine_eq]; omega) rfl
      · exact k3 rfl (by omega) q H2 (e1.free fq) (e1.trans e2) hq
theorem c_bof {t1 t2 : Addr} {x L : Int} {n : Nat} {fs first last : Nat → Int} {ret : Bool} {H : Hp} {Q : VK} {E : XK} (h1 : TabAt Z.a_Table Z.a_Ladder H t1 L n fs ret first) (h2 : TabAt Z.a_Table Z.a_Ladder H t2 L n fs ret last) (o : BOk L n fs) (fb : ∀ i, i < n → 0 ≤ first i ∧ (first i).natAbs < 2 ^ 100) (lb : ∀ i, i < n → 0 ≤ last i ∧ (last i).natAbs < 2 ^ 100) (x0 : 0 ≤ x) (xb : x.natAbs < 2 ^ 100) (k : ∀ q H', H q = none → Same H H' → IL H' q n (bill L n fs first last x) → Q (.ref q) H') : sp_bof Z [.ref t1, .ref t2, .int x] H Q E := ⟨t1, t2, x, L, n, fs, first, last, ret, ret, rfl, h1, h2, o, fb, lb, xb, fun h => absurd rfl h, fun _ h => absurd h (by omega), fun _ _ => k⟩
/-- the counts reached, rung by rung -/
def rch (L : Int) (fs first h : Nat → Int) (j a : Nat) : Int := first a + sm (fun e => ((if e + 1 = a then 1 else 0) + (if fs e = (a : Int) then L - 1 else 0) - (if e = a then L else 0)) * h e) j
theorem rch_sms {L : Int} {n : Nat} {fs first h : Nat → Int} {ret : Bool} {x : Int} {a : Nat} (ha : a < n) : rch L fs first h n a + (if a = 0 ∧ ret = true then x else 0) = sms L n fs ret first h x a := by
  unfold rch sms
  have e : ∀ e, ((if e + 1 = a then 1 else 0) + (if fs e = (a : Int) then L - 1 else 0) - (if e = a then L else 0)) * h e = ((if e + 1 = a then 1 else 0) * h e + (if fs e = (a : Int) then (L - 1) * h e else 0)) - L * ((if e = a then 1 else 0) * h e) := fun e => by
    rw [Int.sub_mul, Int.add_mul]
    have h1 : (if fs e = (a : Int) then L - 1 else 0) * h e = if fs e = (a : Int) then (L - 1) * h e else 0 := by split <;> simp
    have h2 : (if e = a then L else 0) * h e = L * ((if e = a then 1 else 0) * h e) := by split <;> simp
    rw [h1, h2]
  rw [show (fun e => ((if e + 1 = a then 1 else 0) + (if fs e = (a : Int) then L - 1 else 0) - (if e = a then L else 0)) * h e) = _ from funext e, sm_sub, sm_add, sm_mul, sm_at, if_pos ha]
  have h1 : sm (fun e => (if e + 1 = a then 1 else 0) * h e) n = if 0 < a then h (a - 1) else 0 := by
    by_cases h0 : 0 < a
    · rw [if_pos h0]
      have := sm_at (a - 1) h n
      rw [if_pos (by omega)] at this
      rw [← this]
      exact sm_congr fun i hi => by
        by_cases h2 : i + 1 = a
        · rw [if_pos h2, if_pos (by omega)]
        · rw [if_neg h2, if_neg (by omega)]
    · rw [if_neg h0]
      exact Eq.trans (sm_congr (g := fun _ => 0) fun i hi => by rw [if_neg (show ¬ i + 1 = a by omega), Int.zero_mul]) (sm_zero n)
  rw [h1]
  by_cases h0 : 0 < a
  · rw [if_pos h0, if_pos h0, if_neg (by omega)]
    omega
  · have : a = 0 := by omega
    subst this
    rw [if_neg h0, if_neg h0]
    cases ret
    · rw [if_neg (fun z => nomatch z.2), if_neg (fun z => nomatch z)]
      omega
    · rw [if_pos ⟨rfl, rfl⟩, if_pos rfl]
      omega
def sp_rch (C CL : Addr) : Sp := fun vs H Q _ => ∃ (t hq : Addr) (x L : Int) (n : Nat) (fs first h : Nat → Int) (ret : Bool), vs = [.ref t, .ref hq, .int x] ∧ TabAt C CL H t L n fs ret first ∧ IL H hq n h ∧ BOk L n fs ∧ (∀ i, i < n → (h i).natAbs < 2 ^ 500) ∧ ∀ q H', H q = none → Same H H' → IL H' q n (sms L n fs ret first h x) → Q (.ref q) H'
theorem d_reached_counts (T : Txt K w mg Z) : Dfn P w K mg base 5 "reached_counts" ["first", "held", "crowns"] (sp_rch Z.a_Table Z.a_Ladder) := by
  obtain ⟨f, fd, F, hm, hb⟩ := T.f_reached_counts
  refine ⟨f, fd, F.ok sc_reached_counts (fun vs H Q E h => by first | (obtain ⟨rfl, _⟩ := h; rfl) | (obtain ⟨_, rfl, _⟩ := h; rfl) | (obtain ⟨_, _, rfl, _⟩ := h; rfl) | (obtain ⟨_, _, _, rfl, _⟩ := h; rfl) | (obtain ⟨_, _, _, _, rfl, _⟩ := h; rfl) | (obtain ⟨_, _, _, _, _, rfl, _⟩ := h; rfl) | (obtain ⟨_, _, _, _, _, _, rfl, _⟩ := h; rfl) | (obtain ⟨_, _, _, _, _, _, _, rfl, _⟩ := h; rfl) | (obtain ⟨_, _, _, _, _, _, _, _, rfl, _⟩ := h; rfl) | (obtain ⟨_, _, _, _, _, _, _, _, _, rfl, _⟩ := h; rfl) | (obtain ⟨_, _, _, _, _, _, _, _, _, _, rfl, _⟩ := h; rfl) | (obtain ⟨_, _, _, _, _, _, _, _, _, _, _, rfl, _⟩ := h; rfl) | (obtain ⟨_, _, _, _, _, _, _, _, _, _, _, _, rfl, _⟩ := h; rfl) | (obtain ⟨_, _, _, _, _, _, _, _, _, _, _, _, _, rfl, _⟩ := h; rfl) | (obtain ⟨_, _, _, _, _, _, _, _, _, _, _, _, _, _, rfl, _⟩ := h; rfl) | (obtain ⟨_, _, _, _, _, _, _, _, _, _, _, _, _, _, _, rfl, _⟩ := h; rfl) | (obtain ⟨_, _, _, _, _, _, _, _, _, _, _, _, _, _, _, _, rfl, _⟩ := h; rfl)) (fun cdv A outer s H vs Q E hr h => ?_), hm, F.kp, hb⟩
  obtain ⟨t, hq, x, L, n, fs, first, h, ret, rfl, ht, hh, o, hb, k⟩ := h
  have ht' := ht
  obtain ⟨dx, tl, cl, i1, _, _⟩ := ht'
  have hh' := hh
  unfold IL at hh'
  have n0 := o.n0
  have n5 := o.n5
  have l2 := o.l2
  have l3 := o.l3
  have D_Table_ladder := d_Table_ladder (P := P) (base := base) T
  have D_Ladder_lanes := d_Ladder_lanes (P := P) (base := base) T
  have D_Table_counts := d_Table_counts (P := P) (base := base) T
  have D_Ladder_returns := d_Ladder_returns (P := P) (base := base) T
  have D_Ladder_fall := d_Ladder_fall (P := P) (base := base) T
  refine ⟨_, (pss_cons (ps_set (i := 3) sc_reached_counts.nd rfl (.inl rfl) (pe_mth0 D_Table_ladder (hr.mono (by decide)) (pv 0)))
      (pss_cons (ps_set (i := 4) sc_reached_counts.nd rfl (.inl rfl) (pe_mth0 D_Ladder_lanes (hr.mono (by decide)) (pv 3)))
      (pss_cons (ps_set (i := 5) sc_reached_counts.nd rfl (.inl rfl) (pe_mth0 D_Table_counts (hr.mono (by decide)) (pv 0)))
      (pss_cons (ps_for PassesOwn.never rfl (pi_enum (by rfl) T.b_enumerate (pa_cons (pv 1) pa_nil)) (pg_tup (by rfl) (pgs_cons (pg_name (i := 6) sc_reached_counts.nd rfl (.inl rfl)) (pgs_cons (pg_name (i := 7) sc_reached_counts.nd rfl (.inl rfl)) pgs_nil)))
        (pss_cons (ps_asg (pe_op op_sub (pe_ix ix_seq (pv 5) (pv 6) (fun _ _ => rfl)) (pe_op op_uMul (pv 4) (pv 7))) (pg_sub (pv 5) (pv 6) set_list))
      (pss_cons (ps_if (pt_cmpR op_lt (pe_op op_uAdd (pv 6) pe_int) (pe_callB call_uLen (by rfl) T.b_len bt_len (pa_cons (pv 5) pa_nil)) (nomark _)) (pss_one (ps_asg (pe_op op_uAdd (pe_ix ix_seq (pv 5) (pe_op op_uAdd (pv 6) pe_int) (fun _ _ => rfl)) (pv 7)) (pg_sub (pv 5) (pe_op op_uAdd (pv 6) pe_int) set_list))) pss_nil)
      (pss_one (ps_if (pt_cmpR op_ge (pe_mthS D_Ladder_fall (hr.mono (by decide)) takes0 (pv 3) (pa_cons (pv 6) pa_nil)) pe_int (nomark _)) (pss_one (ps_asg (pe_op op_uAdd (pe_ix ix_seq (pv 5) (pe_mthS D_Ladder_fall (hr.mono (by decide)) takes0 (pv 3) (pa_cons (pv 6) pa_nil)) (fun _ _ => rfl)) (pe_op op_uMul (pe_op op_sub (pv 4) pe_int) (pv 7))) (pg_sub (pv 5) (pe_mthS D_Ladder_fall (hr.mono (by decide)) takes0 (pv 3) (pa_cons (pv 6) pa_nil)) set_list))) pss_nil)))))
      (pss_cons (ps_if (pt_u (pe_mth0 D_Ladder_returns (hr.mono (by decide)) (pv 3))) (pss_one (ps_asg (pe_op op_uAdd (pe_ix ix_seq (pv 5) pe_int (fun _ _ => rfl)) (pv 2)) (pg_sub (pv 5) pe_int set_list))) pss_nil)
      (pss_one (ps_ret (pv 5)))))))), ?_⟩
  try dsimp only [cxOf, Cx.nox, Cx.wish]
  show (_ : TS) _ [some _, some _, some _, none, none, none, none, none] _
  o_readsAll
  refine c_tlad ht fun l hl => ?_
  have hl' := hl
  obtain ⟨ldx, lfl, llt, lhh, lwl, lps, a1, _, _, _, _, _, _⟩ := hl'
  o_readsAll
  refine c_lnum hl ?_
  o_readsAll
  refine c_tcnt ht fun cm H2 fcm e2 hcm => ?_
  have hh2 := e2 _ _ hh'
  o_readsAll
  refine f_enum (xs := rng n h) (fun j σ' H' => ∃ (x6 x7 : Option V), σ' = [some (.ref t), some (.ref hq), some (.int x), some (.ref l), some (.int L), some (.ref cm), x6, x7] ∧ Off cm H2 H' ∧ IL H' cm n (rch L fs first h j)) ⟨_, _, rfl, off_refl _ _, by unfold IL at hcm ⊢; rw [hcm]; congr 2; exact rng_congr fun a ha => (Int.add_zero _).symm⟩ ?_ ?_ ?_
  · rintro j σ' H' hj ⟨x6, x7, rfl, o3, h3⟩
    exact .of (o3 _ _ (ne_of_none hh' fcm) hh2)
  · rintro j y σ' H3 T1 H4 hy ⟨x6, x7, rfl, o3, h3⟩ hT e4 h4
    have hj : j < n := by have := (List.getElem?_eq_some_iff.mp hy).1; rw [rng_len] at this; exact this
    rw [rng_at hj] at hy
    cases hy
    have h34 := h3.same e4
    have h34' := h34
    unfold IL at h34'
    have nT : T1 ≠ cm := (ne_of_none h3 hT).symm
    have mv' : ∀ {z : Addr} {u : HO}, H z = some u → H4 z = some u := fun h => e4 _ _ (o3 _ _ (ne_of_none h fcm) (e2 _ _ h))
    have a14 := mv' a1
    have hl4 : LadAt Z.a_Ladder H4 l L n fs ret := by
      obtain ⟨b1, b2, b3, b4, b5, b6, d1, d2, d3, d4, d5, d6, d7⟩ := hl
      exact ⟨b1, b2, b3, b4, b5, b6, mv' d1, mv' d2, mv' d3, d4, fun a q hq => mv' (d5 a q hq), mv' d6, mv' d7⟩
    have o24 : Off cm H2 H4 := o3.same e4
    have okj := o.ok j
    generalize hF : rch L fs first h j = F at *
    have hfin : ∀ a, a < n → rch L fs first h (j + 1) a = F a + ((if j + 1 = a then 1 else 0) + (if fs j = (a : Int) then L - 1 else 0) - (if j = a then L else 0)) * h j := fun a ha => by
      unfold rch
      rw [sm, ← Int.add_assoc]
      rw [← hF]
      rfl
    o_readsAll
    refine g_ixL h34.sq (atI_nat (rng_at hj)) ?_
    o_readsAll
    refine g_setL h34 (by rw [rng_len]; exact ixN_at hj) (rng_set n j _ _) ?_
    have hl5 : IL (upd H4 cm (.lst (rng n fun i => if i = j then F j - L * h j else F i))) cm n (fun i => if i = j then F j - L * h j else F i) := upd_same
    have o25 : Off cm H2 (upd H4 cm (.lst (rng n fun i => if i = j then F j - L * h j else F i))) := o24.upd
    have hld5 : LadAt Z.a_Ladder (upd H4 cm (.lst (rng n fun i => if i = j then F j - L * h j else F i))) l L n fs ret := by
      obtain ⟨b1, b2, b3, b4, b5, b6, d1, d2, d3, d4, d5, d6, d7⟩ := hl
      have mv5 : ∀ {z : Addr} {u : HO}, H z = some u → (upd H4 cm (.lst (rng n fun i => if i = j then F j - L * h j else F i))) z = some u := fun h => by rw [upd_ne (ne_of_none h fcm)]; exact mv' h
      exact ⟨b1, b2, b3, b4, b5, b6, mv5 d1, mv5 d2, mv5 d3, d4, fun a q hq => mv5 (d5 a q hq), mv5 d6, mv5 d7⟩
    generalize upd H4 cm (.lst (rng n fun i => if i = j then F j - L * h j else F i)) = H5 at *
    clear h34 h34' h3 h4 hl4 a14 o24
    have hld5' := hld5
    obtain ⟨_, _, _, _, _, _, a15, _, _, _, _, _, _⟩ := hld5'
    have hl5' := hl5
    unfold IL at hl5'
    o_readsAll
    rw [rng_len]
    refine jnS (fun (σ' : L2.St) (H' : Hp) => σ' = [some (.ref t), some (.ref hq), some (.int x), some (.ref l), some (.int L), some (.ref cm), some (.int (j : Int)), some (.int (h j))] ∧ Off cm H2 H' ∧ IL H' cm n (fun a => F a + ((if j + 1 = a then 1 else 0) - (if j = a then L else 0)) * h j) ∧ LadAt Z.a_Ladder H' l L n fs ret) ?_ (fun N hN => br (fun hc => ?_) (fun hc => ?_))
    · rintro σ' H6 ⟨rfl, o6, h6, hl6⟩
      have hl6' := hl6
      obtain ⟨_, _, _, _, _, _, a16, _, _, _, _, _, _⟩ := hl6'
      o_readsAll
      refine c_lfall hl6 hj ?_
      o_readsAll
      refine br (fun hc => ?_) (fun hc => ?_)
      · obtain ⟨d, hd⟩ : ∃ d : Nat, fs j = (d : Int) := ⟨(fs j).toNat, by omega⟩
        have hdn : d < n := by omega
        o_readsAll
        refine c_lfall hl6 hj ?_
        rw [hd]
        refine g_ixL h6.sq (atI_nat (rng_at hdn)) ?_
        o_readsAll
        refine c_lfall hl6 hj ?_
        rw [hd]
        refine g_setL h6 (by rw [rng_len]; exact ixN_at hdn) (rng_set n d _ _) ?_
        refine ⟨_, _, rfl, o6.upd, ?_⟩
        show upd _ _ _ _ = _
        rw [upd_same]
        congr 2
        refine rng_congr fun a ha => ?_
        rw [hfin a ha, hd]
        by_cases had : a = d
        · subst had
          rw [if_pos rfl, if_pos rfl]
          simp only [Int.sub_mul, Int.add_mul, Int.one_mul]
          omega
        · rw [if_neg had, if_neg (show ¬ (d : Int) = (a : Int) by omega), Int.add_zero]
      · o_readsAll
        refine ⟨_, _, rfl, o6, ?_⟩
        unfold IL at h6 ⊢
        rw [h6]
        congr 2
        refine rng_congr fun a ha => ?_
        rw [hfin a ha, if_neg (show ¬ fs j = (a : Int) by omega), Int.add_zero]
    · have hj1 : j + 1 < n := by omega
      o_readsAll
      refine g_ixL hl5.sq (at_ofN (j := j + 1) (by omega) (rng_at hj1)) ?_
      o_readsAll
      refine g_setL hl5 (by rw [rng_len, show (j : Int) + 1 = ((j + 1 : Nat) : Int) from rfl]; exact ixN_at hj1) (rng_set n (j + 1) _ _) ?_
      refine hN _ _ ⟨rfl, o25.upd, ?_, ?_⟩
      · show upd _ _ _ _ = _
        rw [upd_same]
        congr 2
        refine rng_congr fun a ha => ?_
        by_cases h1 : a = j + 1
        · subst h1
          rw [if_pos rfl, if_neg (show ¬ j + 1 = j by omega), if_pos rfl, if_neg (show ¬ j = j + 1 by omega)]
          simp
        · rw [if_neg h1, if_neg (show ¬ j + 1 = a by omega)]
          by_cases h2 : a = j
          · subst h2
            rw [if_pos rfl, if_pos rfl, Int.sub_mul]
            omega
          · rw [if_neg h2, if_neg (show ¬ j = a by omega)]
            simp
      · obtain ⟨b1, b2, b3, b4, b5, b6, d1, d2, d3, d4, d5, d6, d7⟩ := hl
        have mv5 : ∀ {z : Addr} {u : HO} {o' : HO}, H z = some u → (upd H5 cm o') z = some u := fun h => by rw [upd_ne (ne_of_none h fcm)]; exact o25 _ _ (ne_of_none h fcm) (e2 _ _ h)
        exact ⟨b1, b2, b3, b4, b5, b6, mv5 d1, mv5 d2, mv5 d3, d4, fun a q hq => mv5 (d5 a q hq), mv5 d6, mv5 d7⟩
    · o_readsAll
      refine ⟨rfl, o25, ?_, hld5⟩
      unfold IL at hl5 ⊢
      rw [hl5]
      congr 2
      refine rng_congr fun a ha => ?_
      rw [if_neg (show ¬ j + 1 = a by omega)]
      by_cases h2 : a = j
      · subst h2
        rw [if_pos rfl, if_pos rfl, Int.sub_mul]
        omega
      · rw [if_neg h2, if_neg (show ¬ j = a by omega)]
        simp
  · rintro σ' H3 ⟨x6, x7, rfl, o3, h3⟩
    rw [rng_len] at h3
    have e03 : Same H H3 := fun b u q => o3 b u (ne_of_none q fcm) (e2 b u q)
    have hl3 := hl.same e03
    have a13 := e03 _ _ a1
    have h3' := h3
    unfold IL at h3'
    o_readsAll
    refine c_lnum hl3 ?_
    o_readsAll
    refine brB (fun hret => ?_) (fun hret => ?_)
    · o_readsAll
      refine g_ixL h3.sq (atI_nat (j := 0) (rng_at n0)) ?_
      o_readsAll
      refine g_setL h3 (by rw [rng_len]; exact ixN_at (j := 0) n0) (rng_set n 0 _ _) ?_
      o_readsAll
      refine k cm _ fcm (Eg.Same.put e03 fcm) ?_
      show upd _ _ _ _ = _
      rw [upd_same]
      congr 2
      refine rng_congr fun a ha => ?_
      rw [← rch_sms ha]
      by_cases h0 : a = 0
      · rw [if_pos h0, if_pos ⟨h0, hret⟩, h0]
      · rw [if_neg h0, if_neg (fun z => h0 z.1), Int.add_zero]
    · o_readsAll
      refine k cm H3 fcm e03 ?_
      unfold IL at h3 ⊢
      rw [h3]
      congr 2
      refine rng_congr fun a ha => ?_
      rw [← rch_sms ha, if_neg (fun z => by rw [hret] at z; exact nomatch z.2), Int.add_zero]
theorem c_rch {C CL t hq : Addr} {x L : Int} {n : Nat} {fs first h : Nat → Int} {ret : Bool} {H : Hp} {Q : VK} {E : XK} (ht : TabAt C CL H t L n fs ret first) (hh : IL H hq n h) (o : BOk L n fs) (hb : ∀ i, i < n → (h i).natAbs < 2 ^ 500) (k : ∀ q H', H q = none → Same H H' → IL H' q n (sms L n fs ret first h x) → Q (.ref q) H') : sp_rch C CL [.ref t, .ref hq, .int x] H Q E := ⟨t, hq, x, L, n, fs, first, h, ret, rfl, ht, hh, o, hb, k⟩
/-- the level rungs, from the top -/
theorem lvl_all {L : Int} {n : Nat} {cs : Nat → Int} : ∀ i, i ≤ n → (∀ x ∈ lvl L n cs i, ∃ r : Nat, x = (r : Int) ∧ n - i ≤ r ∧ r < n ∧ L ≤ cs r) ∧ (lvl L n cs i).Pairwise (fun a b => b < a) ∧ ∀ r : Nat, n - i ≤ r → r < n → L ≤ cs r → (r : Int) ∈ lvl L n cs i
  | 0, _ => ⟨fun x hx => (nomatch hx), .nil, fun r h1 h2 => by omega⟩
  | i + 1, hi => by
    obtain ⟨a, b, c⟩ := lvl_all (L := L) (n := n) (cs := cs) i (by omega)
    show (∀ x ∈ lvl L n cs i ++ (if L ≤ cs (n - 1 - i) then [((n - 1 - i : Nat) : Int)] else []), _) ∧ _ ∧ _
    by_cases h : L ≤ cs (n - 1 - i)
    · rw [if_pos h]
      refine ⟨fun x hx => ?_, ?_, fun r h1 h2 h3 => ?_⟩
      · rcases List.mem_append.mp hx with h4 | h4
        · obtain ⟨r, r1, r2, r3, r4⟩ := a x h4
          exact ⟨r, r1, by omega, r3, r4⟩
        · exact ⟨n - 1 - i, List.mem_singleton.mp h4, by omega, by omega, h⟩
      · show (lvl L n cs i ++ (if L ≤ cs (n - 1 - i) then [((n - 1 - i : Nat) : Int)] else [])).Pairwise _
        rw [if_pos h]
        refine List.pairwise_append.mpr ⟨b, List.pairwise_singleton _ _, fun x hx y hy => ?_⟩
        obtain ⟨r, r1, r2, r3, r4⟩ := a x hx
        rw [List.mem_singleton.mp hy]
        omega
      · show (r : Int) ∈ lvl L n cs i ++ (if L ≤ cs (n - 1 - i) then [((n - 1 - i : Nat) : Int)] else [])
        rw [if_pos h]
        by_cases h4 : r = n - 1 - i
        · exact List.mem_append_right _ (by rw [h4]; exact List.mem_singleton.mpr rfl)
        · exact List.mem_append_left _ (c r (by omega) h2 h3)
    · rw [if_neg h, List.append_nil]
      refine ⟨fun x hx => ?_, ?_, fun r h1 h2 h3 => ?_⟩
      · obtain ⟨r, r1, r2, r3, r4⟩ := a x hx
        exact ⟨r, r1, by omega, r3, r4⟩
      · show (lvl L n cs i ++ (if L ≤ cs (n - 1 - i) then [((n - 1 - i : Nat) : Int)] else [])).Pairwise _
        rw [if_neg h, List.append_nil]
        exact b
      · show (r : Int) ∈ lvl L n cs i ++ (if L ≤ cs (n - 1 - i) then [((n - 1 - i : Nat) : Int)] else [])
        rw [if_neg h, List.append_nil]
        by_cases h4 : r = n - 1 - i
        · rw [h4] at h3; exact absurd h3 h
        · exact c r (by omega) h2 h3
def rgV : Option Nat → V
  | none => .non
  | some r => .int (r : Int)
def sp_nxt (C CL : Addr) : Sp := fun vs H Q _ => ∃ (t dq : Addr) (L : Int) (n : Nat) (fs : Nat → Int) (ret : Bool) (s : Pl), vs = [.ref t, .ref dq] ∧ TabAt C CL H t L n fs ret s.cs ∧ IL H dq n s.h ∧ n ≤ 5 ∧ ∀ H', Same H H' → Q (rgV (hiR L s n)) H'
theorem d_next_rung (T : Txt K w mg Z) : Dfn P w K mg base 3 "next_rung" ["table", "due"] (sp_nxt Z.a_Table Z.a_Ladder) := by
  obtain ⟨f, fd, F, hm, hb⟩ := T.f_next_rung
  refine ⟨f, fd, F.ok sc_next_rung (fun vs H Q E h => by first | (obtain ⟨rfl, _⟩ := h; rfl) | (obtain ⟨_, rfl, _⟩ := h; rfl) | (obtain ⟨_, _, rfl, _⟩ := h; rfl) | (obtain ⟨_, _, _, rfl, _⟩ := h; rfl) | (obtain ⟨_, _, _, _, rfl, _⟩ := h; rfl) | (obtain ⟨_, _, _, _, _, rfl, _⟩ := h; rfl) | (obtain ⟨_, _, _, _, _, _, rfl, _⟩ := h; rfl) | (obtain ⟨_, _, _, _, _, _, _, rfl, _⟩ := h; rfl) | (obtain ⟨_, _, _, _, _, _, _, _, rfl, _⟩ := h; rfl) | (obtain ⟨_, _, _, _, _, _, _, _, _, rfl, _⟩ := h; rfl) | (obtain ⟨_, _, _, _, _, _, _, _, _, _, rfl, _⟩ := h; rfl) | (obtain ⟨_, _, _, _, _, _, _, _, _, _, _, rfl, _⟩ := h; rfl) | (obtain ⟨_, _, _, _, _, _, _, _, _, _, _, _, rfl, _⟩ := h; rfl) | (obtain ⟨_, _, _, _, _, _, _, _, _, _, _, _, _, rfl, _⟩ := h; rfl) | (obtain ⟨_, _, _, _, _, _, _, _, _, _, _, _, _, _, rfl, _⟩ := h; rfl) | (obtain ⟨_, _, _, _, _, _, _, _, _, _, _, _, _, _, _, rfl, _⟩ := h; rfl) | (obtain ⟨_, _, _, _, _, _, _, _, _, _, _, _, _, _, _, _, rfl, _⟩ := h; rfl)) (fun cdv A outer s H vs Q E hr h => ?_), hm, F.kp, hb⟩
  obtain ⟨t, dq, L, n, fs, ret, s, rfl, ht, hd, n5, k⟩ := h
  have ht' := ht
  obtain ⟨dx, tl, cl, i1, _, _⟩ := ht'
  obtain ⟨la, lb, lc⟩ := lvl_all (L := L) (n := n) (cs := s.cs) n (Nat.le_refl n)
  have D_Table_level := d_Table_level (P := P) (base := base) T
  refine ⟨_, (pss_cons (ps_for PassesOwn.never rfl (pi_list (pe_mth0 D_Table_level (hr.mono (by decide)) (pv 0))) (pg_name (i := 2) sc_next_rung.nd rfl (.inl rfl))
        (pss_one (ps_if (pt_cmpR op_gt (pe_ix ix_seq (pv 1) (pv 2) (fun _ _ => rfl)) pe_int (nomark _)) (pss_one (ps_ret (pv 2))) pss_nil)))
      (pss_one (ps_ret pe_non))), ?_⟩
  try dsimp only [cxOf, Cx.nox, Cx.wish]
  show (_ : TS) _ [some _, some _, none] _
  o_readsAll
  refine c_tlevel ht (by omega) fun q H1 fq e1 hq => ?_
  have hd1 := hd.same e1
  generalize lvl L n s.cs n = l at *
  o_readsAll
  refine f_lst (xs := l.map V.int) (fun i σ' H' => ∃ x2 : Option V, σ' = [some (.ref t), some (.ref dq), x2] ∧ H' = H1 ∧ ∀ (j r : Nat), j < i → l[j]? = some (r : Int) → ¬ 0 < s.h r) ⟨_, rfl, rfl, fun j r hj => by omega⟩ ?_ ?_ ?_
  · rintro i σ' G hi ⟨x2, rfl, hG, _⟩
    rw [hG]
    exact .of hq
  · rintro i y σ' G hy ⟨x2, rfl, hG, hp⟩
    rw [hG]
    clear hG
    rw [List.getElem?_map] at hy
    obtain ⟨x, hx, rfl⟩ := Option.map_eq_some_iff.mp hy
    obtain ⟨r, rfl, r2, r3, r4⟩ := la x (List.mem_of_getElem? hx)
    o_readsAll
    refine g_ixL hd1.sq (atI_nat (rng_at r3)) ?_
    o_readsAll
    refine br (fun hc => ?_) (fun hc => ?_)
    · o_readsAll
      have hi : hiR L s n = some r := hi_eq L s n r r3 ⟨r4, hc⟩ fun e h1 h2 hr => by
        obtain ⟨j, hj⟩ := List.getElem?_of_mem (lc e (by omega) h2 hr.1)
        by_cases hji : j < i
        · exact hp j e hji hj hr.2
        · by_cases hje : j = i
          · subst hje
            rw [hx] at hj
            have := Option.some.inj hj
            omega
          · obtain ⟨z1, z2⟩ := List.getElem?_eq_some_iff.mp hx
            obtain ⟨z3, z4⟩ := List.getElem?_eq_some_iff.mp hj
            have := List.pairwise_iff_getElem.mp lb i j z1 z3 (by omega)
            rw [z2, z4] at this
            omega
      rw [hi] at k
      exact k H1 e1
    · o_readsAll
      refine ⟨_, rfl, rfl, fun j r' hj hr' => ?_⟩
      by_cases h : j = i
      · subst h
        rw [hx] at hr'
        have : r = r' := by have := Option.some.inj hr'; omega
        subst this
        exact hc
      · exact hp j r' (by omega) hr'
  · rintro σ' G ⟨x2, rfl, hG, hp⟩
    rw [hG]
    clear hG
    have hi : hiR L s n = none := hi_none L s n fun e he hr => by
      obtain ⟨j, hj⟩ := List.getElem?_of_mem (lc e (by omega) he hr.1)
      exact hp j e (by rw [List.length_map]; exact (List.getElem?_eq_some_iff.mp hj).1) hj hr.2
    rw [hi] at k
    o_readsAll
    exact k H1 e1
theorem c_nxt {C CL t dq : Addr} {L : Int} {n : Nat} {fs : Nat → Int} {ret : Bool} {s : Pl} {H : Hp} {Q : VK} {E : XK} (ht : TabAt C CL H t L n fs ret s.cs) (hd : IL H dq n s.h) (n5 : n ≤ 5) (k : ∀ H', Same H H' → Q (rgV (hiR L s n)) H') : sp_nxt C CL [.ref t, .ref dq] H Q E := ⟨t, dq, L, n, fs, ret, s, rfl, ht, hd, n5, k⟩
/-- a level meeting, by the program -/
theorem c_behindL {C CL CT t rl : Addr} {L : Int} {n r Ln : Nat} {fs cs : Nat → Int} {ret : Bool} {H : Hp} {Q : VK} {E : XK} (ht : TabAt C CL H t L n fs ret cs) (n40 : n ≤ 40) (ok : OkF fs) (hL : L = (Ln : Int)) (l1 : 0 < Ln) (l6 : Ln ≤ 1000) (hr : r < n) (hl : L ≤ cs r) (c0 : ∀ b, b < n → 0 ≤ cs b) (hrl : H rl = some (.lst ((List.replicate Ln (r : Int)).map V.int))) (k : ∀ p t' H', H p = none → H t' = none → Same H H' → H' p = some (.tup [.ref t', .bl (decide (r + 1 = n))]) → TabAt C CL H' t' L n fs ret (mv L n fs ret cs r) → Q (.ref p) H') : sp_behind C CL CT [.ref t, .ref rl, .int 0] H Q E := by
  subst hL
  have ho := lev_ok hr l1 hl c0
  refine ⟨t, rl, 0, _, n, fs, ret, cs, _, rfl, ht, n40, ok, hrl, by rw [List.length_replicate]; exact l6, fun _ p t' H' f1 f2 e h1 h2 _ => k p t' H' f1 f2 e ?_ ?_, fun x hx => by rw [ho] at hx; cases hx⟩
  · rw [h1]
    show some (HO.tup [_, V.bl (decide (fn (List.replicate Ln (r : Int)) 0 + 1 = (n : Int)))]) = _
    rw [fn_rep l1, show decide ((r : Int) + 1 = (n : Int)) = decide (r + 1 = n) from decide_eq_decide.mpr (by omega)]
  · obtain ⟨dx, l, cl, a, b, c⟩ := h2
    refine ⟨dx, l, cl, a, ?_, c⟩
    unfold IL at b ⊢
    rw [b]
    congr 2
    exact rng_congr fun b hb => bhN_mv hr ok l1 hb
end
end L31

namespace L31
set_option exponentiation.threshold 9000
open SX Ld Rd Bl
section
variable {P : Program} {w : World} {K : PySem.W.Frag} {mg : Str → Option Value} {base : Heap} {Z : Ad}
theorem bill_bd {L : Int} {n : Nat} {fs first last : Nat → Int} {x : Int} (o : BOk L n fs) (fb : ∀ i, i < n → (first i).natAbs < 2 ^ 100) (lb : ∀ i, i < n → (last i).natAbs < 2 ^ 100) (xb : x.natAbs < 2 ^ 100) (a : Nat) : (bill L n fs first last x a).natAbs < 2 ^ 500 := by
  have n5 := o.n5
  have sb : ∀ c : Nat → Int, (∀ i, i < n → (c i).natAbs < 2 ^ 100) → (sm (fun b => c b * ld L fs a b) n).natAbs ≤ n * 2 ^ 250 := fun c hc => sm_bd fun i hi => by
    rw [Int.natAbs_mul]
    exact Nat.le_trans (Nat.mul_le_mul (Nat.le_of_lt (hc i hi)) (Nat.le_of_lt (o.ldb a i (by omega)))) (Nat.le_of_eq (Nat.pow_add 2 100 150).symm)
  have h1 := sb first fb
  have h2 := sb last lb
  have h3 : (x * ld L fs a n).natAbs ≤ 2 ^ 250 := by
    rw [Int.natAbs_mul]
    exact Nat.le_trans (Nat.mul_le_mul (Nat.le_of_lt xb) (Nat.le_of_lt (o.ldb a n (by omega)))) (Nat.le_of_eq (Nat.pow_add 2 100 150).symm)
  have h4 : n * 2 ^ 250 ≤ 5 * 2 ^ 250 := Nat.mul_le_mul_right _ n5
  have h5 : ∀ v : Nat, v ≤ 11 * 2 ^ 250 → v < 2 ^ 500 := fun v h => Nat.lt_of_le_of_lt h (by decide +kernel)
  apply h5
  clear h5 sb fb lb xb
  unfold bill
  generalize (2 : Nat) ^ 250 = X at *
  omega
/-- the same, the new table's parts told -/
theorem c_behindD {C CL CT t rl l cl dx : Addr} {L : Int} {n r Ln : Nat} {fs cs : Nat → Int} {ret : Bool} {H : Hp} {Q : VK} {E : XK} (i1 : H t = some (.ins C dx [("ladder_kept", .ref l), ("counts_list", .ref cl)])) (i2 : IL H cl n cs) (i3 : LadAt CL H l L n fs ret) (n40 : n ≤ 40) (ok : OkF fs) (hL : L = (Ln : Int)) (l1 : 0 < Ln) (l6 : Ln ≤ 1000) (hr : r < n) (hl : L ≤ cs r) (c0 : ∀ b, b < n → 0 ≤ cs b) (hrl : H rl = some (.lst ((List.replicate Ln (r : Int)).map V.int))) (k : ∀ p t' dx' cl' H', H p = none → H t' = none → H cl' = none → Same H H' → H' p = some (.tup [.ref t', .bl (decide (r + 1 = n))]) → H' t' = some (.ins C dx' [("ladder_kept", .ref l), ("counts_list", .ref cl')]) → IL H' cl' n (mv L n fs ret cs r) → Q (.ref p) H') : sp_behind C CL CT [.ref t, .ref rl, .int 0] H Q E := by
  subst hL
  have ho := lev_ok hr l1 hl c0
  refine ⟨t, rl, 0, _, n, fs, ret, cs, _, rfl, ⟨dx, l, cl, i1, i2, i3⟩, n40, ok, hrl, by rw [List.length_replicate]; exact l6, fun _ p t' H' f1 f2 e h1 h2 h3 => ?_, fun x hx => by rw [ho] at hx; cases hx⟩
  obtain ⟨dy, ly, dx', cly, cl', g1, g2, g3, g4⟩ := h3
  rw [i1] at g1
  have hly : ly = l := by
    have := congrArg (fun o => match o with | some (HO.ins _ _ [(_, V.ref z), _]) => z | _ => 0) g1
    exact this.symm
  subst hly
  refine k p t' dx' cl' H' f1 f2 g2 e ?_ g3 ?_
  · rw [h1]
    show some (HO.tup [_, V.bl (decide (fn (List.replicate Ln (r : Int)) 0 + 1 = (n : Int)))]) = _
    rw [fn_rep l1, show decide ((r : Int) + 1 = (n : Int)) = decide (r + 1 = n) from decide_eq_decide.mpr (by omega)]
  · unfold IL at g4 ⊢
    rw [g4]
    congr 2
    exact rng_congr fun b hb => bhN_mv hr ok l1 hb
/-- what is asked of a hidden season -/
abbrev fin (L : Int) (n : Nat) (fs : Nat → Int) (ret : Bool) (first B : Nat → Int) (N : Nat) : Pl := it L n fs ret (fun s => hiR L s n) ⟨first, B, []⟩ N
def sp_hid (Z : Ad) : Sp := fun vs H Q E => ∃ (t1 t2 : Addr) (x L : Int) (n : Nat) (fs first last : Nat → Int) (r1 r2 : Bool), vs = [.ref t1, .ref t2, .int x] ∧ TabAt Z.a_Table Z.a_Ladder H t1 L n fs r1 first ∧ TabAt Z.a_Table Z.a_Ladder H t2 L n fs r2 last ∧ BOk L n fs ∧ (∀ i, i < n → 0 ≤ first i ∧ (first i).natAbs < 2 ^ 100) ∧ (∀ i, i < n → 0 ≤ last i ∧ (last i).natAbs < 2 ^ 100) ∧ x.natAbs < 2 ^ 100 ∧
  (r1 ≠ r2 → RaiseI Z.a_BadTable "rung" (.int (-1)) H E) ∧ (r1 = r2 → x < 0 → RaiseI Z.a_BadDemand "what" (.str "crowns") H E) ∧ (r1 = r2 → 0 ≤ x →
    (∀ r : Nat, r < n → bill L n fs first last x r < 0 → (∀ e, e < r → 0 ≤ bill L n fs first last x e) → ∀ p H', H p = none → Same H H' → H' p = some (.tup [.str "below", .int (r : Int)]) → Q (.ref p) H') ∧
    ((∀ e, e < n → 0 ≤ bill L n fs first last x e) → (∀ r : Nat, r < n → sms L n fs r1 first (bill L n fs first last x) x r ≠ last r → (∀ e, e < r → sms L n fs r1 first (bill L n fs first last x) x e = last e) → ∀ p H', H p = none → Same H H' → H' p = some (.tup [.str "sum", .int (r : Int)]) → Q (.ref p) H') ∧
      ((∀ e, e < n → sms L n fs r1 first (bill L n fs first last x) x e = last e) → (3000 < sm (bill L n fs first last x) n → RaiseI Z.a_TooMany "what" (.str "meetings") H E) ∧
        ∀ N : Nat, sm (bill L n fs first last x) n = (N : Int) → N ≤ 3000 →
          (sm (fin L n fs r1 first (bill L n fs first last x) N).h n = 0 → ∀ p rq H', H p = none → H rq = none → Same H H' → H' p = some (.tup [.str "season", .ref rq]) → H' rq = some (.lst ((fin L n fs r1 first (bill L n fs first last x) N).rs.map fun (r : Nat) => V.int (r : Int))) → Q (.ref p) H') ∧
          (0 < sm (fin L n fs r1 first (bill L n fs first last x) N).h n → ∀ p t' dq H', H p = none → Same H H' → H' p = some (.tup [.str "stuck", .ref t', .ref dq]) → TabAt Z.a_Table Z.a_Ladder H' t' L n fs r1 (fin L n fs r1 first (bill L n fs first last x) N).cs → IL H' dq n (fin L n fs r1 first (bill L n fs first last x) N).h → Q (.ref p) H'))))
theorem d_hidden_season (T : Txt K w mg Z) : DfnX P w K mg base 7 "hidden_season" ["first", "last", "crowns"] (sp_hid Z) := by
  obtain ⟨f, fd, F, hm, hb⟩ := T.f_hidden_season
  refine ⟨f, fd, F.okX sc_hidden_season (fun vs H Q E h => by first | (obtain ⟨rfl, _⟩ := h; rfl) | (obtain ⟨_, rfl, _⟩ := h; rfl) | (obtain ⟨_, _, rfl, _⟩ := h; rfl) | (obtain ⟨_, _, _, rfl, _⟩ := h; rfl) | (obtain ⟨_, _, _, _, rfl, _⟩ := h; rfl) | (obtain ⟨_, _, _, _, _, rfl, _⟩ := h; rfl) | (obtain ⟨_, _, _, _, _, _, rfl, _⟩ := h; rfl) | (obtain ⟨_, _, _, _, _, _, _, rfl, _⟩ := h; rfl) | (obtain ⟨_, _, _, _, _, _, _, _, rfl, _⟩ := h; rfl) | (obtain ⟨_, _, _, _, _, _, _, _, _, rfl, _⟩ := h; rfl) | (obtain ⟨_, _, _, _, _, _, _, _, _, _, rfl, _⟩ := h; rfl) | (obtain ⟨_, _, _, _, _, _, _, _, _, _, _, rfl, _⟩ := h; rfl) | (obtain ⟨_, _, _, _, _, _, _, _, _, _, _, _, rfl, _⟩ := h; rfl) | (obtain ⟨_, _, _, _, _, _, _, _, _, _, _, _, _, rfl, _⟩ := h; rfl) | (obtain ⟨_, _, _, _, _, _, _, _, _, _, _, _, _, _, rfl, _⟩ := h; rfl) | (obtain ⟨_, _, _, _, _, _, _, _, _, _, _, _, _, _, _, rfl, _⟩ := h; rfl) | (obtain ⟨_, _, _, _, _, _, _, _, _, _, _, _, _, _, _, _, rfl, _⟩ := h; rfl)) (fun cdv A outer s H vs Q E hr h => ?_), hm, F.kp, hb⟩
  obtain ⟨t1, t2, x, L, n, fs, first, last, r1, r2, rfl, h1, h2, o, fb, lb, xb, k1, k2, k3⟩ := h
  have h1' := h1
  obtain ⟨dx1, l1, cl1, i1, i1b, i1c⟩ := h1'
  have h2' := h2
  obtain ⟨dx2, l2, cl2, i2, _, _⟩ := h2'
  have n0 := o.n0
  have n5 := o.n5
  have lo2 := o.l2
  have lo3 := o.l3
  have kl := T.k_LIMITS_meetings
  have D_bill_of := d_bill_of (P := P) (base := base) T
  have D_Ladder_lanes := d_Ladder_lanes (P := P) (base := base) T
  have D_next_rung := d_next_rung (P := P) (base := base) T
  have D_reached_counts := d_reached_counts (P := P) (base := base) T
  have D_TooMany_init := d_TooMany_init (P := P) (base := base) T
  have D_Table_behind := d_Table_behind (P := P) (base := base) T
  have D_Table_on := d_Table_on (P := P) (base := base) T
  have D_Table_ladder := d_Table_ladder (P := P) (base := base) T
  have D_Table_init := d_Table_init (P := P) (base := base) T
  have D_Table_counts := d_Table_counts (P := P) (base := base) T
  refine ⟨_, (pss_cons (ps_set (i := 3) sc_hidden_season.nd rfl (.inl rfl) (pe_dfnS D_bill_of (hr.mono (by decide)) (by rfl) (takes_of rfl rfl rfl rfl) (pa_cons (pv 0) (pa_cons (pv 1) (pa_cons (pv 2) pa_nil)))))
      (pss_cons (ps_for (passes_of rfl) rfl (pi_enum (by rfl) T.b_enumerate (pa_cons (pv 3) pa_nil)) (pg_tup (by rfl) (pgs_cons (pg_name (i := 4) sc_hidden_season.nd rfl (.inr rfl)) (pgs_cons (pg_name (i := 5) sc_hidden_season.nd rfl (.inl rfl)) pgs_nil)))
        (pss_one (ps_if (pt_cmpR op_lt (pv 5) pe_int (nomark _)) (pss_one (ps_ret (pe_tup (pa_cons pe_str (pa_cons (pv 4) pa_nil))))) pss_nil)))
      (pss_cons (ps_for (passes_of rfl) rfl (pi_enum (by rfl) T.b_enumerate (pa_cons (pe_dfn D_reached_counts (hr.mono (by decide)) (by rfl) (pa_cons (pv 0) (pa_cons (pv 3) (pa_cons (pv 2) pa_nil)))) pa_nil)) (pg_tup (by rfl) (pgs_cons (pg_name (i := 4) sc_hidden_season.nd rfl (.inr rfl)) (pgs_cons (pg_name (i := 5) sc_hidden_season.nd rfl (.inl rfl)) pgs_nil)))
        (pss_one (ps_if (pt_cmpR (op_uNe hr.units) (pv 5) (pe_mthS D_Table_on (hr.mono (by decide)) (takes_of rfl rfl rfl rfl) (pv 1) (pa_cons (pv 4) pa_nil)) (nomark _)) (pss_one (ps_ret (pe_tup (pa_cons pe_str (pa_cons (pv 4) pa_nil))))) pss_nil)))
      (pss_cons (ps_if (pt_cmpR op_gt (pe_callB (cr_sum rfl) (by rfl) T.b_sum bt_sum (pa_cons (pv 3) pa_nil)) (pe_ix ix_kdict (pe_gr T.c_LIMITS) pe_str (fun _ _ => rfl)) (nomark _)) (pss_one (ps_rs (takes_of rfl rfl rfl rfl) (pmk_iex D_TooMany_init (hr.mono (by decide)) (by rfl) (pa_cons pe_str pa_nil)) rfl)) pss_nil)
      (pss_cons (ps_set (i := 6) sc_hidden_season.nd rfl (.inl rfl) (pe_mth0 D_Ladder_lanes (hr.mono (by decide)) (pe_mth0 D_Table_ladder (hr.mono (by decide)) (pv 0))))
      (pss_cons (ps_set (i := 7) sc_hidden_season.nd rfl (.inl rfl) (pv 0))
      (pss_cons (ps_set (i := 8) sc_hidden_season.nd rfl (.inl rfl) (pe_lst pa_nil))
      (pss_cons (ps_set (i := 4) sc_hidden_season.nd rfl (.inr rfl) (pe_dfn D_next_rung (hr.mono (by decide)) (by rfl) (pa_cons (pv 7) (pa_cons (pv 3) pa_nil))))
      (pss_cons (ps_while (passes_of rfl) (pt_cmpR op_uNotN (pv 4) pe_non (nomark _)) (pss_cons (ps_asg (pe_op op_sub (pe_ix ix_seq (pv 3) (pv 4) (fun _ _ => rfl)) pe_int) (pg_sub (pv 3) (pv 4) set_list))
      (pss_cons (ps_asg (pe_mthS D_Table_behind (hr.mono (by decide)) (takes_of rfl rfl rfl rfl) (pv 7) (pa_cons (pe_lc (own := [("_", 10)]) (by rfl) sc_hidden_season.nd (pi_range1 (by rfl) T.b_range (pa_cons (pv 6) pa_nil)) (blkOk_by (N := n_hidden_season) (sc := defScope st_hidden_season) (by decide +kernel)) (fun _ _ _ _ _ => (pg_name (i := 10) sc_hidden_season.nd rfl (.inl rfl))) (fun _ _ _ _ _ => pts_nil) (fun _ _ _ _ _ => (pv 4))) (pa_cons pe_int pa_nil))) (pg_tup (by rfl) (pgs_cons (pg_name (i := 7) sc_hidden_season.nd rfl (.inl rfl)) (pgs_cons (pg_name (i := 9) sc_hidden_season.nd rfl (.inl rfl)) pgs_nil))))
      (pss_cons (ps_expr (pe_bm PySem.F.plainAttrs_list PySem.F.slot_list_append PySem.F.type_list_append mt_append (pv 8) (pa_cons (pv 4) pa_nil)))
      (pss_one (ps_set (i := 4) sc_hidden_season.nd rfl (.inr rfl) (pe_dfn D_next_rung (hr.mono (by decide)) (by rfl) (pa_cons (pv 7) (pa_cons (pv 3) pa_nil)))))))))
      (pss_cons (ps_if (pt_cmpR op_gt (pe_callB (cr_sum rfl) (by rfl) T.b_sum bt_sum (pa_cons (pv 3) pa_nil)) pe_int (nomark _)) (pss_one (ps_ret (pe_tup (pa_cons pe_str (pa_cons (pe_ini D_Table_init (hr.mono (by decide)) (by rfl) (pa_cons (pe_mth0 D_Table_ladder (hr.mono (by decide)) (pv 7)) (pa_cons (pe_mth0 D_Table_counts (hr.mono (by decide)) (pv 7)) pa_nil))) (pa_cons (pv 3) pa_nil)))))) pss_nil)
      (pss_one (ps_ret (pe_tup (pa_cons pe_str (pa_cons (pv 8) pa_nil))))))))))))))), ?_⟩
  try dsimp only [cxOf, Cx.nox, Cx.wish]
  show (_ : TS) _ [some _, some _, some _, none, none, none, none, none, none, none, none] _
  o_readsAll
  refine ⟨t1, t2, x, L, n, fs, first, last, r1, r2, rfl, h1, h2, o, fb, lb, xb, k1, k2, fun hr x0 dq H1 fdq e1 hdq => ?_⟩
  obtain ⟨kb, ks⟩ := k3 hr x0
  subst hr
  clear k1 k2 k3
  have hBb := fun a => bill_bd (last := last) (x := x) o (fun i hi => (fb i hi).2) (fun i hi => (lb i hi).2) xb a
  generalize bill L n fs first last x = B at *
  have hdq' := hdq
  unfold IL at hdq'
  o_readsAll
  refine f_enum (xs := rng n B) (fun i σ' H' => ∃ (x4 x5 : Option V), σ' = [some (.ref t1), some (.ref t2), some (.int x), some (.ref dq), x4, x5, none, none, none, none, none] ∧ Same H1 H' ∧ ∀ e, e < i → 0 ≤ B e) ⟨_, _, rfl, Same.refl _, fun e he => by omega⟩ ?_ ?_ ?_
  · rintro i σ' H' hi ⟨x4, x5, rfl, e2, _⟩
    exact .of (e2 _ _ hdq')
  · rintro i y σ' H2 T1 H3 hy ⟨x4, x5, rfl, e2, hp⟩ hT e3 h3
    have hi : i < n := by have := (List.getElem?_eq_some_iff.mp hy).1; rw [rng_len] at this; exact this
    rw [rng_at hi] at hy
    cases hy
    o_readsAll
    refine br (fun hc => ?_) (fun hc => ?_)
    · o_readsAll
      rename_i p H4 fp e4 hp4
      exact kb i hi hc hp p H4 (e1.free (e2.free (e3.free fp))) (((e1.trans e2).trans e3).trans e4) hp4
    · o_readsAll
      exact ⟨_, _, rfl, e2.trans e3, fun e he => by
        by_cases h : e = i
        · rw [h]; omega
        · exact hp e (by omega)⟩
  · rintro σ' H2 ⟨x4, x5, rfl, e2, hp⟩
    rw [rng_len] at hp
    have e02 : Same H H2 := e1.trans e2
    obtain ⟨ks1, ks2⟩ := ks hp
    clear kb ks
    o_readsAll
    refine c_rch (h1.same e02) (hdq.same e2) o (fun i hi => hBb i) fun sq H3 fsq e3 hsq => ?_
    have hsq' := hsq
    unfold IL at hsq'
    have e03 : Same H H3 := e02.trans e3
    o_readsAll
    refine f_enum (xs := rng n (sms L n fs r1 first B x)) (fun i σ' H' => ∃ (x4 x5 : Option V), σ' = [some (.ref t1), some (.ref t2), some (.int x), some (.ref dq), x4, x5, none, none, none, none, none] ∧ Same H3 H' ∧ ∀ e, e < i → sms L n fs r1 first B x e = last e) ⟨_, _, rfl, Same.refl _, fun e he => by omega⟩ ?_ ?_ ?_
    · rintro i σ' H' hi ⟨x4, x5, rfl, e4, _⟩
      exact .of (e4 _ _ hsq')
    · rintro i y σ' H4 T1 H5 hy ⟨x4, x5, rfl, e4, hp2⟩ hT e5 h5
      have hi : i < n := by have := (List.getElem?_eq_some_iff.mp hy).1; rw [rng_len] at this; exact this
      rw [rng_at hi] at hy
      cases hy
      have e35 : Same H3 H5 := e4.trans e5
      have i25 := e35 _ _ (e03 _ _ i2)
      o_readsAll
      refine c_ton ((h2.same e03).same e35) hi ?_
      o_readsAll
      refine brn (fun hc => ?_) (fun hc => ?_)
      · o_readsAll
        rename_i p H6 fp e6 hp6
        exact ks1 i hi hc hp2 p H6 (e03.free (e35.free fp)) ((e03.trans e35).trans e6) hp6
      · o_readsAll
        exact ⟨_, _, rfl, e35, fun e he => by
          by_cases h : e = i
          · rw [h]; exact hc
          · exact hp2 e (by omega)⟩
    · rintro σ' H4 ⟨x4, x5, rfl, e4, hp2⟩
      rw [rng_len] at hp2
      obtain ⟨ks3, ks4⟩ := ks2 hp2
      clear ks1 ks2 hsq hsq'
      have e04 : Same H H4 := e03.trans e4
      have hdq4 := (hdq.same e2).same (e3.trans e4)
      have i14 := e04 _ _ i1
      o_readsAll
      refine g_sumI hdq4 ?_
      o_readsAll
      refine g_kd kl ?_
      o_readsAll
      refine br (fun hc => ?_) (fun hc => ?_)
      · o_readsAll
        refine c_raise fun d H5 fd e5 hd => ?_
        exact ks3 hc d H5 (e04.free fd) (e04.trans e5) hd
      · obtain ⟨N, hN⟩ : ∃ N : Nat, sm B n = (N : Int) := ⟨(sm B n).toNat, by have := sm_nn hp; omega⟩
        obtain ⟨km1, km2⟩ := ks4 N hN (by omega)
        clear ks3 ks4
        o_readsAll
        refine c_tlad (h1.same e04) fun l hl => ?_
        have hl' := hl
        obtain ⟨ldx, lfl, llt, lhh, lwl, lps, a1, _, _, _, _, _, _⟩ := hl'
        o_readsAll
        refine c_lnum hl ?_
        o_readsAll
        rename_i rq H5 frq e5 hrq N5 hN5
        refine c_nxt (s := ⟨first, B, []⟩) ((h1.same e04).same e5) (hdq4.same e5) n5 fun H6 e6 => ?_
        have e06 : Same H H6 := (e04.trans e5).trans e6
        have frq0 : H rq = none := e04.free frq
        have nrd : rq ≠ dq := (ne_of_none hdq4 frq).symm
        have c00 : ∀ b, b < n → 0 ≤ first b := fun b hb => (fb b hb).1
        have P0 := hi_pick L n
        obtain ⟨Ln, hLn⟩ : ∃ Ln : Nat, L = (Ln : Int) := ⟨L.toNat, by omega⟩
        have fdq0 : H dq = none := fdq
        have hdq6 := (hdq4.same e5).same e6
        o_readsAll
        refine ⟨fun μ σ' H' => ∃ (i : Nat) (t' : Addr) (x5 x9 : Option V), σ' = [some (.ref t1), some (.ref t2), some (.int x), some (.ref dq), some (rgV (hiR L (fin L n fs r1 first B i) n)), x5, some (.int L), some (.ref t'), some (.ref rq), x9, none] ∧ Same H H' ∧ (∃ dxt clt, H' t' = some (.ins Z.a_Table dxt [("ladder_kept", .ref l1), ("counts_list", .ref clt)]) ∧ IL H' clt n (fin L n fs r1 first B i).cs ∧ clt ≠ dq ∧ clt ≠ rq) ∧ t' ≠ dq ∧ t' ≠ rq ∧ IL H' dq n (fin L n fs r1 first B i).h ∧ H' rq = some (.lst ((fin L n fs r1 first B i).rs.map fun (r : Nat) => V.int (r : Int))) ∧ μ = (sm (fin L n fs r1 first B i).h n).toNat ∧ (fin L n fs r1 first B i).rs.length ≤ i, ⟨_, 0, t1, _, _, rfl, e06, ⟨dx1, cl1, e06 _ _ i1, i1b.same e06, ne_of_none i1b fdq0, ne_of_none i1b frq0⟩, ne_of_none i1 fdq0, ne_of_none i1 frq0, hdq6, e6 _ _ hrq, rfl, Nat.le_refl _⟩, ?_⟩
        rintro μ σ' H7 ⟨i, t', x5', x9, rfl, e7, ⟨dxt, clt, it7, ic7, ncd, ncr⟩, ntd, ntr, hd7, hr7, hμ, hlen⟩
        have hl7 : LadAt Z.a_Ladder H7 l1 L n fs r1 := i1c.same e7
        have ht7 : TabAt Z.a_Table Z.a_Ladder H7 t' L n fs r1 (fin L n fs r1 first B i).cs := ⟨dxt, l1, clt, it7, ic7, hl7⟩
        have lg : Leg L n fs r1 ⟨first, B, []⟩ (fin L n fs r1 first B i) := leg_it P0 (by omega) hp c00 i
        have hleft := it_left (fs := fs) (ret := r1) P0 (s := ⟨first, B, []⟩) i
        have hend := it_end (fs := fs) (ret := r1) P0 (by omega) (s := ⟨first, B, []⟩) hp c00 hN
        have hs1 := fun r => it_some (L := L) (n := n) (fs := fs) (ret := r1) (pk := fun s => hiR L s n) (s := ⟨first, B, []⟩) (i := i) (r := r)
        cases hpk : hiR L (fin L n fs r1 first B i) n with
        | none =>
          have heq : fin L n fs r1 first B N = fin L n fs r1 first B i := by
            by_cases hiN : i ≤ N
            · exact it_stay (pk := fun s => hiR L s n) hpk N hiN
            · exact (it_stay (pk := fun s => hiR L s n) hend i (by omega)).symm
          rw [show rgV none = V.non from rfl]
          o_readsAll
          rw [heq] at km1 km2
          refine g_sumI hd7 ?_
          o_readsAll
          refine br (fun hc => ?_) (fun hc => ?_)
          · o_readsAll
            refine c_tlad ht7 fun l2 hl2 => ?_
            o_readsAll
            refine c_tcnt ht7 fun cc H8 fcc e8 hcc => ?_
            o_readsAll
            refine c_tmake (hl2.same e8) hcc (by omega) lg.c0 fun t3 H9 ft3 e9 ht3 => ?_
            have hd9 := (hd7.same e8).same e9
            o_readsAll
            rename_i p H10 fp e10 hp10
            exact km2 hc p t3 dq H10 (e7.free (e8.free (e9.free fp))) (((e7.trans e8).trans e9).trans e10) hp10 (ht3.same e10) (hd9.same e10)
          · have h0 : sm (fin L n fs r1 first B i).h n = 0 := by have := sm_nn lg.h0; omega
            o_readsAll
            rename_i p H8 fp e8 hp8
            exact km1 h0 p rq H8 (e7.free fp) frq0 (e7.trans e8) hp8 (e8 _ _ hr7)
        | some r =>
          rw [show rgV (some r) = V.int (r : Int) from rfl]
          obtain ⟨hrn, hrd⟩ := P0.yes _ r hpk
          have hit' := hs1 r hpk
          have hiN : sm (fin L n fs r1 first B i).h n = (N : Int) - i := by
            rcases hleft with h | h
            · have h : hiR L (fin L n fs r1 first B i) n = none := h
              rw [hpk] at h; cases h
            · have h : sm (fin L n fs r1 first B i).h n = sm B n - i := h
              rw [hN] at h
              exact h
          have hsm1 : 1 ≤ sm (fin L n fs r1 first B i).h n := by
            by_cases h : 1 ≤ sm (fin L n fs r1 first B i).h n
            · exact h
            · have := sm_zero_all lg.h0 (by omega) r hrn
              have h2 : 0 < (fin L n fs r1 first B i).h r := hrd.2
              omega
          have hfs := fire_sum (L := L) (fs := fs) (ret := r1) (t := fin L n fs r1 first B i) hrn
          have hcs := lg.c0
          have hit1 : fin L n fs r1 first B (i + 1) = fire L n fs r1 (fin L n fs r1 first B i) r := hit'
          rw [← hit1] at hfs
          have hcs' : (fin L n fs r1 first B (i + 1)).cs = mv L n fs r1 (fin L n fs r1 first B i).cs r := by rw [hit1]; rfl
          have hh' : (fin L n fs r1 first B (i + 1)).h = fun e => if e = r then (fin L n fs r1 first B i).h r - 1 else (fin L n fs r1 first B i).h e := by rw [hit1]; rfl
          have hrs' : (fin L n fs r1 first B (i + 1)).rs = (fin L n fs r1 first B i).rs ++ [r] := by rw [hit1]; rfl
          clear hit' hit1 hs1 hleft hend
          have hrd : rdy L (fin L n fs r1 first B i) r := hrd
          generalize hs' : fin L n fs r1 first B (i + 1) = s' at *
          generalize fin L n fs r1 first B i = s at *
          o_readsAll
          refine ⟨_, fun σ2 H2 h => h, ?_⟩
          o_readsAll
          refine g_ixL hd7.sq (atI_nat (rng_at hrn)) ?_
          o_readsAll
          refine g_setL hd7 (by rw [rng_len]; exact ixN_at hrn) (rng_set n r _ _) ?_
          have hd8 : IL (upd H7 dq (.lst (rng n fun i => if i = r then s.h r - 1 else s.h i))) dq n s'.h := by rw [hh']; exact upd_same
          have hr8 : (upd H7 dq (.lst (rng n fun i => if i = r then s.h r - 1 else s.h i))) rq = some (.lst (s.rs.map fun (r : Nat) => V.int (r : Int))) := by rw [upd_ne nrd]; exact hr7
          have e8 : Same H (upd H7 dq (.lst (rng n fun i => if i = r then s.h r - 1 else s.h i))) := Eg.Same.put e7 fdq0
          have it8 : (upd H7 dq (.lst (rng n fun i => if i = r then s.h r - 1 else s.h i))) t' = some (.ins Z.a_Table dxt [("ladder_kept", .ref l1), ("counts_list", .ref clt)]) := by rw [upd_ne ntd]; exact it7
          have ic8 : IL (upd H7 dq (.lst (rng n fun i => if i = r then s.h r - 1 else s.h i))) clt n s.cs := by unfold IL; rw [upd_ne ncd]; exact ic7
          generalize upd H7 dq (.lst (rng n fun i => if i = r then s.h r - 1 else s.h i)) = H8 at *
          clear hd7 hr7 it7 ic7 hl7 ht7
          o_readsAll
          refine l_rngP (fun _ => .int (r : Int)) (fun y => rfl) (fun D a H' ha hD e hl' => ?_) fun rl H9 frl e9 hrl => ?_
          · o_readsAll
            exact g_itemP e hl' hD (by rw [sizeLine_eq]; omega) rfl
          have hrl' : H9 rl = some (.lst ((List.replicate Ln (r : Int)).map V.int)) := by
            rw [hrl, hLn, Int.toNat_natCast]
            congr 2
            rw [List.map_replicate]
            rw [List.map_const', List.length_range]
          have e09 : Same H H9 := e8.trans e9
          have it9 := e9 _ _ it8
          o_readsAll
          refine c_behindD it9 (ic8.same e9) (i1c.same e09) (by omega) o.ok hLn (by omega) (by omega) hrn hrd.1 hcs hrl' fun tp t2' dx' cl' H10 ftp ft2 fcl2 e10 htp it10 ic10 => ?_
          have hd10 := (hd8.same e9).same e10
          have hr10 := e10 _ _ (e9 _ _ hr8)
          have nt2d : t2' ≠ dq := (ne_of_none (hd8.same e9) ft2).symm
          have nt2r : t2' ≠ rq := (ne_of_none (e9 _ _ hr8) ft2).symm
          have nc2d : cl' ≠ dq := (ne_of_none (hd8.same e9) fcl2).symm
          have nc2r : cl' ≠ rq := (ne_of_none (e9 _ _ hr8) fcl2).symm
          have e010 : Same H H10 := e09.trans e10
          have hsz : (s.rs.map fun (r : Nat) => V.int (r : Int)).length < sizeLine := by rw [List.length_map, sizeLine_eq]; omega
          o_readsAll
          have hr11 : (upd H10 rq (.lst ((s.rs.map fun (r : Nat) => V.int (r : Int)) ++ [.int (r : Int)]))) rq = some (.lst (s'.rs.map fun (r : Nat) => V.int (r : Int))) := by rw [upd_same, hrs', List.map_append]; rfl
          have hd11 : IL (upd H10 rq (.lst ((s.rs.map fun (r : Nat) => V.int (r : Int)) ++ [.int (r : Int)]))) dq n s'.h := by unfold IL; rw [upd_ne nrd.symm]; exact hd10
          have it11 : (upd H10 rq (.lst ((s.rs.map fun (r : Nat) => V.int (r : Int)) ++ [.int (r : Int)]))) t2' = some (.ins Z.a_Table dx' [("ladder_kept", .ref l1), ("counts_list", .ref cl')]) := by rw [upd_ne nt2r]; exact it10
          have ic11 : IL (upd H10 rq (.lst ((s.rs.map fun (r : Nat) => V.int (r : Int)) ++ [.int (r : Int)]))) cl' n s'.cs := by rw [hcs']; unfold IL; rw [upd_ne nc2r]; exact ic10
          have e011 : Same H (upd H10 rq (.lst ((s.rs.map fun (r : Nat) => V.int (r : Int)) ++ [.int (r : Int)]))) := Eg.Same.put e010 frq0
          generalize upd H10 rq (.lst ((s.rs.map fun (r : Nat) => V.int (r : Int)) ++ [.int (r : Int)])) = H11 at *
          subst hs'
          refine c_nxt (ret := r1) ⟨dx', l1, cl', it11, ic11, i1c.same e011⟩ hd11 n5 fun H12 e12 => ?_
          o_readsAll
          exact ⟨_, by rw [hμ, hfs]; omega, i + 1, t2', _, _, rfl, e011.trans e12, ⟨dx', cl', e12 _ _ it11, ic11.same e12, nc2d, nc2r⟩, nt2d, nt2r, hd11.same e12, e12 _ _ hr11, rfl, by rw [hrs', List.length_append, List.length_singleton]; omega⟩
end
end L31

namespace L31
set_option exponentiation.threshold 9000
open SX Ld Rd Bl
section
variable {P : Program} {w : World} {K : PySem.W.Frag} {mg : Str → Option Value} {base : Heap} {Z : Ad}
inductive Out where
  | below (r : Nat) | sum (r : Nat) | season | stuck
section
variable (L : Int) (n : Nat) (fs : Nat → Int) (ret : Bool) (first last : Nat → Int) (x : Int)
def BL : Nat → Int := bill L n fs first last x
def SL : Nat → Int := sms L n fs ret first (BL L n fs first last x) x
def FL : Pl := fin L n fs ret first (BL L n fs first last x) (sm (BL L n fs first last x) n).toNat
def OutR : Out → Prop
  | .below r => r < n ∧ BL L n fs first last x r < 0 ∧ ∀ e, e < r → 0 ≤ BL L n fs first last x e
  | .sum r => (∀ e, e < n → 0 ≤ BL L n fs first last x e) ∧ r < n ∧ SL L n fs ret first last x r ≠ last r ∧ ∀ e, e < r → SL L n fs ret first last x e = last e
  | .season => (∀ e, e < n → 0 ≤ BL L n fs first last x e) ∧ (∀ e, e < n → SL L n fs ret first last x e = last e) ∧ sm (FL L n fs ret first last x).h n = 0
  | .stuck => (∀ e, e < n → 0 ≤ BL L n fs first last x e) ∧ (∀ e, e < n → SL L n fs ret first last x e = last e) ∧ 0 < sm (FL L n fs ret first last x).h n
theorem out_one {O O' : Out} (h : OutR L n fs ret first last x O) (h' : OutR L n fs ret first last x O') : O = O' := by
  have key : ∀ {f g : Nat → Int} {r r' : Nat}, (f r ≠ g r) → (∀ e, e < r → f e = g e) → (f r' ≠ g r') → (∀ e, e < r' → f e = g e) → r = r' := fun {f g r r'} a b c d => by
    by_cases h1 : r < r'
    · exact absurd (d r h1) a
    · by_cases h2 : r' < r
      · exact absurd (b r' h2) c
      · omega
  cases O with
  | below r =>
    obtain ⟨a, b, c⟩ := h
    cases O' with
    | below r' =>
      obtain ⟨a', b', c'⟩ := h'
      have : r = r' := by
        by_cases h1 : r < r'
        · have := c' r h1; omega
        · by_cases h2 : r' < r
          · have := c r' h2; omega
          · omega
      rw [this]
    | sum r' => exact absurd (h'.1 r a) (by omega)
    | season => exact absurd (h'.1 r a) (by omega)
    | stuck => exact absurd (h'.1 r a) (by omega)
  | sum r =>
    obtain ⟨z, a, b, c⟩ := h
    cases O' with
    | below r' => exact absurd (z r' h'.1) (by have := h'.2.1; omega)
    | sum r' =>
      obtain ⟨z', a', b', c'⟩ := h'
      rw [key b c b' c']
    | season => exact absurd (h'.2.1 r a) b
    | stuck => exact absurd (h'.2.1 r a) b
  | season =>
    cases O' with
    | below r' => exact absurd (h.1 r' h'.1) (by have := h'.2.1; omega)
    | sum r' => exact absurd (h.2.1 r' h'.2.1) h'.2.2.1
    | season => rfl
    | stuck => have := h.2.2; have := h'.2.2; omega
  | stuck =>
    cases O' with
    | below r' => exact absurd (h.1 r' h'.1) (by have := h'.2.1; omega)
    | sum r' => exact absurd (h.2.1 r' h'.2.1) h'.2.2.1
    | season => have := h.2.2; have := h'.2.2; omega
    | stuck => rfl
end
def nL (l : List Nat) : List V := l.map fun (r : Nat) => V.int (r : Int)
def OutT (H : Hp) (p : Addr) (n : Nat) (s : Pl) : Out → Prop
  | .below r => H p = some (.tup [.str "below", .int (r : Int)])
  | .sum r => H p = some (.tup [.str "sum", .int (r : Int)])
  | .season => ∃ rq, H p = some (.tup [.str "season", .ref rq]) ∧ H rq = some (.lst (nL s.rs))
  | .stuck => ∃ c l, H p = some (.tup [.str "stuck", .ref c, .ref l]) ∧ IL H c n s.cs ∧ IL H l n s.h
def HidT (Z : Ad) (H0 H : Hp) (p : Addr) (L : Int) (n : Nat) (fs : Nat → Int) (ret : Bool) (s : Pl) : Out → Prop
  | .below r => H p = some (.tup [.str "below", .int (r : Int)])
  | .sum r => H p = some (.tup [.str "sum", .int (r : Int)])
  | .season => ∃ rq, H0 rq = none ∧ H p = some (.tup [.str "season", .ref rq]) ∧ H rq = some (.lst (nL s.rs))
  | .stuck => ∃ t l, H p = some (.tup [.str "stuck", .ref t, .ref l]) ∧ TabAt Z.a_Table Z.a_Ladder H t L n fs ret s.cs ∧ IL H l n s.h
/-- bounds of what is asked -/
structure AOk (L : Int) (n : Nat) (fs : Nat → Int) (ret : Bool) (first last : Nat → Int) (x : Int) : Prop where
  o : BOk L n fs
  fb : ∀ i, i < n → 0 ≤ first i ∧ (first i).natAbs < 2 ^ 100
  lb : ∀ i, i < n → 0 ≤ last i ∧ (last i).natAbs < 2 ^ 100
  x0 : 0 ≤ x
  xb : x.natAbs < 2 ^ 100
  lim : (∀ e, e < n → 0 ≤ BL L n fs first last x e) → sm (BL L n fs first last x) n ≤ 3000
theorem c_hid {t1 t2 : Addr} {x L : Int} {n : Nat} {fs first last : Nat → Int} {ret : Bool} {H : Hp} {Q : VK} {E : XK} (h1 : TabAt Z.a_Table Z.a_Ladder H t1 L n fs ret first) (h2 : TabAt Z.a_Table Z.a_Ladder H t2 L n fs ret last) (a : AOk L n fs ret first last x) (k : ∀ O, OutR L n fs ret first last x O → ∀ p H', H p = none → Same H H' → HidT Z H H' p L n fs ret (FL L n fs ret first last x) O → Q (.ref p) H') : sp_hid Z [.ref t1, .ref t2, .int x] H Q E := by
  refine ⟨t1, t2, x, L, n, fs, first, last, ret, ret, rfl, h1, h2, a.o, a.fb, a.lb, a.xb, fun h => absurd rfl h, fun _ h => absurd h (by have := a.x0; omega), fun _ _ => ⟨fun r hr hb he p H' fp e hp => k (.below r) ⟨hr, hb, he⟩ p H' fp e hp, fun hB => ⟨fun r hr hs he p H' fp e hp => k (.sum r) ⟨hB, hr, hs, he⟩ p H' fp e hp, fun hS => ⟨fun h => ?_, fun N hN hN3 => ?_⟩⟩⟩⟩
  · have h2 : 3000 < sm (BL L n fs first last x) n := h
    have := a.lim hB
    omega
  · have hF : fin L n fs ret first (bill L n fs first last x) N = FL L n fs ret first last x := by
      unfold FL
      have : (sm (BL L n fs first last x) n).toNat = N := by
        have h : sm (BL L n fs first last x) n = (N : Int) := hN
        omega
      rw [this]
      rfl
    rw [hF]
    exact ⟨fun h p rq H' fp frq e h1 h2 => k .season ⟨hB, hS, h⟩ p H' fp e ⟨rq, frq, h1, h2⟩, fun h p t' dq H' fp e h1 h2 h3 => k .stuck ⟨hB, hS, h⟩ p H' fp e ⟨t', dq, h1, h2, h3⟩⟩
def sp_kdue : Sp := fun vs H Q _ => ∃ (p fq lq : Addr) (x L : Int) (n : Nat) (fs first last : Nat → Int) (ret : Bool), vs = [.ref p, .ref fq, .ref lq, .int x] ∧ PlA H p L n fs ret ∧ IL H fq n first ∧ IL H lq n last ∧ AOk L n fs ret first last x ∧ ∀ O, OutR L n fs ret first last x O → ∀ p H', H p = none → Same H H' → OutT H' p n (FL L n fs ret first last x) O → Q (.ref p) H'
theorem c_kthr {p fq hq : Addr} {hi : Bool} {L : Int} {n N : Nat} {fs first h : Nat → Int} {ret : Bool} {H : Hp} {Q : VK} {E : XK} (hp : PlA H p L n fs ret) (hf : IL H fq n first) (hh : IL H hq n h) (o : BOk L n fs) (f0 : ∀ i, i < n → 0 ≤ first i) (h0 : ∀ i, i < n → 0 ≤ h i) (hN : sm h n = (N : Int)) (N3 : N ≤ 3000) (k : ∀ q rq cq lq H', H q = none → H cq = none → H lq = none → H rq = none → Same H H' → H' q = some (.lst [.ref rq, .ref cq, .ref lq]) → H' rq = some (.lst (nL (it L n fs ret (pkb L n hi) ⟨first, h, []⟩ N).rs)) → IL H' cq n (it L n fs ret (pkb L n hi) ⟨first, h, []⟩ N).cs → IL H' lq n (it L n fs ret (pkb L n hi) ⟨first, h, []⟩ N).h → Q (.ref q) H') : sp_kthr [.ref p, .ref fq, .ref hq, .bl hi] H Q E := ⟨p, fq, hq, hi, L, n, N, fs, first, h, ret, rfl, hp, hf, hh, o, f0, h0, hN, N3, k⟩
theorem d_law_k31_due (T : Txt K w mg Z) : Dfn P w K mg base 4 "_law_k31_due" ["plain", "first", "last", "crowns"] (sp_kdue) := by
  obtain ⟨f, fd, F, hm, hb⟩ := T.f_law_k31_due
  refine ⟨f, fd, F.ok sc_law_k31_due (fun vs H Q E h => by first | (obtain ⟨rfl, _⟩ := h; rfl) | (obtain ⟨_, rfl, _⟩ := h; rfl) | (obtain ⟨_, _, rfl, _⟩ := h; rfl) | (obtain ⟨_, _, _, rfl, _⟩ := h; rfl) | (obtain ⟨_, _, _, _, rfl, _⟩ := h; rfl) | (obtain ⟨_, _, _, _, _, rfl, _⟩ := h; rfl) | (obtain ⟨_, _, _, _, _, _, rfl, _⟩ := h; rfl) | (obtain ⟨_, _, _, _, _, _, _, rfl, _⟩ := h; rfl) | (obtain ⟨_, _, _, _, _, _, _, _, rfl, _⟩ := h; rfl) | (obtain ⟨_, _, _, _, _, _, _, _, _, rfl, _⟩ := h; rfl) | (obtain ⟨_, _, _, _, _, _, _, _, _, _, rfl, _⟩ := h; rfl) | (obtain ⟨_, _, _, _, _, _, _, _, _, _, _, rfl, _⟩ := h; rfl) | (obtain ⟨_, _, _, _, _, _, _, _, _, _, _, _, rfl, _⟩ := h; rfl) | (obtain ⟨_, _, _, _, _, _, _, _, _, _, _, _, _, rfl, _⟩ := h; rfl) | (obtain ⟨_, _, _, _, _, _, _, _, _, _, _, _, _, _, rfl, _⟩ := h; rfl) | (obtain ⟨_, _, _, _, _, _, _, _, _, _, _, _, _, _, _, rfl, _⟩ := h; rfl) | (obtain ⟨_, _, _, _, _, _, _, _, _, _, _, _, _, _, _, _, rfl, _⟩ := h; rfl)) (fun cdv A outer s H vs Q E hr h => ?_), hm, F.kp, hb⟩
  obtain ⟨p, fq, lq, x, L, n, fs, first, last, ret, rfl, hp, hf, hl, a, k⟩ := h
  have o := a.o
  have n0 := o.n0
  have n5 := o.n5
  have l2 := o.l2
  have D_law_k31_bill := d_law_k31_bill (P := P) (base := base) T
  have D_law_k31_sums := d_law_k31_sums (P := P) (base := base) T
  have D_law_k31_thrifty := d_law_k31_thrifty (P := P) (base := base) T
  refine ⟨_, (pss_cons (ps_set (i := 4) sc_law_k31_due.nd rfl (.inl rfl) (pe_dfn D_law_k31_bill (hr.mono (by decide)) (by rfl) (pa_cons (pv 0) (pa_cons (pv 1) (pa_cons (pv 2) (pa_cons (pv 3) pa_nil))))))
      (pss_cons (ps_for PassesOwn.never rfl (pi_range1 (by rfl) T.b_range (pa_cons (pe_callB call_uLen (by rfl) T.b_len bt_len (pa_cons (pv 4) pa_nil)) pa_nil)) (pg_name (i := 5) sc_law_k31_due.nd rfl (.inl rfl))
        (pss_one (ps_if (pt_cmpR op_lt (pe_ix ix_seq (pv 4) (pv 5) (fun _ _ => rfl)) pe_int (nomark _)) (pss_one (ps_ret (pe_tup (pa_cons pe_str (pa_cons (pv 5) pa_nil))))) pss_nil)))
      (pss_cons (ps_set (i := 6) sc_law_k31_due.nd rfl (.inl rfl) (pe_dfn D_law_k31_sums (hr.mono (by decide)) (by rfl) (pa_cons (pv 0) (pa_cons (pv 1) (pa_cons (pv 4) (pa_cons (pv 3) pa_nil))))))
      (pss_cons (ps_for PassesOwn.never rfl (pi_range1 (by rfl) T.b_range (pa_cons (pe_callB call_uLen (by rfl) T.b_len bt_len (pa_cons (pv 4) pa_nil)) pa_nil)) (pg_name (i := 5) sc_law_k31_due.nd rfl (.inl rfl))
        (pss_one (ps_if (pt_cmpR (op_uNe hr.units) (pe_ix ix_seq (pv 6) (pv 5) (fun _ _ => rfl)) (pe_ix ix_seq (pv 2) (pv 5) (fun _ _ => rfl)) (nomark _)) (pss_one (ps_ret (pe_tup (pa_cons pe_str (pa_cons (pv 5) pa_nil))))) pss_nil)))
      (pss_cons (ps_set (i := 7) sc_law_k31_due.nd rfl (.inl rfl) (pe_dfn D_law_k31_thrifty (hr.mono (by decide)) (by rfl) (pa_cons (pv 0) (pa_cons (pv 1) (pa_cons (pv 4) (pa_cons pe_bl pa_nil))))))
      (pss_cons (ps_set (i := 8) sc_law_k31_due.nd rfl (.inl rfl) (pe_dfn D_law_k31_thrifty (hr.mono (by decide)) (by rfl) (pa_cons (pv 0) (pa_cons (pv 1) (pa_cons (pv 4) (pa_cons pe_bl pa_nil))))))
      (pss_cons (ps_if (pt_cmpR (op_uNe hr.units) (pe_slice sl_u (pv 7) (po_some pe_int) po_none) (pe_slice sl_u (pv 8) (po_some pe_int) po_none) (nomark _)) (pss_one (ps_ret (pe_tup (pa_cons pe_str pa_nil)))) pss_nil)
      (pss_one (ps_ret (pe_ifExp (pt_cmpR (op_uEq hr.units) (pe_callB (cr_sum rfl) (by rfl) T.b_sum bt_sum (pa_cons (pe_ix ix_seq (pv 7) pe_int (fun _ _ => rfl)) pa_nil)) pe_int (nomark _)) (pe_tup (pa_cons pe_str (pa_cons (pe_ix ix_seq (pv 7) pe_int (fun _ _ => rfl)) pa_nil))) (pe_tup (pa_cons pe_str (pa_cons (pe_ix ix_seq (pv 7) pe_int (fun _ _ => rfl)) (pa_cons (pe_ix ix_seq (pv 7) pe_int (fun _ _ => rfl)) pa_nil)))))))))))))), ?_⟩
  try dsimp only [cxOf, Cx.nox, Cx.wish]
  show (_ : TS) _ [some _, some _, some _, some _, none, none, none, none, none] _
  o_readsAll
  refine c_kbill hp hf hl o (fun i hi => (a.fb i hi).2) (fun i hi => (a.lb i hi).2) a.xb fun hq H1 fhq e1 hhq => ?_
  have hhq : IL H1 hq n (BL L n fs first last x) := hhq
  have hBb : ∀ i, (BL L n fs first last x i).natAbs < 2 ^ 500 := fun i => bill_bd o (fun i hi => (a.fb i hi).2) (fun i hi => (a.lb i hi).2) a.xb i
  have hhq' := hhq
  unfold IL at hhq'
  o_readsAll
  rw [rng_len]
  refine f_rng (fun i σ' H' => ∃ (x5 : Option V), σ' = [some (.ref p), some (.ref fq), some (.ref lq), some (.int x), some (.ref hq), x5, none, none, none] ∧ H' = H1 ∧ ∀ e, e < i → 0 ≤ BL L n fs first last x e) ⟨_, rfl, rfl, fun e he => by omega⟩ ?_ ?_
  · rintro i σ' G hi ⟨x5, rfl, hG, hp0⟩
    rw [hG]
    clear hG
    rw [Int.toNat_natCast] at hi
    rw [Int.zero_add]
    o_readsAll
    refine g_ixL hhq.sq (atI_nat (rng_at hi)) ?_
    o_readsAll
    refine br (fun hc => ?_) (fun hc => ?_)
    · o_readsAll
      rename_i q H2 fq2 e2 hq2
      exact k (.below i) ⟨hi, hc, hp0⟩ q H2 (e1.free fq2) (e1.trans e2) hq2
    · o_readsAll
      exact ⟨_, rfl, rfl, fun e he => by
        by_cases h : e = i
        · rw [h]; omega
        · exact hp0 e (by omega)⟩
  · rintro σ' G ⟨x5, rfl, hG, hp0⟩
    rw [hG]
    clear hG
    rw [Int.toNat_natCast] at hp0
    o_readsAll
    refine c_ksums (hp.same e1) (hf.same e1) hhq o (fun i hi => hBb i) fun sq H2 fsq e2 hsq => ?_
    have hsq : IL H2 sq n (SL L n fs ret first last x) := hsq
    have e02 : Same H H2 := e1.trans e2
    have hhq2 := e2 _ _ hhq'
    o_readsAll
    rw [rng_len]
    refine f_rng (fun i σ' H' => ∃ (x5 : Option V), σ' = [some (.ref p), some (.ref fq), some (.ref lq), some (.int x), some (.ref hq), x5, some (.ref sq), none, none] ∧ H' = H2 ∧ ∀ e, e < i → SL L n fs ret first last x e = last e) ⟨_, rfl, rfl, fun e he => by omega⟩ ?_ ?_
    · rintro i σ' G hi ⟨x5, rfl, hG, hp1⟩
      rw [hG]
      clear hG
      rw [Int.toNat_natCast] at hi
      rw [Int.zero_add]
      o_readsAll
      refine g_ixL hsq.sq (atI_nat (rng_at hi)) ?_
      o_readsAll
      refine g_ixL (hl.same e02).sq (atI_nat (rng_at hi)) ?_
      o_readsAll
      refine brn (fun hc => ?_) (fun hc => ?_)
      · o_readsAll
        rename_i q H3 fq3 e3 hq3
        exact k (.sum i) ⟨hp0, hi, hc, hp1⟩ q H3 (e02.free fq3) (e02.trans e3) hq3
      · o_readsAll
        exact ⟨_, rfl, rfl, fun e he => by
          by_cases h : e = i
          · rw [h]; exact hc
          · exact hp1 e (by omega)⟩
    · rintro σ' G ⟨x5, rfl, hG, hp1⟩
      rw [hG]
      clear hG
      rw [Int.toNat_natCast] at hp1
      obtain ⟨N, hN⟩ : ∃ N : Nat, sm (BL L n fs first last x) n = (N : Int) := ⟨(sm (BL L n fs first last x) n).toNat, by have := sm_nn hp0; omega⟩
      have hN3 : N ≤ 3000 := by have := a.lim hp0; omega
      have hF : it L n fs ret (pkb L n true) ⟨first, BL L n fs first last x, []⟩ N = FL L n fs ret first last x := by
        unfold FL
        rw [show (sm (BL L n fs first last x) n).toNat = N by omega]
        rfl
      have hsame := same_left (fs := fs) (ret := ret) (pkb_pick L n true) (pkb_pick L n false) (by omega) (s := ⟨first, BL L n fs first last x, []⟩) hp0 (fun b hb => (a.fb b hb).1) hN
      rw [hF] at hsame
      o_readsAll
      refine c_kthr (ret := ret) (hp.same e02) (hf.same e02) (show IL H2 hq n _ from hhq2) o (fun b hb => (a.fb b hb).1) hp0 hN hN3 fun q1 rq1 cq1 lq1 H3 f1 f2 f3 f4 e3 h1 h2 h3 h4 => ?_
      rw [hF] at h2 h3 h4
      have e03 : Same H H3 := e02.trans e3
      o_readsAll
      refine c_kthr (ret := ret) (hp.same e03) (hf.same e03) (show IL H3 hq n _ from e3 _ _ hhq2) o (fun b hb => (a.fb b hb).1) hp0 hN hN3 fun q2 rq2 cq2 lq2 H4 g1 g2 g3 g4 e4 k1 k2 k3 k4 => ?_
      have e04 : Same H H4 := e03.trans e4
      have h14 := e4 _ _ h1
      have h34 := h3.same e4
      have h44 := h4.same e4
      o_readsAll
      rename_i s1 H5 fs1 e5 hs1 s2 H6 fs2 e6 hs2
      refine g_neLL (rs := [cq1, lq1]) (qs := [cq2, lq2]) (ls := [(List.range n).map (FL L n fs ret first last x).cs, (List.range n).map (FL L n fs ret first last x).h]) (ms := [(List.range n).map (FL L n fs ret first last x).cs, (List.range n).map (FL L n fs ret first last x).h]) (.of (e6 _ _ hs1)) (.of hs2) rfl rfl (fun i r l hr hl => ?_) (fun i r l hr hl => ?_) ?_
      · match i, hr, hl with
        | 0, hr, hl => cases hr; cases hl; rw [← rng_ints]; exact ((h34.same e5).same e6).sq
        | 1, hr, hl => cases hr; cases hl; rw [← rng_ints]; exact ((h44.same e5).same e6).sq
        | i + 2, hr, _ => cases hr
      · match i, hr, hl with
        | 0, hr, hl =>
          cases hr; cases hl
          rw [← rng_ints, rng_congr fun b hb => hsame.2 b hb]
          exact ((k3.same e5).same e6).sq
        | 1, hr, hl =>
          cases hr; cases hl
          rw [← rng_ints, rng_congr fun b hb => hsame.1 b hb]
          exact ((k4.same e5).same e6).sq
        | i + 2, hr, _ => cases hr
      rw [decide_eq_true rfl]
      have h16 := e6 _ _ (e5 _ _ h14)
      have e06 : Same H H6 := (e04.trans e5).trans e6
      have e36 : Same H3 H6 := (e4.trans e5).trans e6
      o_readsAll
      refine g_sumI (h4.same e36) ?_
      o_readsAll
      refine br (fun hc => ?_) (fun hc => ?_)
      · o_readsAll
        rename_i q H7 fq7 e7 hq7
        exact k .season ⟨hp0, hp1, hc⟩ q H7 (e06.free fq7) (e06.trans e7) ⟨rq1, hq7, e7 _ _ (e36 _ _ h2)⟩
      · o_readsAll
        rename_i q H7 fq7 e7 hq7
        have hpos : 0 < sm (FL L n fs ret first last x).h n := by
          have lg := leg_it (fs := fs) (ret := ret) (pkb_pick L n true) (by omega) (s := ⟨first, BL L n fs first last x, []⟩) hp0 (fun b hb => (a.fb b hb).1) N
          rw [hF] at lg
          have := sm_nn lg.h0
          omega
        exact k .stuck ⟨hp0, hp1, hpos⟩ q H7 (e06.free fq7) (e06.trans e7) ⟨cq1, lq1, hq7, (h3.same e36).same e7, (h4.same e36).same e7⟩
end
end L31

namespace L31
set_option exponentiation.threshold 9000
open SX Ld Rd Bl
section
variable {P : Program} {w : World} {K : PySem.W.Frag} {mg : Str → Option Value} {base : Heap} {Z : Ad}
theorem alk_pair {H : Hp} {n : Nat} {a b : Addr} {s : Str} {x y : V} (ha : H a = some (.tup [.str s, x])) (hb : H b = some (.tup [.str s, y])) (h : Alk H (n + 1) x y) : Alk H (n + 2) (.ref a) (.ref b) := by
  refine .inr (.inr (.inr (.inr (.inl ⟨a, b, _, _, rfl, rfl, ha, hb, rfl, Nat.le_trans (Nat.le_refl 2) (by decide), fun i u v hu hv => ?_⟩))))
  match i, hu, hv with
  | 0, hu, hv => cases hu; cases hv; exact .inr (.inr (.inl ⟨_, rfl, rfl⟩))
  | 1, hu, hv => cases hu; cases hv; exact h
  | i + 2, hu, _ => cases hu
theorem alk_three {H : Hp} {n : Nat} {a b : Addr} {s : Str} {x y x' y' : V} (ha : H a = some (.tup [.str s, x, x'])) (hb : H b = some (.tup [.str s, y, y'])) (h : Alk H (n + 1) x y) (h' : Alk H (n + 1) x' y') : Alk H (n + 2) (.ref a) (.ref b) := by
  refine .inr (.inr (.inr (.inr (.inl ⟨a, b, _, _, rfl, rfl, ha, hb, rfl, Nat.le_trans (Nat.le_refl 3) (by decide), fun i u v hu hv => ?_⟩))))
  match i, hu, hv with
  | 0, hu, hv => cases hu; cases hv; exact .inr (.inr (.inl ⟨_, rfl, rfl⟩))
  | 1, hu, hv => cases hu; cases hv; exact h
  | 2, hu, hv => cases hu; cases hv; exact h'
  | i + 3, hu, _ => cases hu
theorem alk_nL {H : Hp} {m : Nat} {a b : Addr} {l : List Nat} (ha : H a = some (.lst (nL l))) (hb : H b = some (.lst (nL l))) (hl : l.length ≤ 1000000) : Alk H (m + 2) (.ref a) (.ref b) := by
  refine .inr (.inr (.inr (.inr (.inr ⟨a, b, _, _, rfl, rfl, ha, hb, rfl, by unfold nL; rw [List.length_map]; exact hl, fun i u v hu hv => ?_⟩))))
  rw [hu] at hv
  cases hv
  unfold nL at hu
  rw [List.getElem?_map] at hu
  obtain ⟨r, _, rfl⟩ := Option.map_eq_some_iff.mp hu
  exact .inr (.inl ⟨_, rfl, rfl⟩)
theorem it_len {L : Int} {n : Nat} {fs : Nat → Int} {ret : Bool} {pk : Pl → Option Nat} {s : Pl} (h : s.rs = []) : ∀ i, (it L n fs ret pk s i).rs.length ≤ i
  | 0 => by show s.rs.length ≤ 0; rw [h]; exact Nat.le_refl 0
  | i + 1 => by
    have ih := it_len (L := L) (n := n) (fs := fs) (ret := ret) (pk := pk) h i
    cases e : pk (it L n fs ret pk s i) with
    | none => rw [it_none e]; omega
    | some r =>
      rw [it_some e]
      show ((it L n fs ret pk s i).rs ++ [r]).length ≤ i + 1
      rw [List.length_append, List.length_singleton]
      omega
theorem FL_len {L : Int} {n : Nat} {fs : Nat → Int} {ret : Bool} {first last : Nat → Int} {x : Int} (a : AOk L n fs ret first last x) (hp : ∀ e, e < n → 0 ≤ BL L n fs first last x e) : (FL L n fs ret first last x).rs.length ≤ 3000 := by
  have h1 := it_len (L := L) (n := n) (fs := fs) (ret := ret) (pk := fun s => hiR L s n) (s := ⟨first, BL L n fs first last x, []⟩) rfl (sm (BL L n fs first last x) n).toNat
  have h2 := a.lim hp
  have h3 : (FL L n fs ret first last x).rs.length ≤ (sm (BL L n fs first last x) n).toNat := h1
  omega
theorem OutT.same {H H' : Hp} {p : Addr} {n : Nat} {s : Pl} {O : Out} (h : OutT H p n s O) (e : Same H H') : OutT H' p n s O := by
  cases O with
  | below r => exact e _ _ h
  | sum r => exact e _ _ h
  | season => obtain ⟨q, a, b⟩ := h; exact ⟨q, e _ _ a, e _ _ b⟩
  | stuck => obtain ⟨c, l, a, b, d⟩ := h; exact ⟨c, l, e _ _ a, b.same e, d.same e⟩
def sp_kask (Z : Ad) : Sp := fun vs H Q _ => ∃ (l p fq lq : Addr) (x L : Int) (n : Nat) (fs first last : Nat → Int) (ret : Bool), vs = [.ref l, .ref p, .ref fq, .ref lq, .int x] ∧ LadAt Z.a_Ladder H l L n fs ret ∧ PlA H p L n fs ret ∧ IL H fq n first ∧ IL H lq n last ∧ AOk L n fs ret first last x ∧ ∀ H', Same H H' → Q (.bl true) H'
theorem d_law_k31_asked (T : Txt K w mg Z) : Dfn P w K mg base 10 "_law_k31_asked" ["ladder", "plain", "first", "last", "crowns"] (sp_kask Z) := by
  obtain ⟨f, fd, F, hm, hb⟩ := T.f_law_k31_asked
  refine ⟨f, fd, F.ok sc_law_k31_asked (fun vs H Q E h => by first | (obtain ⟨rfl, _⟩ := h; rfl) | (obtain ⟨_, rfl, _⟩ := h; rfl) | (obtain ⟨_, _, rfl, _⟩ := h; rfl) | (obtain ⟨_, _, _, rfl, _⟩ := h; rfl) | (obtain ⟨_, _, _, _, rfl, _⟩ := h; rfl) | (obtain ⟨_, _, _, _, _, rfl, _⟩ := h; rfl) | (obtain ⟨_, _, _, _, _, _, rfl, _⟩ := h; rfl) | (obtain ⟨_, _, _, _, _, _, _, rfl, _⟩ := h; rfl) | (obtain ⟨_, _, _, _, _, _, _, _, rfl, _⟩ := h; rfl) | (obtain ⟨_, _, _, _, _, _, _, _, _, rfl, _⟩ := h; rfl) | (obtain ⟨_, _, _, _, _, _, _, _, _, _, rfl, _⟩ := h; rfl) | (obtain ⟨_, _, _, _, _, _, _, _, _, _, _, rfl, _⟩ := h; rfl) | (obtain ⟨_, _, _, _, _, _, _, _, _, _, _, _, rfl, _⟩ := h; rfl) | (obtain ⟨_, _, _, _, _, _, _, _, _, _, _, _, _, rfl, _⟩ := h; rfl) | (obtain ⟨_, _, _, _, _, _, _, _, _, _, _, _, _, _, rfl, _⟩ := h; rfl) | (obtain ⟨_, _, _, _, _, _, _, _, _, _, _, _, _, _, _, rfl, _⟩ := h; rfl) | (obtain ⟨_, _, _, _, _, _, _, _, _, _, _, _, _, _, _, _, rfl, _⟩ := h; rfl)) (fun cdv A outer s H vs Q E hr h => ?_), hm, F.kp, hb⟩
  obtain ⟨l, p, fq, lq, x, L, n, fs, first, last, ret, rfl, hl, hp, hf, hla, a, k⟩ := h
  have o := a.o
  have n0 := o.n0
  have n5 := o.n5
  have l2 := o.l2
  have l3 := o.l3
  have hp' := hp
  obtain ⟨fl, hp1, hp2⟩ := hp'
  have f0 : ∀ i, i < n → 0 ≤ first i := fun i hi => (a.fb i hi).1
  have la0 : ∀ i, i < n → 0 ≤ last i := fun i hi => (a.lb i hi).1
  have D_Table_init := d_Table_init (P := P) (base := base) T
  have D_law_k31_bill := d_law_k31_bill (P := P) (base := base) T
  have D_bill_of := d_bill_of (P := P) (base := base) T
  have D_law_k31_due := d_law_k31_due (P := P) (base := base) T
  have D_hidden_season := d_hidden_season (P := P) (base := base) T
  have D_Ladder_init := d_Ladder_init (P := P) (base := base) T
  have D_law_matches := d_law_matches (P := P) (base := base) T
  have D_Ladder_same_as := d_Ladder_same_as (P := P) (base := base) T
  have D_Table_counts := d_Table_counts (P := P) (base := base) T
  have D_Table_ladder := d_Table_ladder (P := P) (base := base) T
  refine ⟨_, (pss_cons (ps_set (i := 5) sc_law_k31_asked.nd rfl (.inl rfl) (pe_ini D_Table_init (hr.mono (by decide)) (by rfl) (pa_cons (pv 0) (pa_cons (pv 2) pa_nil))))
      (pss_cons (ps_set (i := 6) sc_law_k31_asked.nd rfl (.inl rfl) (pe_ini D_Table_init (hr.mono (by decide)) (by rfl) (pa_cons (pe_ini D_Ladder_init (hr.mono (by decide)) (by rfl) (pa_cons (pe_ix ix_seq (pv 1) pe_int (fun _ _ => rfl)) (pa_cons (pe_ix ix_seq (pv 1) pe_int (fun _ _ => rfl)) (pa_cons (pe_ix ix_seq (pv 1) pe_int (fun _ _ => rfl)) pa_nil)))) (pa_cons (pv 3) pa_nil))))
      (pss_cons (ps_set (i := 7) sc_law_k31_asked.nd rfl (.inl rfl) (pe_dfn D_law_k31_bill (hr.mono (by decide)) (by rfl) (pa_cons (pv 1) (pa_cons (pv 2) (pa_cons (pv 3) (pa_cons (pv 4) pa_nil))))))
      (pss_cons (ps_set (i := 8) sc_law_k31_asked.nd rfl (.inl rfl) (pe_dfnS D_bill_of (hr.mono (by decide)) (by rfl) takes0 (pa_cons (pv 5) (pa_cons (pv 6) (pa_cons (pv 4) pa_nil)))))
      (pss_cons (ps_if (pt_not (pt_u (pe_dfn (D_law_matches 3) (hr.mono (by decide)) (by rfl) (pa_cons (pv 8) (pa_cons (pv 7) pa_nil))))) (pss_one (ps_ret pe_bl)) pss_nil)
      (pss_cons (ps_asg pe_int (pg_sub (pv 8) pe_int set_list))
      (pss_cons (ps_set (i := 9) sc_law_k31_asked.nd rfl (.inl rfl) (pe_dfn D_law_k31_due (hr.mono (by decide)) (by rfl) (pa_cons (pv 1) (pa_cons (pv 2) (pa_cons (pv 3) (pa_cons (pv 4) pa_nil))))))
      (pss_cons (ps_set (i := 8) sc_law_k31_asked.nd rfl (.inl rfl) (pe_dfnS D_hidden_season (hr.mono (by decide)) (by rfl) takes0 (pa_cons (pv 5) (pa_cons (pv 6) (pa_cons (pv 4) pa_nil)))))
      (pss_cons (ps_if (pt_cmpR (op_uEq hr.units) (pe_ix ix_seq (pv 9) pe_int (fun _ _ => rfl)) pe_str (nomark _)) (pss_cons (ps_if (PW.pt (pw_or (pt_not (pt_u (pe_callB call_isi (by rfl) T.b_isinstance bt_isinstance (pa_cons (pv 8) (pa_cons (pe_bltn (v := .ty "tuple") (by rfl) T.b_tuple bt_tuple rfl) pa_nil))))) (pw_or (pt_cmpR (op_uNe hr.units) (pe_callB call_uLen (by rfl) T.b_len bt_len (pa_cons (pv 8) pa_nil)) pe_int (nomark _)) (pw_or1 (pt_not (pt_u (pe_dfn (D_law_matches 3) (hr.mono (by decide)) (by rfl) (pa_cons (pe_tup (pa_cons (pe_ix ix_seq (pv 8) pe_int (fun _ _ => rfl)) (pa_cons (pe_mth0 D_Table_counts (hr.mono (by decide)) (pe_ix ix_seq (pv 8) pe_int (fun _ _ => rfl))) (pa_cons (pe_ix ix_seq (pv 8) pe_int (fun _ _ => rfl)) pa_nil)))) (pa_cons (pv 9) pa_nil))))))))) (pss_one (ps_ret pe_bl)) pss_nil)
      (pss_one (ps_ret (pe_and (pe_cmpR op_uIsB (pe_mth D_Ladder_same_as (hr.mono (by decide)) (pe_mth0 D_Table_ladder (hr.mono (by decide)) (pe_ix ix_seq (pv 8) pe_int (fun _ _ => rfl))) (pa_cons (pv 0) pa_nil)) pe_bl (nomark _)) (pe_one (pe_dfn (D_law_matches 3) (hr.mono (by decide)) (by rfl) (pa_cons (pe_mth0 D_Table_counts (hr.mono (by decide)) (pv 5)) (pa_cons (pv 2) pa_nil)))))))) pss_nil)
      (pss_cons (ps_if (pt_not (pt_u (pe_dfn (D_law_matches 3) (hr.mono (by decide)) (by rfl) (pa_cons (pv 8) (pa_cons (pv 9) pa_nil))))) (pss_one (ps_ret pe_bl)) pss_nil)
      (pss_cons (ps_if (pt_cmpR (op_uEq hr.units) (pe_ix ix_seq (pv 9) pe_int (fun _ _ => rfl)) pe_str (nomark _)) (pss_cons (ps_expr (pe_bm PySem.F.plainAttrs_list PySem.F.slot_list_append PySem.F.type_list_append mt_append (pe_ix ix_seq (pv 8) pe_int (fun _ _ => rfl)) (pa_cons pe_int pa_nil)))
      (pss_one (ps_ret (pe_dfn (D_law_matches 3) (hr.mono (by decide)) (by rfl) (pa_cons (pe_dfnS D_hidden_season (hr.mono (by decide)) (by rfl) takes0 (pa_cons (pv 5) (pa_cons (pv 6) (pa_cons (pv 4) pa_nil)))) (pa_cons (pv 9) pa_nil)))))) pss_nil)
      (pss_one (ps_ret pe_bl))))))))))))), ?_⟩
  try dsimp only [cxOf, Cx.nox, Cx.wish]
  show (_ : TS) _ [some _, some _, some _, some _, some _, none, none, none, none, none] _
  o_readsAll
  refine c_tmake hl hf (by omega) f0 fun t1 H1 ft1 e1 ht1 => ?_
  have p11 := e1 _ _ hp1
  have p12 := e1 _ _ (show H fl = some (.lst (rng n fs)) from hp2)
  o_readsAll
  refine c_lmake (show IL H1 fl n fs from p12) l2 (by omega) n0 (by omega) o.ok fun m H2 fm e2 hm => ?_
  have e02 : Same H H2 := e1.trans e2
  o_readsAll
  refine c_tmake hm.at (hla.same e02) (by omega) la0 fun t2 H3 ft2 e3 ht2 => ?_
  have e03 : Same H H3 := e02.trans e3
  have ht13 := (ht1.same e2).same e3
  o_readsAll
  refine c_kbill (hp.same e03) (hf.same e03) (hla.same e03) o (fun i hi => (a.fb i hi).2) (fun i hi => (a.lb i hi).2) a.xb fun hq H4 fhq e4 hhq => ?_
  o_readsAll
  refine c_bof (ht13.same e4) (ht2.same e4) o a.fb a.lb a.x0 a.xb fun q5 H5 fq5 e5 hq5 => ?_
  have hhq5 := hhq.same e5
  o_readsAll
  refine c_mat (alk_il (m := 1) hq5 hhq5 (by omega)) fun H6 e6 => ?_
  have hq56 := hq5.same e6
  o_readsAll
  refine g_setL hq56 (by rw [rng_len]; exact ixN_at (j := 0) n0) rfl ?_
  generalize ((rng n _).set 0 _) = ys
  have e47 : Same H4 (upd H6 q5 (.lst ys)) := Eg.Same.put (e5.trans e6) fq5
  have e07 : Same H (upd H6 q5 (.lst ys)) := (e03.trans e4).trans e47
  have ht17 := (ht13.same e4).same e47
  have ht27 := (ht2.same e4).same e47
  generalize upd H6 q5 (.lst ys) = H7 at *
  clear hq56 hq5 hhq5 hhq e47 e5 e6 e4 e3 e2 ht13 ht2 ht1
  o_readsAll
  refine ⟨p, fq, lq, x, L, n, fs, first, last, ret, rfl, hp.same e07, hf.same e07, hla.same e07, a, fun O hO dq H8 fdq e8 hdq => ?_⟩
  have e08 : Same H H8 := e07.trans e8
  have ht18 := ht17.same e8
  have ht28 := ht27.same e8
  o_readsAll
  refine c_hid ht18 ht28 a fun O' hO' tq H9 ftq e9 htq => ?_
  have hOO := out_one L n fs ret first last x hO' hO
  subst hOO
  have hdq9 := hdq.same e9
  have e09 : Same H H9 := e08.trans e9
  have ht19 := ht18.same e9
  cases O' with
  | below r =>
    have hdq9 : H9 dq = some (.tup [.str "below", .int (r : Int)]) := hdq9
    have htq : H9 tq = some (.tup [.str "below", .int (r : Int)]) := htq
    o_readsAll
    rw [decide_eq_false (show ¬ (("below" : Str) = "stuck") by decide +kernel)]
    o_readsAll
    refine c_mat (alk_pair htq hdq9 (.inr (.inl ⟨_, rfl, rfl⟩))) fun H10 e10 => ?_
    have hdq10 := e10 _ _ hdq9
    o_readsAll
    rw [decide_eq_false (show ¬ (("below" : Str) = "season") by decide +kernel)]
    o_readsAll
    exact k H10 (e09.trans e10)
  | sum r =>
    have hdq9 : H9 dq = some (.tup [.str "sum", .int (r : Int)]) := hdq9
    have htq : H9 tq = some (.tup [.str "sum", .int (r : Int)]) := htq
    o_readsAll
    rw [decide_eq_false (show ¬ (("sum" : Str) = "stuck") by decide +kernel)]
    o_readsAll
    refine c_mat (alk_pair htq hdq9 (.inr (.inl ⟨_, rfl, rfl⟩))) fun H10 e10 => ?_
    have hdq10 := e10 _ _ hdq9
    o_readsAll
    rw [decide_eq_false (show ¬ (("sum" : Str) = "season") by decide +kernel)]
    o_readsAll
    exact k H10 (e09.trans e10)
  | season =>
    obtain ⟨sq, hs1, hs2⟩ := hdq9
    obtain ⟨rq, frq, hr1, hr2⟩ := htq
    have hlen := FL_len a hO.1
    have hsz : (nL (FL L n fs ret first last x).rs).length < sizeLine := by unfold nL; rw [List.length_map, sizeLine_eq]; omega
    o_readsAll
    rw [decide_eq_false (show ¬ (("season" : Str) = "stuck") by decide +kernel)]
    o_readsAll
    refine c_mat (alk_pair hr1 hs1 (alk_nL hr2 hs2 (by omega))) fun H10 e10 => ?_
    have hs10 := e10 _ _ hs1
    have hr10 := e10 _ _ hr1
    have hr20 := e10 _ _ hr2
    have hs20 := e10 _ _ hs2
    o_readsAll
    rw [decide_eq_true (show (("season" : Str) = "season") from rfl)]
    o_readsAll
    have e811 : Same H8 (upd H10 rq (.lst (nL (FL L n fs ret first last x).rs ++ [.int 0]))) := Eg.Same.put (e9.trans e10) frq
    have hdq11 := hdq.same e811
    have ht111 := ht18.same e811
    have ht211 := ht28.same e811
    generalize upd H10 rq (.lst (nL (FL L n fs ret first last x).rs ++ [.int 0])) = H11 at *
    refine c_hid ht111 ht211 a fun O2 hO2 tq2 H12 ftq2 e12 htq2 => ?_
    have hOO2 := out_one L n fs ret first last x hO2 hO
    subst hOO2
    obtain ⟨sq2, g1, g2⟩ := hdq11.same e12
    obtain ⟨rq2, frq2, g3, g4⟩ := htq2
    o_readsAll
    refine c_mat (alk_pair g3 g1 (alk_nL g4 g2 (by omega))) fun H13 e13 => ?_
    o_readsAll
    exact k H13 (((e08.trans e811).trans e12).trans e13)
  | stuck =>
    obtain ⟨cq, hqq, hs1, hs2, hs3⟩ := hdq9
    obtain ⟨t', l', hr1, hr2, hr3⟩ := htq
    have hr2' := hr2
    obtain ⟨dx, lt, clt, it9, _, _⟩ := hr2'
    o_readsAll
    rw [decide_eq_true (show (("stuck" : Str) = "stuck") from rfl)]
    o_readsAll
    refine brF rfl ?_
    o_readsAll
    refine c_tcnt hr2 fun cq2 H10 fcq2 e10 hcq2 => ?_
    have hr1a := e10 _ _ hr1
    o_readsAll
    rename_i tp H11 ftp e11 htp
    refine c_mat (alk_three htp (e11 _ _ (e10 _ _ hs1)) (alk_il (m := 0) (hcq2.same e11) ((hs2.same e10).same e11) (by omega)) (alk_il (m := 0) ((hr3.same e10).same e11) ((hs3.same e10).same e11) (by omega))) fun H12 e12 => ?_
    have e912 : Same H9 H12 := (e10.trans e11).trans e12
    have hr1b := e912 _ _ hr1
    have it12 := e912 _ _ it9
    have hr212 := hr2.same e912
    have e012 : Same H H12 := e09.trans e912
    o_readsAll
    refine c_tlad hr212 fun lx hlx => ?_
    have hlx' := hlx
    obtain ⟨ldx, lfl, llt, lhh, lwl, lps, a1, _, _, _, _, _, _⟩ := hlx'
    o_readsAll
    refine c_lsame hlx (hl.same e012) fun H13 e13 => ?_
    have ht113 := (ht19.same e912).same e13
    have ht113' := ht113
    obtain ⟨dy, ly, cly, iy, _, _⟩ := ht113'
    o_readsAll
    refine brT (decide_eq_true rfl) ?_
    o_readsAll
    refine c_tcnt ht113 fun cq3 H14 fcq3 e14 hcq3 => ?_
    o_readsAll
    refine c_mat (alk_il (m := 1) hcq3 (hf.same ((e012.trans e13).trans e14)) (by omega)) fun H15 e15 => ?_
    o_readsAll
    exact k H15 (((e012.trans e13).trans e14).trans e15)
theorem c_kask {l p fq lq : Addr} {x L : Int} {n : Nat} {fs first last : Nat → Int} {ret : Bool} {H : Hp} {Q : VK} {E : XK} (hl : LadAt Z.a_Ladder H l L n fs ret) (hp : PlA H p L n fs ret) (hf : IL H fq n first) (hla : IL H lq n last) (a : AOk L n fs ret first last x) (k : ∀ H', Same H H' → Q (.bl true) H') : sp_kask Z [.ref l, .ref p, .ref fq, .ref lq, .int x] H Q E := ⟨l, p, fq, lq, x, L, n, fs, first, last, ret, rfl, hl, hp, hf, hla, a, k⟩
/-- players and crowns that stay in bounds -/
structure Bnd (n : Nat) (last : Nat → Int) (x : Int) (m : Int) : Prop where
  l0 : ∀ i, i < n → 0 ≤ last i
  tot : sm last n ≤ m
  x0 : 0 ≤ x
  x1 : x ≤ 16
theorem one_le_sm {f : Nat → Int} {n : Nat} (h : ∀ i, i < n → 0 ≤ f i) : ∀ i, i < n → f i ≤ sm f n := by
  induction n with
  | zero => intro i hi; omega
  | succ n ih =>
    intro i hi
    have h1 := sm_nn (f := f) (n := n) fun j hj => h j (by omega)
    have h2 := h n (by omega)
    have h3 : sm f (n + 1) = sm f n + f n := rfl
    by_cases e : i = n
    · rw [e]; omega
    · have := ih (fun j hj => h j (by omega)) i (by omega)
      omega
theorem Bnd.aok {L : Int} {n : Nat} {fs first last : Nat → Int} {ret : Bool} {x y : Int} (o : BOk L n fs) (bf : Bnd n first y 20) (bl : Bnd n last x 21) : AOk L n fs ret first last x := by
  have small : ∀ z : Int, 0 ≤ z → z ≤ 21 → z.natAbs < 2 ^ 100 := fun z h1 h2 => Nat.lt_of_le_of_lt (show z.natAbs ≤ 21 by omega) (by decide)
  exact ⟨o, fun i hi => ⟨bf.l0 i hi, small _ (bf.l0 i hi) (by have := one_le_sm bf.l0 i hi; have := bf.tot; omega)⟩, fun i hi => ⟨bl.l0 i hi, small _ (bl.l0 i hi) (by have := one_le_sm bl.l0 i hi; have := bl.tot; omega)⟩, bl.x0, small _ bl.x0 (by have := bl.x1; omega), fun _ => bill_lim o.ok o.l2 o.l3 o.n0 o.n5 bf.l0 bl.l0 bl.tot bl.x0 bl.x1⟩
end
end L31

namespace L31
set_option exponentiation.threshold 9000
open SX Ld Rd Bl
section
variable {P : Program} {w : World} {K : PySem.W.Frag} {mg : Str → Option Value} {base : Heap} {Z : Ad}
def sp_kseason : Sp := fun vs H Q _ => ∃ (st p cq fl : Addr) (m : Nat) (L : Int) (n : Nat) (fs first : Nat → Int) (ret : Bool), vs = [.ref st, .ref p, .ref cq, .int (m : Int)] ∧ Stk H st ∧ H p = some (.lst [.int L, .ref fl, .bl ret]) ∧ IL H fl n fs ∧ IL H cq n first ∧ st ≠ p ∧ st ≠ fl ∧ st ≠ cq ∧ BOk L n fs ∧ Bnd n first 0 20 ∧ m ≤ 15 ∧ ∀ q cq' hq cs h x H', H q = none → Stk H' st → Off st H H' → H' q = some (.lst [.ref cq', .ref hq, .int x]) → st ≠ cq' → st ≠ hq → IL H' cq' n cs → IL H' hq n h → (∀ a, a < n → h a = bill L n fs first cs x a) → Bnd n cs x 20 → x ≤ 14 ∨ x ≤ m → Q (.ref q) H'
theorem d_law_k31_season (T : Txt K w mg Z) : Dfn P w K mg base 2 "_law_k31_season" ["stock", "plain", "counts", "most"] (sp_kseason) := by
  obtain ⟨f, fd, F, hm, hb⟩ := T.f_law_k31_season
  refine ⟨f, fd, F.ok sc_law_k31_season (fun vs H Q E h => by first | (obtain ⟨rfl, _⟩ := h; rfl) | (obtain ⟨_, rfl, _⟩ := h; rfl) | (obtain ⟨_, _, rfl, _⟩ := h; rfl) | (obtain ⟨_, _, _, rfl, _⟩ := h; rfl) | (obtain ⟨_, _, _, _, rfl, _⟩ := h; rfl) | (obtain ⟨_, _, _, _, _, rfl, _⟩ := h; rfl) | (obtain ⟨_, _, _, _, _, _, rfl, _⟩ := h; rfl) | (obtain ⟨_, _, _, _, _, _, _, rfl, _⟩ := h; rfl) | (obtain ⟨_, _, _, _, _, _, _, _, rfl, _⟩ := h; rfl) | (obtain ⟨_, _, _, _, _, _, _, _, _, rfl, _⟩ := h; rfl) | (obtain ⟨_, _, _, _, _, _, _, _, _, _, rfl, _⟩ := h; rfl) | (obtain ⟨_, _, _, _, _, _, _, _, _, _, _, rfl, _⟩ := h; rfl) | (obtain ⟨_, _, _, _, _, _, _, _, _, _, _, _, rfl, _⟩ := h; rfl) | (obtain ⟨_, _, _, _, _, _, _, _, _, _, _, _, _, rfl, _⟩ := h; rfl) | (obtain ⟨_, _, _, _, _, _, _, _, _, _, _, _, _, _, rfl, _⟩ := h; rfl) | (obtain ⟨_, _, _, _, _, _, _, _, _, _, _, _, _, _, _, rfl, _⟩ := h; rfl) | (obtain ⟨_, _, _, _, _, _, _, _, _, _, _, _, _, _, _, _, rfl, _⟩ := h; rfl)) (fun cdv A outer s H vs Q E hr h => ?_), hm, F.kp, hb⟩
  obtain ⟨st, p, cq, fl, m, L, n, fs, first, ret, rfl, hs, hp, hf, hc, np, nf, nc, o, bf, hm, k⟩ := h
  have n0 := o.n0
  have n5 := o.n5
  have l2 := o.l2
  have l3 := o.l3
  obtain ⟨Ln, hLn⟩ : ∃ Ln : Nat, L = (Ln : Int) := ⟨L.toNat, by omega⟩
  have hc' := hc
  have hf' := hf
  unfold IL at hc' hf'
  have D_law_e_behind := d_law_e_behind (P := P) (base := base) T
  have D_law_draw := d_law_draw (P := P) (base := base) T
  refine ⟨_, (pss_cons (ps_setLc (i := 4) (own := [("rung", 8)]) (by rfl) sc_law_k31_season.nd rfl rfl (sw_true rfl rfl rfl (by decide +kernel)) (pi_list (pv 2)) (blkOk_by (N := n_law_k31_season) (sc := defScope st_law_k31_season) (by decide +kernel)) (fun _ _ _ _ _ => (pg_name (i := 8) sc_law_k31_season.nd rfl (.inl rfl))) (fun _ _ _ _ _ => pts_nil) (fun _ _ _ _ _ => pe_int))
      (pss_cons (ps_set (i := 5) sc_law_k31_season.nd rfl (.inl rfl) pe_int)
      (pss_cons (ps_for PassesOwn.never rfl (pi_range1 (by rfl) T.b_range (pa_cons (pv 3) pa_nil)) (pg_name (i := 6) sc_law_k31_season.nd rfl (.inl rfl))
        (pss_cons (ps_setLc (i := 7) (own := [("rung", 8)]) (by rfl) sc_law_k31_season.nd rfl rfl (sw_true rfl rfl rfl (by decide +kernel)) (pi_range1 (by rfl) T.b_range (pa_cons (pe_callB call_uLen (by rfl) T.b_len bt_len (pa_cons (pv 2) pa_nil)) pa_nil)) (blkOk_by (N := n_law_k31_season) (sc := defScope st_law_k31_season) (by decide +kernel)) (fun _ _ _ _ _ => (pg_name (i := 8) sc_law_k31_season.nd rfl (.inl rfl))) (fun _ _ _ _ _ => (pts_one (pt_cmpR op_ge (pe_ix (ix_seqK (K := K) rfl) (pv 2) (pv 8) (fun _ _ => rfl)) (pe_ix (ix_seqK (K := K) rfl) (pv 1) pe_int (fun _ _ => rfl)) (nomark _)))) (fun _ _ _ _ _ => (pv 8)))
      (pss_one (ps_if (pt_cmpR (op_uNe hr.units) (pv 7) (pe_lst pa_nil) (nomark _)) (pss_cons (ps_set (i := 8) sc_law_k31_season.nd rfl (.inl rfl) (pe_ix ix_seq (pv 7) (pe_dfn D_law_draw (hr.mono (by decide)) (by rfl) (pa_cons (pv 0) (pa_cons (pe_callB call_uLen (by rfl) T.b_len bt_len (pa_cons (pv 7) pa_nil)) pa_nil))) (fun _ _ => rfl)))
      (pss_cons (ps_asg (pe_dfn D_law_e_behind (hr.mono (by decide)) (by rfl) (pa_cons (pv 1) (pa_cons (pv 2) (pa_cons (pe_op op_rep (pe_lst (pa_cons (pv 8) pa_nil)) (pe_ix ix_seq (pv 1) pe_int (fun _ _ => rfl))) (pa_cons pe_int pa_nil))))) (pg_tup (by rfl) (pgs_cons (pg_name (i := 2) sc_law_k31_season.nd rfl (.inr rfl)) (pgs_cons (pg_name (i := 9) sc_law_k31_season.nd rfl (.inl rfl)) pgs_nil))))
      (pss_cons (ps_augS (pv 4) (pv 8) get_list pe_int ip_add set_list)
      (pss_one (ps_aug (i := 5) sc_law_k31_season.nd rfl (.inl rfl) (pe_callTy call_uInt (by rfl) T.b_int bt_int (pa_cons (pv 9) pa_nil)) ip_add))))) pss_nil))))
      (pss_one (ps_ret (pe_lst (pa_cons (pv 2) (pa_cons (pv 4) (pa_cons (pv 5) pa_nil))))))))), ?_⟩
  try dsimp only [cxOf, Cx.nox, Cx.wish]
  show (_ : TS) _ [some _, some _, some _, some _, none, none, none, none, none, none] _
  o_readsAll
  refine l_lstP (xs := rng n first) (fun i => .int 0) (.of hc') (fun x => rfl) (fun D i x H' hx hD e hl => ?_) fun hq H1 fhq e1 hhq => ?_
  · o_readsAll
    exact g_itemP e hl hD (by rw [sizeLine_eq]; have := (List.getElem?_eq_some_iff.mp hx).1; rw [rng_len] at this; omega) rfl
  rw [rng_len] at hhq
  have nhq : st ≠ hq := hs.ne fhq
  o_readsAll
  refine f_rng (fun i σ' H' => ∃ (cq : Addr) (cs h : Nat → Int) (x : Int) (x6 x7 x8 x9 : Option V), σ' = [some (.ref st), some (.ref p), some (.ref cq), some (.int (m : Int)), some (.ref hq), some (.int x), x6, x7, x8, x9] ∧ Stk H' st ∧ Off st H H' ∧ st ≠ cq ∧ cq ≠ hq ∧ IL H' cq n cs ∧ IL H' hq n h ∧ (∀ a, a < n → h a = bill L n fs first cs x a) ∧ (∀ b, b < n → 0 ≤ cs b) ∧ sm cs n ≤ sm first n ∧ 0 ≤ x ∧ x ≤ i) ⟨cq, first, fun _ => 0, 0, _, _, _, _, rfl, hs.same e1, off_of e1, nc, ne_of_none hc fhq, hc.same e1, hhq, fun a _ => (bill_start first a).symm, bf.l0, Int.le_refl _, Int.le_refl _, Int.le_refl _⟩ ?_ ?_
  · rintro i σ' H2 hi ⟨cq, cs, h, x, x6, x7, x8, x9, rfl, s2, o2, nc2, nch, hc2, hh2, hbill, c0, htot, x0, xi⟩
    have hp2 := o2 _ _ np.symm hp
    have hc2' := hc2
    unfold IL at hc2'
    rw [Int.zero_add]
    o_readsAll
    rw [rng_len, Int.toNat_natCast]
    refine l_itF (walk_range (lo := 0) (n := n)) (fun D i acc H' => acc = ((List.range i).filter fun r => decide (L ≤ cs r)).map (fun (r : Nat) => V.int (r : Int)) ∧ Same H2 H') (fun D hD => ⟨rfl, Eg.Same.put (Same.refl _) hD⟩) (fun D i acc H' hD hi h pv => trivial) (fun D j x acc H5 H' hD hj e pv y => ?_) (fun D acc H3 hD e pv => ?_)
    · obtain ⟨y1, y2⟩ := y
      obtain ⟨rfl, e5⟩ := pv
      subst y1 y2
      show gName 8 (V.int (0 + (j : Int))) _ _ _
      rw [Int.zero_add]
      have hp5 := e5 _ _ hp2
      refine ⟨rfl, ?_⟩
      o_readsAll
      refine g_ixL (hc2.same e5).sq (atI_nat (rng_at hj)) ?_
      o_readsAll
      refine brB (fun hb => ?_) (fun hb => ?_)
      · o_readsAll
        refine ⟨_, e, by rw [List.length_map, sizeLine_eq]; have := List.length_filter_le (fun r => decide (L ≤ cs r)) (List.range j); rw [List.length_range] at this; omega, ?_, Eg.Same.put e5 hD⟩
        rw [List.range_succ, List.filter_append, List.map_append]
        simp only [List.filter_cons, hb, if_true, List.filter_nil, List.map_cons, List.map_nil]
      · refine ⟨_, e, ?_, e5⟩
        rw [List.range_succ, List.filter_append, List.map_append]
        simp only [List.filter_cons, hb, Bool.false_eq_true, if_false, List.filter_nil, List.map_nil, List.append_nil]
    · obtain ⟨rfl, e3⟩ := pv
      have hFm : ∀ r ∈ (List.range n).filter (fun r => decide (L ≤ cs r)), r < n ∧ L ≤ cs r := fun r hr => by
        obtain ⟨h1, h2⟩ := List.mem_filter.mp hr
        exact ⟨List.mem_range.mp h1, of_decide_eq_true h2⟩
      have hFl : ((List.range n).filter fun r => decide (L ≤ cs r)).length ≤ 5 := by
        have := List.length_filter_le (fun r => decide (L ≤ cs r)) (List.range n)
        rw [List.length_range] at this
        omega
      generalize (List.range n).filter (fun r => decide (L ≤ cs r)) = F at *
      have hDi : H3 D = some (.lst ((F.map fun (r : Nat) => (r : Int)).map V.int)) := by rw [e, List.map_map]; rfl
      o_readsAll
      rename_i N6 hN6 nl H4 fnl e4 hnl
      refine g_neIL (l := F.map fun (r : Nat) => (r : Int)) (m := []) (.of (e4 _ _ hDi)) (.of hnl) ?_
      have e24 : Same H2 H4 := e3.trans e4
      have s4 := s2.same e24
      have o4 := o2.same e24
      have hDi4 := e4 _ _ hDi
      o_readsAll
      refine brn (fun hne => ?_) (fun hne => ?_)
      · have hF0 : F ≠ [] := fun z => hne (by rw [z]; rfl)
        have hFp := List.length_pos_iff.mpr hF0
        o_readsAll
        rw [List.length_map, List.length_map]
        refine c_draw (by omega) (by omega) s4 fun d H5 d0 d1 s5 o5 => ?_
        obtain ⟨j, rfl⟩ : ∃ j : Nat, d = (j : Int) := ⟨d.toNat, by omega⟩
        obtain ⟨r, hr⟩ : ∃ r, F[j]? = some r := ⟨_, List.getElem?_eq_getElem (by omega)⟩
        obtain ⟨hrn, hrl⟩ := hFm r (List.mem_of_getElem? hr)
        have nD : D ≠ st := (s2.ne hD).symm
        have hDi5 := o5 _ _ nD hDi4
        refine g_ixL (.of hDi5) (atI_nat (j := j) (v := .int (r : Int)) (by rw [List.getElem?_map, List.getElem?_map, hr]; rfl)) ?_
        have o05 := o4.trans o5
        have hp5 := o05 _ _ np.symm hp
        have hf5 := o05 _ _ nf.symm hf'
        have hc5 : IL H5 cq n cs := o5 _ _ nc2.symm (e24 _ _ hc2')
        have hh5 : IL H5 hq n h := o5 _ _ nhq.symm (hh2.same e24)
        clear hDi hDi4 hDi5 e3 e4 e24 s4 o4
        o_readsAll
        rename_i one H6 fone e6 hone
        subst hLn
        refine g_rep hone (by omega) (by rw [sizeLine_eq, List.length_singleton]; omega) fun rr H7 frr e7 hrr => ?_
        rw [List.flatten_replicate_singleton, ← List.map_replicate] at hrr
        have e57 : Same H5 H7 := e6.trans e7
        o_readsAll
        refine c_ebehindL (Ln := Ln) (ret := ret) ⟨fl, e57 _ _ hp5, (show IL H7 fl n fs from e57 _ _ hf5)⟩ (hc5.same e57) (by omega) o.ok rfl (by omega) (by omega) hrn hrl c0 hrr fun tp ap H8 ftp fap e8 htp hap => ?_
        have e58 : Same H5 H8 := e57.trans e8
        have hh8 := hh5.same e58
        have s8 := s5.same e58
        have naq : ap ≠ hq := (ne_of_none (hh5.same e57) fap).symm
        have nas : st ≠ ap := (s5.same e57).ne fap
        o_readsAll
        refine g_ixLg hh8.sq (atI_nat (rng_at hrn)) ?_
        o_readsAll
        refine g_setL hh8 (by rw [rng_len]; exact ixN_at hrn) (rng_set n r _ _) ?_
        have hh9 : IL (upd H8 hq (.lst (rng n fun i => if i = r then h r + 1 else h i))) hq n (fun i => if i = r then h r + 1 else h i) := upd_same
        have hap9 : IL (upd H8 hq (.lst (rng n fun i => if i = r then h r + 1 else h i))) ap n (mv (Ln : Int) n fs ret cs r) := by unfold IL; rw [upd_ne naq]; exact hap
        have s9 : Stk (upd H8 hq (.lst (rng n fun i => if i = r then h r + 1 else h i))) st := s8.put nhq
        have o9 : Off st H (upd H8 hq (.lst (rng n fun i => if i = r then h r + 1 else h i))) := Off.putN (o05.same e58) fhq
        o_readsAll
        refine .inl (.inr ⟨_, rfl, ?_⟩)
        o_readsAll
        refine ⟨ap, _, _, x + (if decide (r + 1 = n) = true then 1 else 0), _, _, _, _, rfl, s9, o9, nas, naq, hap9, hh9, fun a ha => ?_, fun b hb => ?_, Int.le_trans (mv_tot o.ok (by omega) hrn cs) htot, by split <;> omega, by split <;> omega⟩
        · have e1 : (if decide (r + 1 = n) = true then (1 : Int) else 0) = if r + 1 = n then 1 else 0 := by
            by_cases h : r + 1 = n
            · rw [if_pos h, if_pos (decide_eq_true h)]
            · rw [if_neg h, if_neg (by simpa using h)]
          rw [e1, bill_step o.ok hrn]
          show (if a = r then h r + 1 else h a) = _
          by_cases h1 : a = r
          · subst h1
            rw [if_pos rfl, if_pos rfl, hbill a ha]
          · rw [if_neg h1, if_neg h1, hbill a ha, Int.add_zero]
        · show 0 ≤ cs b + (wg (Ln : Int) n fs ret b r - if b = r then (Ln : Int) else 0)
          have h1 := c0 b hb
          have h2 := wg_nn (n := n) (fs := fs) (ret := ret) (show (1 : Int) ≤ (Ln : Int) by omega) b r
          by_cases e : b = r
          · subst e; rw [if_pos rfl]; omega
          · rw [if_neg e]; omega
      · o_readsAll
        exact ⟨cq, cs, h, x, _, _, _, _, rfl, s4, o4, nc2, nch, hc2.same e24, hh2.same e24, hbill, c0, htot, x0, by omega⟩
  · rintro σ' H2 ⟨cq, cs, h, x, x6, x7, x8, x9, rfl, s2, o2, nc2, nch, hc2, hh2, hbill, c0, htot, x0, xi⟩
    o_readsAll
    rename_i q H3 fq e3 hq3
    exact k q cq hq cs h x H3 (s2.free o2 fq) (s2.same e3) (o2.same e3) hq3 nc2 nhq (hc2.same e3) (hh2.same e3) hbill ⟨c0, by have := bf.tot; omega, x0, by omega⟩ (.inr (by omega))
end
end L31

namespace L31
set_option exponentiation.threshold 2000
open SX Ld
section
variable {P : Program} {w : World} {K : PySem.W.Frag} {mg : Str → Option Value} {base : Heap} {Z : Ad}
theorem l_rngS {σ : L2.St} {H : Hp} {Q : VK} {n j : Nat} {te : TE} {s : Addr} {lo : Int} {vs : List Nat} (R : Nat → Int → Prop) (hw : ∀ x, wipe ((wipe σ vs).set j (some x)) vs = wipe σ vs) (hst : Stk H s) (hn : n < sizeLine)
    (hs : ∀ (D : Addr) (i : Nat) (l : List Int) (H' : Hp) (Q' : VK), i < n → H D = none → D ≠ s → H' D = some (.lst (l.map V.int)) → l.length = i → Stk H' s → Off s H H' → (∀ x H2, R i x → Stk H2 s → Off s H' H2 → Q' (.int x) H2) → te ((wipe σ vs).set j (some (.int (lo + i)))) H' Q')
    (k : ∀ p f H', H p = none → Stk H' s → Off s H H' → IL H' p n f → (∀ i, i < n → R i (f i)) → Q (.ref p) H') : gLc (Itr lo n) (gName j) tYes te vs σ H Q := by
  refine l_it walk_range (fun D i acc H' => ∃ l : List Int, acc = l.map V.int ∧ l.length = i ∧ Stk H' s ∧ Off s H H' ∧ ∀ j x, l[j]? = some x → R j x) (fun D hD => ?_) (fun D i acc H' hD _ _ p => trivial) (fun D i x acc H1 H' hD hi e le p y => ?_) (fun D acc H' hD e _ p => ?_)
  · exact ⟨[], rfl, rfl, hst.put (hst.ne hD), fun b u _ q => by rw [upd_ne (ne_of_none q hD)]; exact q, fun _ _ h => nomatch h⟩
  · obtain ⟨e1, e2⟩ := y
    subst e1 e2
    obtain ⟨l, rfl, hl, s1, o1, hR⟩ := p
    have hDs : D ≠ s := (hst.ne hD).symm
    refine ⟨hw _, hs D i l _ _ hi hD hDs e hl s1 o1 fun x H2 hx s2 o2 => ?_⟩
    refine g_item (o2 _ _ hDs e) (by rw [List.length_map]; exact hl) (by omega) ⟨l ++ [x], by simp, by simp [hl], s2.put hDs.symm, fun b u hb q => by rw [upd_ne (ne_of_none q hD)]; exact o2 b u hb (o1 b u hb q), fun j y hy => ?_⟩
    by_cases hj : j < l.length
    · rw [List.getElem?_append_left hj] at hy
      exact hR j y hy
    · rw [List.getElem?_append_right (by omega)] at hy
      have : j - l.length = 0 := by
        by_cases h : j - l.length = 0
        · exact h
        · rw [List.getElem?_eq_none (by simp; omega)] at hy
          cases hy
      rw [this] at hy
      cases hy
      rw [show j = i by omega]
      exact hx
  · obtain ⟨l, rfl, hl, s1, o1, hR⟩ := p
    refine k D (fn l) H' hD s1 o1 (by unfold IL; rw [e, rng_fn, hl]) fun i hi => ?_
    have h := List.getElem?_eq_getElem (l := l) (i := i) (by omega)
    exact hR i _ (by rw [fn_at h]; exact h)
/-- the same over a list that stands still -/
theorem l_lstS {σ : L2.St} {H : Hp} {Q : VK} {j : Nat} {te : TE} {s cq : Addr} {xs : List V} {vs : List Nat} (R : Nat → Int → Prop) (hw : ∀ x, wipe ((wipe σ vs).set j (some x)) vs = wipe σ vs) (hst : Stk H s) (hn : xs.length < sizeLine) (hx : H cq = some (.lst xs)) (nc : s ≠ cq)
    (hs : ∀ (D : Addr) (i : Nat) (x : V) (l : List Int) (H' : Hp) (Q' : VK), xs[i]? = some x → H D = none → D ≠ s → H' D = some (.lst (l.map V.int)) → l.length = i → Stk H' s → Off s H H' → (∀ x H2, R i x → Stk H2 s → Off s H' H2 → Q' (.int x) H2) → te ((wipe σ vs).set j (some x)) H' Q')
    (k : ∀ p f H', H p = none → Stk H' s → Off s H H' → IL H' p xs.length f → (∀ i, i < xs.length → R i (f i)) → Q (.ref p) H') : gLc (Itl K cq) (gName j) tYes te vs σ H Q := by
  refine l_it (walk_list (xs := xs)) (fun D i acc H' => ∃ l : List Int, acc = l.map V.int ∧ l.length = i ∧ Stk H' s ∧ Off s H H' ∧ ∀ j x, l[j]? = some x → R j x) (fun D hD => ?_) (fun D i acc H' hD _ _ p => ?_) (fun D i x acc H1 H' hD hi e le p y => ?_) (fun D acc H' hD e _ p => ?_)
  · exact ⟨[], rfl, rfl, hst.put (hst.ne hD), fun b u _ q => by rw [upd_ne (ne_of_none q hD)]; exact q, fun _ _ h => nomatch h⟩
  · obtain ⟨l, rfl, hl, s1, o1, hR⟩ := p
    exact .of (o1 _ _ nc.symm hx)
  · obtain ⟨e1, e2⟩ := y
    subst e1
    obtain ⟨l, rfl, hl, s1, o1, hR⟩ := p
    have hDs : D ≠ s := (hst.ne hD).symm
    refine ⟨hw _, hs D i x l _ _ e2 hD hDs e hl s1 o1 fun x H2 hx s2 o2 => ?_⟩
    refine g_item (o2 _ _ hDs e) (by rw [List.length_map]; exact hl) (by omega) ⟨l ++ [x], by simp, by simp [hl], s2.put hDs.symm, fun b u hb q => by rw [upd_ne (ne_of_none q hD)]; exact o2 b u hb (o1 b u hb q), fun j y hy => ?_⟩
    by_cases hj : j < l.length
    · rw [List.getElem?_append_left hj] at hy
      exact hR j y hy
    · rw [List.getElem?_append_right (by omega)] at hy
      have : j - l.length = 0 := by
        by_cases h : j - l.length = 0
        · exact h
        · rw [List.getElem?_eq_none (by simp; omega)] at hy
          cases hy
      rw [this] at hy
      cases hy
      rw [show j = i by omega]
      exact hx
  · obtain ⟨l, rfl, hl, s1, o1, hR⟩ := p
    refine k D (fn l) H' hD s1 o1 (by unfold IL; rw [e, rng_fn, hl]) fun i hi => ?_
    have h := List.getElem?_eq_getElem (l := l) (i := i) (by omega)
    exact hR i _ (by rw [fn_at h]; exact h)
end
end L31

namespace L31
set_option exponentiation.threshold 9000
open SX Ld Rd Bl
section
variable {P : Program} {w : World} {K : PySem.W.Frag} {mg : Str → Option Value} {base : Heap} {Z : Ad}
theorem sm_set {c : Nat → Int} {j : Nat} {x : Int} : ∀ {n : Nat}, j < n → sm (fun i => if i = j then x else c i) n = sm c n - c j + x := by
  intro n
  induction n with
  | zero => intro h; omega
  | succ n ih =>
    intro h
    rw [sm, sm]
    by_cases e : n = j
    · subst e
      rw [sm_congr (g := c) (fun i hi => by rw [if_neg (show ¬ i = n by omega)])]
      show _ + (if n = n then x else c n) = _
      rw [if_pos rfl]
      omega
    · rw [ih (by omega)]
      show _ + (if n = j then x else c n) = _
      rw [if_neg e]
      omega
def sp_kbent : Sp := fun vs H Q _ => ∃ (st lq : Addr) (x : Int) (n : Nat) (last : Nat → Int), vs = [.ref st, .ref lq, .int x] ∧ Stk H st ∧ IL H lq n last ∧ st ≠ lq ∧ 0 < n ∧ n ≤ 5 ∧ Bnd n last x 20 ∧ x ≤ 15 ∧ ∀ q f last' x' H', H q = none → H f = none → Stk H' st → Off st H H' → H' q = some (.lst [.ref f, .int x']) → IL H' f n last' → Bnd n last' x' 21 → Q (.ref q) H'
theorem d_law_k31_bent (T : Txt K w mg Z) : Dfn P w K mg base 2 "_law_k31_bent" ["stock", "last", "crowns"] (sp_kbent) := by
  obtain ⟨f, fd, F, hm, hb⟩ := T.f_law_k31_bent
  refine ⟨f, fd, F.ok sc_law_k31_bent (fun vs H Q E h => by first | (obtain ⟨rfl, _⟩ := h; rfl) | (obtain ⟨_, rfl, _⟩ := h; rfl) | (obtain ⟨_, _, rfl, _⟩ := h; rfl) | (obtain ⟨_, _, _, rfl, _⟩ := h; rfl) | (obtain ⟨_, _, _, _, rfl, _⟩ := h; rfl) | (obtain ⟨_, _, _, _, _, rfl, _⟩ := h; rfl) | (obtain ⟨_, _, _, _, _, _, rfl, _⟩ := h; rfl) | (obtain ⟨_, _, _, _, _, _, _, rfl, _⟩ := h; rfl) | (obtain ⟨_, _, _, _, _, _, _, _, rfl, _⟩ := h; rfl) | (obtain ⟨_, _, _, _, _, _, _, _, _, rfl, _⟩ := h; rfl) | (obtain ⟨_, _, _, _, _, _, _, _, _, _, rfl, _⟩ := h; rfl) | (obtain ⟨_, _, _, _, _, _, _, _, _, _, _, rfl, _⟩ := h; rfl) | (obtain ⟨_, _, _, _, _, _, _, _, _, _, _, _, rfl, _⟩ := h; rfl) | (obtain ⟨_, _, _, _, _, _, _, _, _, _, _, _, _, rfl, _⟩ := h; rfl) | (obtain ⟨_, _, _, _, _, _, _, _, _, _, _, _, _, _, rfl, _⟩ := h; rfl) | (obtain ⟨_, _, _, _, _, _, _, _, _, _, _, _, _, _, _, rfl, _⟩ := h; rfl) | (obtain ⟨_, _, _, _, _, _, _, _, _, _, _, _, _, _, _, _, rfl, _⟩ := h; rfl)) (fun cdv A outer s H vs Q E hr h => ?_), hm, F.kp, hb⟩
  obtain ⟨st, lq, x, n, last, rfl, hs, hl, nl, n0, n5, b, x15, k⟩ := h
  have hl' := hl
  unfold IL at hl'
  have D_law_draw := d_law_draw (P := P) (base := base) T
  refine ⟨_, (pss_cons (ps_set (i := 3) sc_law_k31_bent.nd rfl (.inl rfl) (pe_callTy call_uList (by rfl) T.b_list bt_list (pa_cons (pv 1) pa_nil)))
      (pss_cons (ps_set (i := 4) sc_law_k31_bent.nd rfl (.inl rfl) (pe_dfn D_law_draw (hr.mono (by decide)) (by rfl) (pa_cons (pv 0) (pa_cons pe_int pa_nil))))
      (pss_cons (ps_set (i := 5) sc_law_k31_bent.nd rfl (.inl rfl) (pe_dfn D_law_draw (hr.mono (by decide)) (by rfl) (pa_cons (pv 0) (pa_cons (pe_callB call_uLen (by rfl) T.b_len bt_len (pa_cons (pv 3) pa_nil)) pa_nil))))
      (pss_cons (ps_if (pt_cmpR (op_uEq hr.units) (pv 4) pe_int (nomark _)) (pss_one (ps_ret (pe_lst (pa_cons (pv 3) (pa_cons (pe_callB (call_uMax2 rfl) (by rfl) T.b_max bt_max (pa_cons pe_int (pa_cons (pe_op op_uAdd (pv 2) (pe_ix ix_seq (pe_lst (pa_cons pe_int (pa_cons (pe_op op_sub pe_int pe_int) pa_nil))) (pe_dfn D_law_draw (hr.mono (by decide)) (by rfl) (pa_cons (pv 0) (pa_cons pe_int pa_nil))) (fun _ _ => rfl))) pa_nil))) pa_nil))))) pss_nil)
      (pss_cons (ps_if (PW.pt (pw_and (pt_cmpR op_gt (pv 4) pe_int (nomark _)) (pw_and1 (pt_cmpR op_gt (pe_ix ix_seq (pv 3) (pv 5) (fun _ _ => rfl)) pe_int (nomark _))))) (pss_one (ps_augS (pv 3) (pv 5) get_list pe_int ip_sub set_list)) pss_nil)
      (pss_cons (ps_if (pt_cmpR (op_uNe hr.units) (pv 4) pe_int (nomark _)) (pss_one (ps_augS (pv 3) (pe_dfn D_law_draw (hr.mono (by decide)) (by rfl) (pa_cons (pv 0) (pa_cons (pe_callB call_uLen (by rfl) T.b_len bt_len (pa_cons (pv 3) pa_nil)) pa_nil))) get_list pe_int ip_add set_list)) pss_nil)
      (pss_one (ps_ret (pe_lst (pa_cons (pv 3) (pa_cons (pv 2) pa_nil))))))))))), ?_⟩
  try dsimp only [cxOf, Cx.nox, Cx.wish]
  show (_ : TS) _ [some _, some _, some _, none, none, none] _
  o_readsAll
  rename_i f H1 ff e1 hf N hN
  have s1 := hs.same e1
  have nf : st ≠ f := hs.ne ff
  refine c_draw (by decide) (by decide) s1 fun kd H2 k0 k4 s2 o2 => ?_
  have hf2 := o2 _ _ nf.symm hf
  o_readsAll
  rw [rng_len]
  refine c_draw (by omega) (by omega) s2 fun r H3 r0 r1 s3 o3 => ?_
  obtain ⟨j, rfl⟩ : ∃ j : Nat, r = (j : Int) := ⟨r.toNat, by omega⟩
  have hjn : j < n := by omega
  have hf3 : IL H3 f n last := o3 _ _ nf.symm hf2
  have o03 : Off st H H3 := ((off_of e1).trans o2).trans o3
  have bj := b.l0 j hjn
  have btot := b.tot
  have bx0 := b.x0
  clear hf hf2 o2 o3 e1
  have hf3' := hf3
  unfold IL at hf3'
  o_readsAll
  refine br (fun hc => ?_) (fun hc => ?_)
  · o_readsAll
    rename_i ch H4 fch e4 hch
    refine c_draw (by decide) (by decide) (s3.same e4) fun y H5 y0 y1 s5 o5 => ?_
    obtain ⟨c, rfl⟩ : ∃ c : Nat, y = (c : Int) := ⟨y.toNat, by omega⟩
    have hch5 := o5 _ _ (s3.ne fch).symm hch
    obtain ⟨v, hv, hv1, hv2⟩ : ∃ v : Int, [V.int 1, V.int (0 - 1)][c]? = some (V.int v) ∧ -1 ≤ v ∧ v ≤ 1 := by
      match c with
      | 0 => exact ⟨_, rfl, by decide, by decide⟩
      | 1 => exact ⟨_, rfl, by decide, by decide⟩
      | c + 2 => omega
    refine g_ixL (.of hch5) (atI_nat hv) ?_
    have hf5 : IL H5 f n last := o5 _ _ nf.symm (e4 _ _ hf3')
    have o05 : Off st H H5 := (o03.same e4).trans o5
    o_readsAll
    rename_i q H6 fq e6 hq
    exact k q f last _ H6 (s5.free o05 fq) ff (s5.same e6) (o05.same e6) hq (hf5.same e6) ⟨b.l0, by omega, by split <;> omega, by split <;> omega⟩
  · o_readsAll
    refine and_j (d := decide (0 < last j)) (fun h Q' hQ' => ?_) (fun H4 e4 => ?_)
    · o_readsAll
      refine g_ixL hf3.sq (atI_nat (rng_at hjn)) ?_
      o_readsAll
      exact hQ' _ (Same.refl _)
    have s4 := s3.same e4
    have o04 := o03.same e4
    have hf4 := hf3.same e4
    refine jnS (fun (σ' : L2.St) (H' : Hp) => ∃ g : Nat → Int, σ' = [some (.ref st), some (.ref lq), some (.int x), some (.ref f), some (.int kd), some (.int (j : Int))] ∧ Stk H' st ∧ Off st H H' ∧ IL H' f n g ∧ (∀ i, i < n → 0 ≤ g i) ∧ sm g n ≤ 20) ?_ (fun N hN => brB (fun hb => ?_) (fun hb => ?_))
    · rintro σ' H5 ⟨g, rfl, s5, o5, hg5, g0, gt⟩
      have hg5' := hg5
      unfold IL at hg5'
      o_readsAll
      refine brn (fun hc => ?_) (fun hc => ?_)
      · o_readsAll
        rw [rng_len]
        refine c_draw (by omega) (by omega) s5 fun y H6 y0 y1 s6 o6 => ?_
        obtain ⟨c, rfl⟩ : ∃ c : Nat, y = (c : Int) := ⟨y.toNat, by omega⟩
        have hcn : c < n := by omega
        have hg6 : IL H6 f n g := o6 _ _ nf.symm hg5'
        o_readsAll
        refine g_ixLg hg6.sq (atI_nat (rng_at hcn)) ?_
        o_readsAll
        refine g_setL hg6 (by rw [rng_len]; exact ixN_at hcn) (rng_set n c _ _) ?_
        have hg7 : IL (upd H6 f (.lst (rng n fun i => if i = c then g c + 1 else g i))) f n (fun i => if i = c then g c + 1 else g i) := upd_same
        have o7 : Off st H (upd H6 f (.lst (rng n fun i => if i = c then g c + 1 else g i))) := Off.putN (o5.trans o6) ff
        have s7 : Stk (upd H6 f (.lst (rng n fun i => if i = c then g c + 1 else g i))) st := s6.put nf
        generalize upd H6 f (.lst (rng n fun i => if i = c then g c + 1 else g i)) = H7 at *
        o_readsAll
        rename_i q H8 fq e8 hq
        refine k q f _ x H8 (s7.free o7 fq) ff (s7.same e8) (o7.same e8) hq (hg7.same e8) ⟨fun i hi => ?_, ?_, bx0, by omega⟩
        · have := g0 i hi
          have := g0 c hcn
          show 0 ≤ if i = c then g c + 1 else g i
          split <;> omega
        · rw [sm_set hcn]
          omega
      · o_readsAll
        rename_i q H6 fq e6 hq
        exact k q f g x H6 (s5.free o5 fq) ff (s5.same e6) (o5.same e6) hq (hg5.same e6) ⟨g0, by omega, bx0, by omega⟩
    · have hpos : 0 < last j := by
        rw [Bool.and_eq_true] at hb
        exact of_decide_eq_true hb.2
      o_readsAll
      refine g_ixLg hf4.sq (atI_nat (rng_at hjn)) ?_
      o_readsAll
      refine g_setL hf4 (by rw [rng_len]; exact ixN_at hjn) (rng_set n j _ _) ?_
      refine hN _ _ ⟨_, rfl, s4.put nf, Off.putN o04 ff, upd_same, fun i hi => ?_, ?_⟩
      · have := b.l0 i hi
        show 0 ≤ if i = j then last j - 1 else last i
        split <;> omega
      · rw [sm_set hjn]
        omega
    · o_readsAll
      exact ⟨last, rfl, s4, o04, hf4, b.l0, btot⟩
theorem sms_wg {L : Int} {n : Nat} {fs first h : Nat → Int} {ret : Bool} {a : Nat} (n0 : 0 < n) (ha : a < n) : sms L n fs ret first h (h (n - 1)) a = first a + sm (fun e => (wg L n fs ret a e - if a = e then L else 0) * h e) n := by
  rw [← rch_sms ha]
  unfold rch
  have e : ∀ e, (wg L n fs ret a e - if a = e then L else 0) * h e = ((if e + 1 = a then 1 else 0) + (if fs e = (a : Int) then L - 1 else 0) - (if e = a then L else 0)) * h e + (if e + 1 = n ∧ ret = true ∧ a = 0 then 1 else 0) * h e := fun e => by
    rw [← Int.add_mul]
    congr 1
    have h1 : (if a = e then L else 0) = if e = a then L else 0 := by
      by_cases h : a = e
      · rw [if_pos h, if_pos h.symm]
      · rw [if_neg h, if_neg fun z => h z.symm]
    unfold wg
    rw [h1]
    omega
  rw [show (fun e => (wg L n fs ret a e - if a = e then L else 0) * h e) = _ from funext e, sm_add]
  have h2 : sm (fun e => (if e + 1 = n ∧ ret = true ∧ a = 0 then 1 else 0) * h e) n = if a = 0 ∧ ret = true then h (n - 1) else 0 := by
    by_cases h0 : a = 0 ∧ ret = true
    · rw [if_pos h0]
      have := sm_at (n - 1) h n
      rw [if_pos (by omega)] at this
      rw [← this]
      exact sm_congr fun e he => by
        by_cases h3 : e + 1 = n
        · rw [if_pos ⟨h3, h0.2, h0.1⟩, if_pos (by omega)]
        · rw [if_neg (fun z => h3 z.1), if_neg (by omega)]
    · rw [if_neg h0]
      exact Eq.trans (sm_congr (g := fun _ => 0) fun e he => by rw [if_neg (show ¬ (e + 1 = n ∧ ret = true ∧ a = 0) from fun z => h0 ⟨z.2.2, z.2.1⟩), Int.zero_mul]) (sm_zero n)
  rw [h2]
  omega
theorem sms_tot {L : Int} {n : Nat} {fs first h : Nat → Int} {ret : Bool} (o : BOk L n fs) (h0 : ∀ i, i < n → 0 ≤ h i) : sm (sms L n fs ret first h (h (n - 1))) n ≤ sm first n := by
  have l2 := o.l2
  rw [sm_congr (g := fun a => first a + sm (fun e => (wg L n fs ret a e - if a = e then L else 0) * h e) n) fun a ha => sms_wg o.n0 ha, sm_add, sm_swap]
  have : sm (fun e => sm (fun a => (wg L n fs ret a e - if a = e then L else 0) * h e) n) n ≤ sm (fun _ => 0) n := sm_le fun e he => by
    have e1 : sm (fun a => (wg L n fs ret a e - if a = e then L else 0) * h e) n = (sm (fun a => wg L n fs ret a e) n - L) * h e := by
      rw [show (fun a => (wg L n fs ret a e - if a = e then L else 0) * h e) = fun a => h e * (wg L n fs ret a e - if a = e then L else 0) from funext fun a => Int.mul_comm _ _, sm_mul, sm_sub]
      have := sm_one e (fun _ => L) n
      rw [if_pos he] at this
      rw [show sm (fun a => if a = e then L else 0) n = L from this, Int.mul_comm]
    rw [e1]
    exact Int.mul_nonpos_of_nonpos_of_nonneg (by have := wg_sum (L := L) (n := n) (fs := fs) (ret := ret) o.ok (by omega) he; omega) (h0 e he)
  rw [sm_zero] at this
  omega
def sp_kmade : Sp := fun vs H Q _ => ∃ (st p fq fl : Addr) (L : Int) (n : Nat) (fs first : Nat → Int) (ret : Bool), vs = [.ref st, .ref p, .ref fq] ∧ Stk H st ∧ H p = some (.lst [.int L, .ref fl, .bl ret]) ∧ IL H fl n fs ∧ IL H fq n first ∧ st ≠ p ∧ st ≠ fl ∧ st ≠ fq ∧ BOk L n fs ∧ Bnd n first 0 20 ∧ (∀ H', Stk H' st → Off st H H' → Q .non H') ∧ ∀ q lq last x H', H q = none → H lq = none → Stk H' st → Off st H H' → H' q = some (.lst [.ref lq, .int x]) → IL H' lq n last → Bnd n last x 21 → Q (.ref q) H'
theorem d_law_k31_made (T : Txt K w mg Z) : Dfn P w K mg base 2 "_law_k31_made" ["stock", "plain", "first"] (sp_kmade) := by
  obtain ⟨f, fd, F, hm, hb⟩ := T.f_law_k31_made
  refine ⟨f, fd, F.ok sc_law_k31_made (fun vs H Q E h => by first | (obtain ⟨rfl, _⟩ := h; rfl) | (obtain ⟨_, rfl, _⟩ := h; rfl) | (obtain ⟨_, _, rfl, _⟩ := h; rfl) | (obtain ⟨_, _, _, rfl, _⟩ := h; rfl) | (obtain ⟨_, _, _, _, rfl, _⟩ := h; rfl) | (obtain ⟨_, _, _, _, _, rfl, _⟩ := h; rfl) | (obtain ⟨_, _, _, _, _, _, rfl, _⟩ := h; rfl) | (obtain ⟨_, _, _, _, _, _, _, rfl, _⟩ := h; rfl) | (obtain ⟨_, _, _, _, _, _, _, _, rfl, _⟩ := h; rfl) | (obtain ⟨_, _, _, _, _, _, _, _, _, rfl, _⟩ := h; rfl) | (obtain ⟨_, _, _, _, _, _, _, _, _, _, rfl, _⟩ := h; rfl) | (obtain ⟨_, _, _, _, _, _, _, _, _, _, _, rfl, _⟩ := h; rfl) | (obtain ⟨_, _, _, _, _, _, _, _, _, _, _, _, rfl, _⟩ := h; rfl) | (obtain ⟨_, _, _, _, _, _, _, _, _, _, _, _, _, rfl, _⟩ := h; rfl) | (obtain ⟨_, _, _, _, _, _, _, _, _, _, _, _, _, _, rfl, _⟩ := h; rfl) | (obtain ⟨_, _, _, _, _, _, _, _, _, _, _, _, _, _, _, rfl, _⟩ := h; rfl) | (obtain ⟨_, _, _, _, _, _, _, _, _, _, _, _, _, _, _, _, rfl, _⟩ := h; rfl)) (fun cdv A outer s H vs Q E hr h => ?_), hm, F.kp, hb⟩
  obtain ⟨st, p, fq, fl, L, n, fs, first, ret, rfl, hs, hp, hf, hc, np, nf, nc, o, bf, k1, k2⟩ := h
  have n0 := o.n0
  have n5 := o.n5
  have l2 := o.l2
  have l3 := o.l3
  have hc' := hc
  have hf' := hf
  unfold IL at hc' hf'
  have D_law_k31_sums := d_law_k31_sums (P := P) (base := base) T
  have D_law_draw := d_law_draw (P := P) (base := base) T
  refine ⟨_, (pss_cons (ps_setLc (i := 3) (own := [("rung", 6)]) (by rfl) sc_law_k31_made.nd rfl rfl (sw_true rfl rfl rfl (by decide +kernel)) (pi_list (pv 2)) (blkOk_by (N := n_law_k31_made) (sc := defScope st_law_k31_made) (by decide +kernel)) (fun _ _ _ _ _ => (pg_name (i := 6) sc_law_k31_made.nd rfl (.inl rfl))) (fun _ _ _ _ _ => pts_nil) (fun _ _ _ _ _ => (pe_dfn D_law_draw (hr.mono (by decide)) (by rfl) (pa_cons (pv 0) (pa_cons pe_int pa_nil)))))
      (pss_cons (ps_for PassesOwn.never rfl (pi_range1 (by rfl) T.b_range (pa_cons pe_int pa_nil)) (pg_name (i := 4) sc_law_k31_made.nd rfl (.inl rfl))
        (pss_cons (ps_set (i := 5) sc_law_k31_made.nd rfl (.inl rfl) (pe_dfn D_law_k31_sums (hr.mono (by decide)) (by rfl) (pa_cons (pv 1) (pa_cons (pv 2) (pa_cons (pv 3) (pa_cons (pe_ix ix_seq (pv 3) (pe_op op_sub (pe_callB call_uLen (by rfl) T.b_len bt_len (pa_cons (pv 3) pa_nil)) pe_int) (fun _ _ => rfl)) pa_nil))))))
      (pss_one (ps_if (pt_cmpR op_lt (pe_callB (cr_min rfl) (by rfl) T.b_min bt_min (pa_cons (pv 5) pa_nil)) pe_int (nomark _)) (pss_one (ps_asg (pe_callB (call_uMax2 rfl) (by rfl) T.b_max bt_max (pa_cons pe_int (pa_cons (pe_op op_sub (pe_ix ix_seq (pv 3) (pe_bm PySem.F.plainAttrs_list PySem.F.slot_list_index PySem.F.type_list_index mt_index (pv 5) (pa_cons (pe_callB (cr_min rfl) (by rfl) T.b_min bt_min (pa_cons (pv 5) pa_nil)) pa_nil)) (fun _ _ => rfl)) pe_int) pa_nil))) (pg_sub (pv 3) (pe_bm PySem.F.plainAttrs_list PySem.F.slot_list_index PySem.F.type_list_index mt_index (pv 5) (pa_cons (pe_callB (cr_min rfl) (by rfl) T.b_min bt_min (pa_cons (pv 5) pa_nil)) pa_nil)) set_list))) pss_nil))))
      (pss_cons (ps_set (i := 5) sc_law_k31_made.nd rfl (.inl rfl) (pe_dfn D_law_k31_sums (hr.mono (by decide)) (by rfl) (pa_cons (pv 1) (pa_cons (pv 2) (pa_cons (pv 3) (pa_cons (pe_ix ix_seq (pv 3) (pe_op op_sub (pe_callB call_uLen (by rfl) T.b_len bt_len (pa_cons (pv 3) pa_nil)) pe_int) (fun _ _ => rfl)) pa_nil))))))
      (pss_one (ps_ret (pe_ifExp (pt_cmpR op_lt (pe_callB (cr_min rfl) (by rfl) T.b_min bt_min (pa_cons (pv 5) pa_nil)) pe_int (nomark _)) pe_non (pe_lst (pa_cons (pv 5) (pa_cons (pe_ix ix_seq (pv 3) (pe_op op_sub (pe_callB call_uLen (by rfl) T.b_len bt_len (pa_cons (pv 3) pa_nil)) pe_int) (fun _ _ => rfl)) pa_nil))))))))), ?_⟩
  try dsimp only [cxOf, Cx.nox, Cx.wish]
  show (_ : TS) _ [some _, some _, some _, none, none, none, none] _
  o_readsAll
  refine l_lstS (xs := rng n first) (fun _ x => 0 ≤ x ∧ x ≤ 3) (fun x => rfl) hs (by rw [rng_len, sizeLine_eq]; omega) hc' nc (fun D i x l' H6 Q' hx hD hDs hl' hll s6 o6 hQ => ?_) fun hq h0 H1 fhq s1 o1 hhq hb => ?_
  · o_readsAll
    refine c_draw (by decide) (by decide) s6 fun y H7 y0 y1 s7 o7 => ?_
    exact hQ y H7 ⟨y0, by omega⟩ s7 o7
  rw [rng_len] at hhq hb
  have nhq : st ≠ hq := hs.ne fhq
  have P1 : PlA H1 p L n fs ret := ⟨fl, o1 _ _ np.symm hp, (show IL H1 fl n fs from o1 _ _ nf.symm hf')⟩
  have hc1 : IL H1 fq n first := o1 _ _ nc.symm hc'
  have up : ∀ {h : Nat → Int}, (∀ i, i < n → 0 ≤ h i ∧ h i ≤ 3) → ∀ i, i < n → (h i).natAbs < 2 ^ 500 := fun hh i hi => Nat.lt_of_le_of_lt (show _ ≤ 3 by have := hh i hi; omega) (by decide)
  o_readsAll
  refine f_rng (fun i σ' H' => ∃ (h : Nat → Int) (x4 x5 : Option V), σ' = [some (.ref st), some (.ref p), some (.ref fq), some (.ref hq), x4, x5, none] ∧ Off hq H1 H' ∧ IL H' hq n h ∧ ∀ i, i < n → 0 ≤ h i ∧ h i ≤ 3) ⟨h0, _, _, rfl, off_refl _ _, hhq, hb⟩ ?_ ?_
  · rintro i σ' H2 hi ⟨h, x4, x5, rfl, o2, hh2, hb2⟩
    rw [Int.zero_add]
    have hh2' := hh2
    unfold IL at hh2'
    have e02' : ∀ {b : Addr} {u : HO}, H b = some u → H1 b = some u → H2 b = some u := fun hb h1 => o2 _ _ (ne_of_none hb fhq) h1
    have P2 : PlA H2 p L n fs ret := ⟨fl, e02' hp (o1 _ _ np.symm hp), (show IL H2 fl n fs from e02' hf' (o1 _ _ nf.symm hf'))⟩
    have hc2 : IL H2 fq n first := e02' hc' hc1
    o_readsAll
    rw [rng_len]
    refine g_ixL hh2.sq (at_ofN (j := n - 1) (by omega) (rng_at (by omega))) ?_
    o_readsAll
    refine c_ksums P2 hc2 hh2 o (up hb2) fun lq H3 flq e3 hlq => ?_
    have hlqi : SqL K H3 lq (((List.range n).map (sms L n fs ret first h (h (n - 1)))).map V.int) := by rw [← rng_ints]; exact hlq.sq
    have hh3 := hh2.same e3
    have hh3' := hh3
    unfold IL at hh3'
    o_readsAll
    refine g_minI hlqi (by simp; omega) fun m hm1 hm2 => ?_
    o_readsAll
    refine br (fun hc => ?_) (fun hc => ?_)
    · o_readsAll
      refine g_minI hlqi (by simp; omega) fun m1 hm11 hm12 => ?_
      o_readsAll
      refine g_index hlqi hm11 fun j1 hj1 => ?_
      have hj1n : j1 < n := by have := (List.getElem?_eq_some_iff.mp hj1).1; simpa using this
      refine g_ixL hh3.sq (atI_nat (rng_at hj1n)) ?_
      o_readsAll
      refine g_minI hlqi (by simp; omega) fun m2 hm21 hm22 => ?_
      o_readsAll
      refine g_index hlqi hm21 fun j2 hj2 => ?_
      have hj2n : j2 < n := by have := (List.getElem?_eq_some_iff.mp hj2).1; simpa using this
      refine g_setL hh3 (by rw [rng_len]; exact ixN_at hj2n) (rng_set n j2 _ _) ?_
      refine ⟨_, _, _, rfl, (o2.same e3).upd, upd_same, fun i hi => ?_⟩
      have h1 := hb2 j1 hj1n
      have h2 := hb2 i hi
      show 0 ≤ (if i = j2 then (if h j1 - 1 > 0 then h j1 - 1 else 0) else h i) ∧ (if i = j2 then (if h j1 - 1 > 0 then h j1 - 1 else 0) else h i) ≤ 3
      split
      · split <;> omega
      · exact h2
    · o_readsAll
      exact ⟨h, _, _, rfl, o2.same e3, hh3, hb2⟩
  · rintro σ' H2 ⟨h, x4, x5, rfl, o2, hh2, hb2⟩
    have hh2' := hh2
    unfold IL at hh2'
    have e02' : ∀ {b : Addr} {u : HO}, H b = some u → H1 b = some u → H2 b = some u := fun hb h1 => o2 _ _ (ne_of_none hb fhq) h1
    have P2 : PlA H2 p L n fs ret := ⟨fl, e02' hp (o1 _ _ np.symm hp), (show IL H2 fl n fs from e02' hf' (o1 _ _ nf.symm hf'))⟩
    have hc2 : IL H2 fq n first := e02' hc' hc1
    have s2 : Stk H2 st := by
      obtain ⟨a1, a2, a3, hh⟩ := s1
      exact ⟨a1, a2, a3, o2 _ _ nhq hh⟩
    have o02 : Off st H H2 := fun b u hb q => o2 b u (ne_of_none q fhq) (o1 b u hb q)
    o_readsAll
    rw [rng_len]
    refine g_ixL hh2.sq (at_ofN (j := n - 1) (by omega) (rng_at (by omega))) ?_
    o_readsAll
    refine c_ksums P2 hc2 hh2 o (up hb2) fun lq H3 flq e3 hlq => ?_
    have hlqi : SqL K H3 lq (((List.range n).map (sms L n fs ret first h (h (n - 1)))).map V.int) := by rw [← rng_ints]; exact hlq.sq
    have hh3 := hh2.same e3
    have hh3' := hh3
    unfold IL at hh3'
    o_readsAll
    refine g_minI hlqi (by simp; omega) fun m hm1 hm2 => ?_
    o_readsAll
    refine br (fun hc => ?_) (fun hc => ?_)
    · o_readsAll
      exact k1 H3 (s2.same e3) (o02.same e3)
    · o_readsAll
      rw [rng_len]
      refine g_ixL hh3.sq (at_ofN (j := n - 1) (by omega) (rng_at (by omega))) ?_
      o_readsAll
      rename_i q H4 fq4 e4 hq4
      have hbn := hb2 (n - 1) (by omega)
      refine k2 q lq _ _ H4 (s2.free o02 (e3.free fq4)) (s2.free o02 flq) ((s2.same e3).same e4) ((o02.same e3).same e4) hq4 (hlq.same e4) ⟨fun i hi => ?_, ?_, hbn.1, by omega⟩
      · have := hm2 (sms L n fs ret first h (h (n - 1)) i) (List.mem_map.mpr ⟨i, List.mem_range.mpr hi, rfl⟩)
        omega
      · have h1 := sms_tot (first := first) (ret := ret) o fun i hi => (hb2 i hi).1
        have h2 := bf.tot
        omega
end
end L31

namespace L31
set_option exponentiation.threshold 2000
open SX Ld
section
variable {P : Program} {w : World} {K : PySem.W.Frag} {mg : Str → Option Value} {base : Heap} {Z : Ad}
theorem ext_of {H H' : Hp} (e : Same H H') : LamX.ExtN H H' := fun b o h _ => e b o h
theorem tabs_offL {T : List (Addr × Str)} {H H' : Hp} {s : Addr} {xs : List V} (t : LamX.Tabs T H) (hs : H s = some (.lst xs)) (o : Off s H H') : LamX.Tabs T H' := fun p hp => by
  obtain ⟨ps, h1, h2, h3⟩ := t p hp
  refine ⟨ps, o _ _ (ne_of h1 hs (fun z => nomatch z)) h1, h2, fun pos cv hc => ?_⟩
  obtain ⟨c, e1, e2⟩ := h3 pos cv hc
  exact ⟨c, e1, o _ _ (ne_of e2 hs (fun z => nomatch z)) e2⟩
theorem tabs_off {T : List (Addr × Str)} {H H' : Hp} {s : Addr} (t : LamX.Tabs T H) (hs : Stk H s) (o : Off s H H') : LamX.Tabs T H' := by
  obtain ⟨x, y, z, hs⟩ := hs
  exact tabs_offL t hs o
theorem Stk.ext {H H' : Hp} {a : Addr} (h : Stk H a) (e : LamX.ExtN H H') : Stk H' a := by obtain ⟨x, y, z, h⟩ := h; exact ⟨x, y, z, e _ _ h (fun _ z => nomatch z)⟩
/-- all but the stock and tables stay -/
def OffN (s : Addr) (H H' : Hp) : Prop := ∀ b u, b ≠ s → H b = some u → (∀ ps, u ≠ .tbl ps) → H' b = some u
theorem OffN.refl (s : Addr) (H : Hp) : OffN s H H := fun _ _ _ h _ => h
theorem OffN.trans {s : Addr} {H H1 H2 : Hp} (a : OffN s H H1) (b : OffN s H1 H2) : OffN s H H2 := fun c u hc h n => b c u hc (a c u hc h n) n
theorem OffN.off {s : Addr} {H H1 H2 : Hp} (a : OffN s H H1) (b : Off s H1 H2) : OffN s H H2 := fun c u hc h n => b c u hc (a c u hc h n)
theorem OffN.ext {s : Addr} {H H1 H2 : Hp} (a : OffN s H H1) (b : LamX.ExtN H1 H2) : OffN s H H2 := fun c u hc h n => b c u (a c u hc h n) n
theorem OffN.same {s : Addr} {H H1 H2 : Hp} (a : OffN s H H1) (b : Same H1 H2) : OffN s H H2 := fun c u hc h n => b c u (a c u hc h n)
theorem OffN.lst {s a : Addr} {H H1 : Hp} {xs : List V} (o : OffN s H H1) (n : s ≠ a) (h : H a = some (.lst xs)) : H1 a = some (.lst xs) := o _ _ n.symm h (fun _ z => nomatch z)
theorem LadFr.offN {C s : Addr} {H0 H H' : Hp} {l : Addr} {L : Int} {n : Nat} {fs : Nat → Int} {ret : Bool} {u : HO} (h : LadFr C H0 H l L n fs ret) (hs : H0 s = some u) (nl : l ≠ s) (o : OffN s H H') : LadFr C H0 H' l L n fs ret := by
  obtain ⟨dx, fl, lt, hl, wl, ps, ⟨a, b, c, d, f, g, i⟩, f1, f2, f3, f4, f5⟩ := h
  have ne : ∀ {x : Addr}, H0 x = none → x ≠ s := fun hx => (ne_of_none hs hx).symm
  exact ⟨dx, fl, lt, hl, wl, ps, ⟨o _ _ nl a (fun _ z => nomatch z), o _ _ (ne f1) b (fun _ z => nomatch z), o _ _ (ne f2) c (fun _ z => nomatch z), d, fun j q hq => o _ _ (ne (f5 q (List.mem_of_getElem? hq))) (f j q hq) (fun _ z => nomatch z), o _ _ (ne f3) g (fun _ z => nomatch z), o _ _ (ne f4) i (fun _ z => nomatch z)⟩, f1, f2, f3, f4, f5⟩
/-- refused by its class -/
theorem ask_ref {tl : XK → Hp → VK → Prop} {C : Addr} {f : Str} {v : V} {H : Hp} (h : ∀ E1 Q1, RaiseI C f v H E1 → tl E1 H Q1) : ∀ E1 Q1, (∀ d H1, Same H H1 → H1 d = some (.xd [(f, v)]) → E1 (.ref C) (some d) H1) → tl E1 H Q1 := fun E1 Q1 k => h E1 Q1 fun d H1 _ e hd => k d H1 e hd
/-- nothing that stays is here -/
def Frn (H : Hp) (b : Addr) : Prop := ∀ u, H b = some u → ∃ ps, u = .tbl ps
theorem OffN.fr {s b : Addr} {H H' : Hp} (o : OffN s H H') (n : s ≠ b) (h : H' b = none) : Frn H b := fun u hu => by
  cases u <;> first | exact ⟨_, rfl⟩ | (have e := o b _ n.symm hu (fun _ z => nomatch z); rw [h] at e; cases e)
theorem OffN.putF {s b : Addr} {H H' : Hp} {x : HO} (o : OffN s H H') (f : Frn H b) : OffN s H (upd H' b x) := fun c u hc h n => by
  by_cases e : c = b
  · subst e
    obtain ⟨ps, hp⟩ := f u h
    exact absurd hp (n ps)
  · rw [upd_ne e]
    exact o c u hc h n
theorem set_map (l : List Int) (j : Nat) (v : Int) : (l.map V.int).set j (.int v) = (l.set j v).map V.int := by
  rw [List.map_set]
theorem tabs_put {T : List (Addr × Str)} {H : Hp} {b : Addr} {xs : List V} {o : HO} (t : LamX.Tabs T H) (hb : H b = some (.lst xs)) : LamX.Tabs T (upd H b o) := tabs_offL t hb ((off_refl _ _).upd)
/-- a table that the stock does not touch -/
def TabS (C CL s : Addr) (H : Hp) (t : Addr) (L : Int) (n : Nat) (fs : Nat → Int) (ret : Bool) (cs : Nat → Int) : Prop := ∀ H', OffN s H H' → TabAt C CL H' t L n fs ret cs
theorem TabS.at {C CL s : Addr} {H : Hp} {t : Addr} {L : Int} {n : Nat} {fs : Nat → Int} {ret : Bool} {cs : Nat → Int} (h : TabS C CL s H t L n fs ret cs) : TabAt C CL H t L n fs ret cs := h H (OffN.refl _ _)
theorem TabS.off {C CL s : Addr} {H H1 : Hp} {t : Addr} {L : Int} {n : Nat} {fs : Nat → Int} {ret : Bool} {cs : Nat → Int} (h : TabS C CL s H t L n fs ret cs) (o : OffN s H H1) : TabS C CL s H1 t L n fs ret cs := fun H' o' => h H' (o.trans o')
end
end L31

namespace L31
set_option exponentiation.threshold 9000
open SX Ld Rd Bl
section
variable {P : Program} {w : World} {K : PySem.W.Frag} {mg : Str → Option Value} {base : Heap} {Z : Ad}
theorem TabAt.ext {C CL : Addr} {H H' : Hp} {t : Addr} {L : Int} {n : Nat} {fs : Nat → Int} {ret : Bool} {cs : Nat → Int} (h : TabAt C CL H t L n fs ret cs) (e : LamX.ExtN H H') : TabAt C CL H' t L n fs ret cs := by
  obtain ⟨dx, l, cl, a, b, c⟩ := h
  exact ⟨dx, l, cl, e _ _ a (fun _ z => nomatch z), e _ _ b (fun _ z => nomatch z), c.ext e⟩
abbrev f1 : Nat → Int := fun _ => -1
theorem f1_ok : OkF f1 := fun i => ⟨Int.le_refl _, by show (-1 : Int) ≤ i; omega, fun h => by show (-1 : Int) ≤ (i : Int) - 1; omega⟩
theorem b1_ok : BOk 2 1 f1 := ⟨by decide, by decide, by decide, by decide, f1_ok⟩
theorem long_bill (m : Int) : BL 2 1 f1 (fun _ => 2 * m) (fun _ => 0) m 0 = m := by
  show (0 + 0 * ld 2 f1 0 0) - (0 + 2 * m * ld 2 f1 0 0) + m * ld 2 f1 0 1 = m
  rw [ld_zero f1_ok 0 (Nat.le_refl 0), show ld 2 f1 0 1 = 1 from ld_one f1_ok 0]
  omega
theorem long_sum (m : Int) : sm (BL 2 1 f1 (fun _ => 2 * m) (fun _ => 0) m) 1 = m := by
  show 0 + BL 2 1 f1 (fun _ => 2 * m) (fun _ => 0) m 0 = m
  rw [long_bill]
  omega
theorem long_sms (m : Int) : SL 2 1 f1 false (fun _ => 2 * m) (fun _ => 0) m 0 = 0 := by
  show 2 * m - 2 * BL 2 1 f1 (fun _ => 2 * m) (fun _ => 0) m 0 + 0 + (0 + 0) = 0
  rw [long_bill]
  omega
theorem long_it (m : Nat) : ∀ i, i ≤ m → (fin 2 1 f1 false (fun _ => 2 * (m : Int)) (BL 2 1 f1 (fun _ => 2 * (m : Int)) (fun _ => 0) m) i).cs 0 = 2 * ((m : Int) - i) ∧ (fin 2 1 f1 false (fun _ => 2 * (m : Int)) (BL 2 1 f1 (fun _ => 2 * (m : Int)) (fun _ => 0) m) i).h 0 = (m : Int) - i ∧ (fin 2 1 f1 false (fun _ => 2 * (m : Int)) (BL 2 1 f1 (fun _ => 2 * (m : Int)) (fun _ => 0) m) i).rs = List.replicate i 0
  | 0, _ => ⟨by show 2 * (m : Int) = 2 * ((m : Int) - 0); omega, by show BL 2 1 f1 (fun _ => 2 * (m : Int)) (fun _ => 0) m 0 = (m : Int) - 0; rw [long_bill]; omega, rfl⟩
  | i + 1, hi => by
    obtain ⟨h1, h2, h3⟩ := long_it m i (by omega)
    have hp : hiR 2 (fin 2 1 f1 false (fun _ => 2 * (m : Int)) (BL 2 1 f1 (fun _ => 2 * (m : Int)) (fun _ => 0) m) i) 1 = some 0 := hi_eq 2 _ 1 0 (by decide) ⟨by rw [h1]; omega, by rw [h2]; omega⟩ fun e h4 h5 => by omega
    have e : fin 2 1 f1 false (fun _ => 2 * (m : Int)) (BL 2 1 f1 (fun _ => 2 * (m : Int)) (fun _ => 0) m) (i + 1) = fire 2 1 f1 false (fin 2 1 f1 false (fun _ => 2 * (m : Int)) (BL 2 1 f1 (fun _ => 2 * (m : Int)) (fun _ => 0) m) i) 0 := it_some (pk := fun s => hiR 2 s 1) hp
    rw [e]
    refine ⟨?_, ?_, ?_⟩
    · show (fin 2 1 f1 false (fun _ => 2 * (m : Int)) (BL 2 1 f1 (fun _ => 2 * (m : Int)) (fun _ => 0) m) i).cs 0 + (0 - 2) = _
      rw [h1]
      omega
    · show (fin 2 1 f1 false (fun _ => 2 * (m : Int)) (BL 2 1 f1 (fun _ => 2 * (m : Int)) (fun _ => 0) m) i).h 0 - 1 = _
      rw [h2]
      omega
    · show (fin 2 1 f1 false (fun _ => 2 * (m : Int)) (BL 2 1 f1 (fun _ => 2 * (m : Int)) (fun _ => 0) m) i).rs ++ [0] = _
      rw [h3, List.replicate_succ']
theorem long_FL (m : Nat) : (FL 2 1 f1 false (fun _ => 2 * (m : Int)) (fun _ => 0) m).rs = List.replicate m 0 ∧ sm (FL 2 1 f1 false (fun _ => 2 * (m : Int)) (fun _ => 0) m).h 1 = 0 := by
  obtain ⟨h1, h2, h3⟩ := long_it m m (Nat.le_refl m)
  unfold FL
  rw [long_sum, Int.toNat_natCast]
  refine ⟨h3, ?_⟩
  show 0 + _ = (0 : Int)
  rw [h2]
  omega
theorem nL_rep (m : Nat) : nL (List.replicate m 0) = List.replicate m (V.int 0) := by
  unfold nL
  rw [List.map_replicate]
  rfl
def sp_klong (Z : Ad) : Sp := fun vs H Q _ => ∃ (st : Addr), vs = [.ref st] ∧ Stk H st ∧ LamX.Tabs (tabs Z) H ∧ ∀ H', Q (.bl true) H'
theorem d_law_k31_long (T : Txt K w mg Z) (B : Bas Z mg base) : Dfn P w K mg base 12 "_law_k31_long" ["stock"] (sp_klong Z) := by
  obtain ⟨f, fd, F, hc, hm, hb⟩ := T.f_law_k31_long
  refine ⟨f, fd, okC F hc sc_law_k31_long (fun vs H Q E h => by first | (obtain ⟨rfl, _⟩ := h; rfl) | (obtain ⟨_, rfl, _⟩ := h; rfl) | (obtain ⟨_, _, rfl, _⟩ := h; rfl) | (obtain ⟨_, _, _, rfl, _⟩ := h; rfl) | (obtain ⟨_, _, _, _, rfl, _⟩ := h; rfl) | (obtain ⟨_, _, _, _, _, rfl, _⟩ := h; rfl) | (obtain ⟨_, _, _, _, _, _, rfl, _⟩ := h; rfl) | (obtain ⟨_, _, _, _, _, _, _, rfl, _⟩ := h; rfl) | (obtain ⟨_, _, _, _, _, _, _, _, rfl, _⟩ := h; rfl) | (obtain ⟨_, _, _, _, _, _, _, _, _, rfl, _⟩ := h; rfl) | (obtain ⟨_, _, _, _, _, _, _, _, _, _, rfl, _⟩ := h; rfl) | (obtain ⟨_, _, _, _, _, _, _, _, _, _, _, rfl, _⟩ := h; rfl) | (obtain ⟨_, _, _, _, _, _, _, _, _, _, _, _, rfl, _⟩ := h; rfl) | (obtain ⟨_, _, _, _, _, _, _, _, _, _, _, _, _, rfl, _⟩ := h; rfl) | (obtain ⟨_, _, _, _, _, _, _, _, _, _, _, _, _, _, rfl, _⟩ := h; rfl) | (obtain ⟨_, _, _, _, _, _, _, _, _, _, _, _, _, _, _, rfl, _⟩ := h; rfl) | (obtain ⟨_, _, _, _, _, _, _, _, _, _, _, _, _, _, _, _, rfl, _⟩ := h; rfl)) (fun A outer s H vs Q E hr h => ?_), hm, F.kp, hb⟩
  obtain ⟨st, rfl, hs, hT, k⟩ := h
  have D_Ladder_init := d_Ladder_init (P := P) (base := base) T
  have D_Table_init := d_Table_init (P := P) (base := base) T
  have D_law_matches := d_law_matches (P := P) (base := base) T
  have D_law_draw := d_law_draw (P := P) (base := base) T
  have D_law_e_refused := d_law_e_refused (P := P) (base := base) T
  have D_hidden_season := d_hidden_season (P := P) (base := base) T
  refine ⟨_, (pss_cons (ps_set (i := 1) sc_law_k31_long.nd rfl (.inl rfl) (pe_ini D_Ladder_init (hr.mono (by decide)) (by rfl) (pa_cons pe_int (pa_cons (pe_lst (pa_cons (pe_op op_sub pe_int pe_int) pa_nil)) (pa_cons pe_bl pa_nil)))))
      (pss_cons (ps_set (i := 2) sc_law_k31_long.nd rfl (.inr rfl) (pe_op op_uAdd pe_int (pe_dfn D_law_draw (hr.mono (by decide)) (by rfl) (pa_cons (pv 0) (pa_cons pe_int pa_nil)))))
      (pss_cons (ps_set (i := 3) sc_law_k31_long.nd rfl (.inr rfl) (pe_ini D_Table_init (hr.mono (by decide)) (by rfl) (pa_cons (pv 1) (pa_cons (pe_lst (pa_cons (pe_op op_uMul pe_int (pv 2)) pa_nil)) pa_nil))))
      (pss_cons (ps_set (i := 4) sc_law_k31_long.nd rfl (.inr rfl) (pe_ini D_Table_init (hr.mono (by decide)) (by rfl) (pa_cons (pv 1) (pa_cons (pe_lst (pa_cons pe_int pa_nil)) pa_nil))))
      (pss_cons (ps_if (pt_cmpR (op_uEq hr.units) (pv 2) pe_int (nomark _)) (pss_one (ps_ret (pe_lam (T := tabs Z) D_law_e_refused (hr.mono (by decide)) (by rfl) (pa_cons (pe_tup (pa_cons pe_str (pa_cons pe_str pa_nil))) pa_nil) B.b_law_k31_long rfl (tabs_law_k31_long Z) (tabu_law_k31_long B) (LamX.lamS_by (sc := defScope st_law_k31_long) (by decide +kernel)) rfl (fun _ _ _ _ _ => rfl) (fun A outer s H E f c' hr => (pe_dfnS D_hidden_season (hr.mono (by decide)) (by rfl) (takes_of rfl rfl rfl rfl) (pa_cons (pv 3) (pa_cons (pv 4) (pa_cons (pv 2) pa_nil))))) rfl rfl))) pss_nil)
      (pss_one (ps_ret (pe_dfn (D_law_matches 3) (hr.mono (by decide)) (by rfl) (pa_cons (pe_dfnS D_hidden_season (hr.mono (by decide)) (by rfl) takes0 (pa_cons (pv 3) (pa_cons (pv 4) (pa_cons (pv 2) pa_nil)))) (pa_cons (pe_tup (pa_cons pe_str (pa_cons (pe_op op_rep (pe_lst (pa_cons pe_int pa_nil)) (pv 2)) pa_nil))) pa_nil)))))))))), ?_⟩
  try dsimp only [cxOf, Cx.nox, Cx.wish]
  show (_ : TS) _ [some _, none, none, none, none] _
  o_readsAll
  rename_i fl H1 ffl e1 hfl
  have hf1 : IL H1 fl 1 f1 := hfl
  refine c_lmake hf1 (by decide) (by decide) (by decide) (by decide) f1_ok fun l H2 fl2 e2 hl => ?_
  have s2 := (hs.same e1).same e2
  have T2 := (hT.ext e1).ext e2
  have nl : l ≠ st := ((hs.same e1).ne fl2).symm
  obtain ⟨u0, u1, u2, hst1⟩ := hs.same e1
  o_readsAll
  refine c_draw (by decide) (by decide) s2 fun d H3 d0 d1 s3 o3 => ?_
  have T3 := tabs_off T2 s2 o3
  have hl3 := hl.offN hst1 nl ((OffN.refl _ _).off o3)
  obtain ⟨m, hm⟩ : ∃ m : Nat, 3000 + d = (m : Int) := ⟨(3000 + d).toNat, by omega⟩
  refine g_addI ?_
  rw [hm]
  have hm2 : m = 3000 ∨ m = 3001 := by omega
  clear hl o3
  o_readsAll
  rename_i c1 H4 fc1 e4 hc1
  refine c_tmake (hl3.same e4).at (show IL H4 c1 1 (fun _ => 2 * (m : Int)) from hc1) (by decide) (fun i hi => by show 0 ≤ 2 * (m : Int); omega) fun t1 H5 ft1 e5 ht1 => ?_
  o_readsAll
  rename_i c2 H6 fc2 e6 hc2
  have e36 : Same H3 H6 := (e4.trans e5).trans e6
  refine c_tmake (hl3.same e36).at (show IL H6 c2 1 (fun _ => 0) from hc2) (by decide) (fun i hi => Int.le_refl 0) fun t2 H7 ft2 e7 ht2 => ?_
  have ht1' := (ht1.same e6).same e7
  have T7 := T3.ext (e36.trans e7)
  have mb : ((m : Int)).natAbs < 2 ^ 100 := Nat.lt_of_le_of_lt (show ((m : Int)).natAbs ≤ 3001 by omega) (by decide)
  have fb : ∀ i, i < 1 → 0 ≤ (fun _ : Nat => 2 * (m : Int)) i ∧ ((fun _ : Nat => 2 * (m : Int)) i).natAbs < 2 ^ 100 := fun i hi => ⟨by show 0 ≤ 2 * (m : Int); omega, Nat.lt_of_le_of_lt (show (2 * (m : Int)).natAbs ≤ 6002 by omega) (by decide)⟩
  have lb : ∀ i, i < 1 → 0 ≤ (fun _ : Nat => (0 : Int)) i ∧ ((fun _ : Nat => (0 : Int)) i).natAbs < 2 ^ 100 := fun i hi => ⟨Int.le_refl 0, by show 0 < 2 ^ 100; decide⟩
  have hB : ∀ r, r < 1 → BL 2 1 f1 (fun _ => 2 * (m : Int)) (fun _ => 0) m r = m := fun r hr => by rw [show r = 0 by omega]; exact long_bill m
  have hS : ∀ r, r < 1 → SL 2 1 f1 false (fun _ => 2 * (m : Int)) (fun _ => 0) m r = 0 := fun r hr => by rw [show r = 0 by omega]; exact long_sms m
  o_readsAll
  refine br (fun hc => ?_) (fun hc => ?_)
  · o_readsAll
    refine i_lam2 T7 fun H8 e8 T8 c' hc' => ?_
    have ht18 := TabAt.ext ht1' e8
    have ht28 := TabAt.ext ht2 e8
    o_readsAll
    rename_i du H9 fdu e9 hdu
    refine c_refused (v := .str _) err_TooMany trivial hdu (fun E1 Q1 h1 => ⟨e9 _ _ hc', ?_⟩) fun H10 e10 => ?_
    · o_readsAll
      refine ⟨t1, t2, m, 2, 1, f1, _, _, false, false, rfl, ht18.same e9, ht28.same e9, b1_ok, fb, lb, mb, fun h => absurd rfl h, fun _ h => absurd h (by omega), fun _ _ => ⟨fun r hr hb he => ?_, fun _ => ⟨fun r hr hs he => ?_, fun _ => ⟨fun _ d H' _ e hd => h1 d H' e hd, fun N hN hN3 => ?_⟩⟩⟩⟩
      · have := hB r hr
        have hb' : BL 2 1 f1 (fun _ => 2 * (m : Int)) (fun _ => 0) m r < 0 := hb
        omega
      · exact absurd (hS r hr) hs
      · have h2 : sm (BL 2 1 f1 (fun _ => 2 * (m : Int)) (fun _ => 0) m) 1 = (N : Int) := hN
        rw [long_sum] at h2
        omega
    · exact k H10
  · have hm3 : m = 3000 := by omega
    have a : AOk 2 1 f1 false (fun _ => 2 * (m : Int)) (fun _ => 0) m := ⟨b1_ok, fb, lb, by omega, mb, fun _ => by rw [long_sum]; omega⟩
    obtain ⟨hrs, hsum⟩ := long_FL m
    have hO : OutR 2 1 f1 false (fun _ => 2 * (m : Int)) (fun _ => 0) m .season := ⟨fun e he => by rw [hB e he]; omega, hS, hsum⟩
    o_readsAll
    refine c_hid ht1' ht2 a fun O' hO' tq H8 ftq e8 htq => ?_
    have hOO := out_one _ _ _ _ _ _ _ hO' hO
    subst hOO
    obtain ⟨rq, frq, hr1, hr2⟩ := htq
    o_readsAll
    rename_i one H9 fone e9 hone
    refine g_rep hone (by omega) (by rw [sizeLine_eq, List.length_singleton]; omega) fun rr H10 frr e10 hrr => ?_
    rw [List.flatten_replicate_singleton] at hrr
    o_readsAll
    rename_i tp H11 ftp e11 htp
    have e811 : Same H8 H11 := (e9.trans e10).trans e11
    have hr21 := e811 _ _ hr2
    have hrr1 := e11 _ _ hrr
    rw [hrs] at hr21
    rw [← nL_rep] at hrr1
    exact c_mat (alk_pair (e811 _ _ hr1) htp (alk_nL hr21 hrr1 (by rw [List.length_replicate]; omega))) fun H12 e12 => k H12
end
end L31

namespace L31
set_option exponentiation.threshold 9000
open SX Ld Rd Bl
section
variable {P : Program} {w : World} {K : PySem.W.Frag} {mg : Str → Option Value} {base : Heap} {Z : Ad}
theorem il_congr {H : Hp} {q : Addr} {n : Nat} {f g : Nat → Int} (h : IL H q n f) (e : ∀ i, i < n → f i = g i) : IL H q n g := by
  unfold IL at h ⊢
  rw [h]
  unfold rng
  rw [List.map_congr_left fun i hi => by rw [e i (List.mem_range.mp hi)]]
/-- what is asked of the two callables: both refusals -/
def RefS (Z : Ad) (L : Int) (n : Nat) (fs first last : Nat → Int) (ret : Bool) (sp : Sp) : Prop := ∀ (t1 t2 : Addr) (H : Hp) (Q : VK) (E : XK), TabAt Z.a_Table Z.a_Ladder H t1 L n fs ret first → (TabAt Z.a_Table Z.a_Ladder H t2 L n fs (!ret) last → RaiseI Z.a_BadTable "rung" (.int (-1)) H E → sp [.ref t1, .ref t2, .int (-1)] H Q E) ∧ (TabAt Z.a_Table Z.a_Ladder H t2 L n fs ret last → RaiseI Z.a_BadDemand "what" (.str "crowns") H E → sp [.ref t1, .ref t2, .int (-1)] H Q E)
theorem ref_bof {L : Int} {n : Nat} {fs first last : Nat → Int} {ret : Bool} {x : Int} (a : AOk L n fs ret first last x) : RefS Z L n fs first last ret (sp_bof Z) := fun t1 t2 H Q E h1 => ⟨fun h2 r => ⟨t1, t2, -1, L, n, fs, first, last, ret, !ret, rfl, h1, h2, a.o, a.fb, a.lb, by decide, fun _ => r, fun h => absurd h (by cases ret <;> decide), fun h => absurd h (by cases ret <;> decide)⟩, fun h2 r => ⟨t1, t2, -1, L, n, fs, first, last, ret, ret, rfl, h1, h2, a.o, a.fb, a.lb, by decide, fun h => absurd rfl h, fun _ _ => r, fun _ h => absurd h (by decide)⟩⟩
theorem ref_hid {L : Int} {n : Nat} {fs first last : Nat → Int} {ret : Bool} {x : Int} (a : AOk L n fs ret first last x) : RefS Z L n fs first last ret (sp_hid Z) := fun t1 t2 H Q E h1 => ⟨fun h2 r => ⟨t1, t2, -1, L, n, fs, first, last, ret, !ret, rfl, h1, h2, a.o, a.fb, a.lb, by decide, fun _ => r, fun h => absurd h (by cases ret <;> decide), fun h => absurd h (by cases ret <;> decide)⟩, fun h2 r => ⟨t1, t2, -1, L, n, fs, first, last, ret, ret, rfl, h1, h2, a.o, a.fb, a.lb, by decide, fun h => absurd rfl h, fun _ _ => r, fun _ h => absurd h (by decide)⟩⟩
theorem sm_le_up {f g : Nat → Int} {n : Nat} (h : ∀ i, i < n → f i ≤ g i) : sm f n ≤ sm g n := by
  induction n with
  | zero => exact Int.le_refl _
  | succ n ih =>
    have h1 := ih fun i hi => h i (by omega)
    have h2 := h n (by omega)
    have h3 : sm f (n + 1) = sm f n + f n := rfl
    have h4 : sm g (n + 1) = sm g n + g n := rfl
    omega
theorem first_bnd {n : Nat} {first : Nat → Int} (n0 : 0 < n) (n5 : n ≤ 5) (h : ∀ j, j < n → 0 ≤ first j ∧ first j ≤ (if j = 0 then 8 else 3)) : Bnd n first 0 20 := by
  refine ⟨fun i hi => (h i hi).1, ?_, by decide, by decide⟩
  have h1 := sm_le_up (f := first) (g := fun j => if j = 0 then 8 else 3) fun i hi => (h i hi).2
  have h2 : n = 1 ∨ n = 2 ∨ n = 3 ∨ n = 4 ∨ n = 5 := by omega
  refine Int.le_trans h1 ?_
  rcases h2 with rfl | rfl | rfl | rfl | rfl <;> decide
theorem Bnd.small {n : Nat} {f : Nat → Int} {x m : Int} (b : Bnd n f x m) (hm : m ≤ 30) : ∀ i, i < n → 0 ≤ f i ∧ (f i).natAbs < 2 ^ 100 := fun i hi => by
  have h1 := one_le_sm b.l0 i hi
  have h2 := b.tot
  have h3 := b.l0 i hi
  exact ⟨h3, Nat.lt_of_le_of_lt (show (f i).natAbs ≤ 30 by omega) (by decide)⟩
theorem Bnd.xs {n : Nat} {f : Nat → Int} {x m : Int} (b : Bnd n f x m) : x.natAbs < 2 ^ 100 := by
  have h1 := b.x0
  have h2 := b.x1
  exact Nat.lt_of_le_of_lt (show x.natAbs ≤ 30 by omega) (by decide)
theorem Bnd.up {n : Nat} {f : Nat → Int} {x m m' : Int} (b : Bnd n f x m) (h : m ≤ m') : Bnd n f x m' := ⟨b.l0, Int.le_trans b.tot h, b.x0, b.x1⟩
/-- a row of the list of bent ends: its counts and its crowns -/
def RowB (st : Addr) (H : Hp) (n : Nat) (q : Addr) : Prop := ∃ (f : Addr) (la : Nat → Int) (x : Int), H q = some (.lst [.ref f, .int x]) ∧ IL H f n la ∧ Bnd n la x 21 ∧ st ≠ q ∧ st ≠ f
theorem RowB.same {st : Addr} {H H' : Hp} {n : Nat} {q : Addr} (h : RowB st H n q) (e : Same H H') : RowB st H' n q := by
  obtain ⟨f, la, x, a, b, c, d, g⟩ := h
  exact ⟨f, la, x, e _ _ a, b.same e, c, d, g⟩
theorem RowB.off {st : Addr} {H H' : Hp} {n : Nat} {q : Addr} (h : RowB st H n q) (o : Off st H H') : RowB st H' n q := by
  obtain ⟨f, la, x, a, b, c, d, g⟩ := h
  refine ⟨f, la, x, o _ _ d.symm a, ?_, c, d, g⟩
  unfold IL at b ⊢
  exact o _ _ g.symm b
theorem _root_.Ld.IL.offS {st fq : Addr} {n : Nat} {f : Nat → Int} {H H' : Hp} (h : IL H fq n f) (nq : st ≠ fq) (o : Off st H H') : IL H' fq n f := by
  unfold IL at h ⊢
  exact o _ _ nq.symm h
theorem c_kmade1 {st p fq fl : Addr} {L : Int} {n : Nat} {fs first : Nat → Int} {ret : Bool} {H : Hp} {Q : VK} {E : XK} (hs : Stk H st) (hp : H p = some (.lst [.int L, .ref fl, .bl ret])) (hf : IL H fl n fs) (hc : IL H fq n first) (np : st ≠ p) (nf : st ≠ fl) (nc : st ≠ fq) (o : BOk L n fs) (bf : Bnd n first 0 20) (k : ∀ v H', Stk H' st → Off st H H' → (v = .non ∨ ∃ q, v = .ref q ∧ ∀ b u w, H b = some u → RowB st (upd H' b w) n q) → Q v H') : sp_kmade [.ref st, .ref p, .ref fq] H Q E := ⟨st, p, fq, fl, L, n, fs, first, ret, rfl, hs, hp, hf, hc, np, nf, nc, o, bf, fun H' s' o' => k _ H' s' o' (.inl rfl), fun q lq last x H' fq flq s' o' hq hlq b => k _ H' s' o' (.inr ⟨q, rfl, fun c u w hc => ⟨lq, last, x, by rw [upd_ne (ne_of_none hc fq).symm]; exact hq, by unfold IL at hlq ⊢; rw [upd_ne (ne_of_none hc flq).symm]; exact hlq, b, hs.ne fq, hs.ne flq⟩⟩)⟩
def sp_law (K : PySem.W.Frag) (Z : Ad) : Sp := fun vs H Q _ => ∃ (a : Addr) (ns : List Int), vs = [.ref a] ∧ SqL K H a (ns.map V.int) ∧ ns.length ≤ 63 ∧ LamX.Tabs (tabs Z) H ∧ ∀ H', Q (.bl true) H'
theorem ok_law (T : Txt K w mg Z) (B : Bas Z mg base) {f : Addr} {fd : FuncData} (F : Fun K "law" "law" st_law f fd) (hc : fd.code = .ref Z.c_law) : FnOk P w K mg base CX0 13 f fd ["script"] (sp_law K Z) := by
  refine okC F hc sc_law (fun vs H Q E h => by first | (obtain ⟨rfl, _⟩ := h; rfl) | (obtain ⟨_, rfl, _⟩ := h; rfl) | (obtain ⟨_, _, rfl, _⟩ := h; rfl) | (obtain ⟨_, _, _, rfl, _⟩ := h; rfl) | (obtain ⟨_, _, _, _, rfl, _⟩ := h; rfl) | (obtain ⟨_, _, _, _, _, rfl, _⟩ := h; rfl) | (obtain ⟨_, _, _, _, _, _, rfl, _⟩ := h; rfl) | (obtain ⟨_, _, _, _, _, _, _, rfl, _⟩ := h; rfl) | (obtain ⟨_, _, _, _, _, _, _, _, rfl, _⟩ := h; rfl) | (obtain ⟨_, _, _, _, _, _, _, _, _, rfl, _⟩ := h; rfl) | (obtain ⟨_, _, _, _, _, _, _, _, _, _, rfl, _⟩ := h; rfl) | (obtain ⟨_, _, _, _, _, _, _, _, _, _, _, rfl, _⟩ := h; rfl) | (obtain ⟨_, _, _, _, _, _, _, _, _, _, _, _, rfl, _⟩ := h; rfl) | (obtain ⟨_, _, _, _, _, _, _, _, _, _, _, _, _, rfl, _⟩ := h; rfl) | (obtain ⟨_, _, _, _, _, _, _, _, _, _, _, _, _, _, rfl, _⟩ := h; rfl) | (obtain ⟨_, _, _, _, _, _, _, _, _, _, _, _, _, _, _, rfl, _⟩ := h; rfl) | (obtain ⟨_, _, _, _, _, _, _, _, _, _, _, _, _, _, _, _, rfl, _⟩ := h; rfl)) (fun A outer s H vs Q E hr h => ?_)
  obtain ⟨a, ns, rfl, hS, hns, hT, k⟩ := h
  have D_law_stock := d_law_stock (P := P) (base := base) T
  have D_law_e_ladder := d_law_e_ladder (P := P) (base := base) T
  have D_Ladder_init := d_Ladder_init (P := P) (base := base) T
  have D_law_k31_season := d_law_k31_season (P := P) (base := base) T
  have D_law_k31_made := d_law_k31_made (P := P) (base := base) T
  have D_Table_init := d_Table_init (P := P) (base := base) T
  have D_law_draw := d_law_draw (P := P) (base := base) T
  have D_law_matches := d_law_matches (P := P) (base := base) T
  have D_law_k31_bent := d_law_k31_bent (P := P) (base := base) T
  have D_bill_of := d_bill_of (P := P) (base := base) T
  have D_hidden_season := d_hidden_season (P := P) (base := base) T
  have D_law_k31_long := d_law_k31_long (P := P) (base := base) T B
  have D_law_k31_bill := d_law_k31_bill (P := P) (base := base) T
  have D_law_k31_asked := d_law_k31_asked (P := P) (base := base) T
  have D_law_e_refused := d_law_e_refused (P := P) (base := base) T
  refine ⟨_, (pss_cons (ps_set (i := 1) sc_law.nd rfl (.inr rfl) (pe_dfn D_law_stock (hr.mono (by decide)) (by rfl) (pa_cons (pv 0) (pa_cons pe_int pa_nil))))
      (pss_cons (ps_set (i := 2) sc_law.nd rfl (.inl rfl) (pe_dfn D_law_e_ladder (hr.mono (by decide)) (by rfl) (pa_cons (pv 1) (pa_cons pe_int (pa_cons pe_int (pa_cons pe_int pa_nil))))))
      (pss_cons (ps_set (i := 3) sc_law.nd rfl (.inr rfl) (pe_lc (own := [("rung", 13)]) (by rfl) sc_law.nd (pi_range1 (by rfl) T.b_range (pa_cons (pe_callB call_uLen (by rfl) T.b_len bt_len (pa_cons (pe_ix ix_seq (pv 2) pe_int (fun _ _ => rfl)) pa_nil)) pa_nil)) (blkOk_by (N := n_law) (sc := defScope st_law) (by decide +kernel)) (fun _ _ _ _ _ => (pg_name (i := 13) sc_law.nd rfl (.inl rfl))) (fun _ _ _ _ _ => pts_nil) (fun _ _ _ _ _ => (pe_ifExp (pt_cmpR op_gt (pv 13) pe_int (nomark _)) (pe_dfn D_law_draw (hr.mono (by decide)) (by rfl) (pa_cons (pv 1) (pa_cons pe_int pa_nil))) (pe_dfn D_law_draw (hr.mono (by decide)) (by rfl) (pa_cons (pv 1) (pa_cons pe_int pa_nil)))))))
      (pss_cons (ps_set (i := 4) sc_law.nd rfl (.inr rfl) (pe_ini D_Ladder_init (hr.mono (by decide)) (by rfl) (pa_cons (pe_ix ix_seq (pv 2) pe_int (fun _ _ => rfl)) (pa_cons (pe_ix ix_seq (pv 2) pe_int (fun _ _ => rfl)) (pa_cons (pe_ix ix_seq (pv 2) pe_int (fun _ _ => rfl)) pa_nil)))))
      (pss_cons (ps_asg (pe_dfn D_law_k31_season (hr.mono (by decide)) (by rfl) (pa_cons (pv 1) (pa_cons (pv 2) (pa_cons (pv 3) (pa_cons (pe_dfn D_law_draw (hr.mono (by decide)) (by rfl) (pa_cons (pv 1) (pa_cons pe_int pa_nil))) pa_nil))))) (pg_unl (by rfl) (pgs_cons (pg_name (i := 5) sc_law.nd rfl (.inr rfl)) (pgs_cons (pg_name (i := 6) sc_law.nd rfl (.inl rfl)) (pgs_cons (pg_name (i := 7) sc_law.nd rfl (.inl rfl)) pgs_nil)))))
      (pss_cons (ps_if (PW.pt (pw_or (pt_cmpR (op_uNe hr.units) (pe_dfn D_law_k31_bill (hr.mono (by decide)) (by rfl) (pa_cons (pv 2) (pa_cons (pv 3) (pa_cons (pv 5) (pa_cons (pv 7) pa_nil))))) (pv 6) (nomark _)) (pw_or1 (pt_not (pt_u (pe_dfn D_law_k31_asked (hr.mono (by decide)) (by rfl) (pa_cons (pv 4) (pa_cons (pv 2) (pa_cons (pv 3) (pa_cons (pv 5) (pa_cons (pv 7) pa_nil))))))))))) (pss_one (ps_ret pe_bl)) pss_nil)
      (pss_cons (ps_if (pt_not (pt_u (pe_dfn (D_law_matches 3) (hr.mono (by decide)) (by rfl) (pa_cons (pe_dfnS D_bill_of (hr.mono (by decide)) (by rfl) takes0 (pa_cons (pe_ini D_Table_init (hr.mono (by decide)) (by rfl) (pa_cons (pv 4) (pa_cons (pv 3) pa_nil))) (pa_cons (pe_ini D_Table_init (hr.mono (by decide)) (by rfl) (pa_cons (pv 4) (pa_cons (pv 5) pa_nil))) (pa_cons (pv 7) pa_nil)))) (pa_cons (pv 6) pa_nil))))) (pss_one (ps_ret pe_bl)) pss_nil)
      (pss_cons (ps_set (i := 8) sc_law.nd rfl (.inl rfl) (pe_lst (pa_cons (pe_dfn D_law_k31_bent (hr.mono (by decide)) (by rfl) (pa_cons (pv 1) (pa_cons (pv 5) (pa_cons (pv 7) pa_nil)))) (pa_cons (pe_dfn D_law_k31_bent (hr.mono (by decide)) (by rfl) (pa_cons (pv 1) (pa_cons (pv 5) (pa_cons (pv 7) pa_nil)))) (pa_cons (pe_lst (pa_cons (pv 5) (pa_cons pe_int pa_nil))) (pa_cons (pe_lst (pa_cons (pv 3) (pa_cons pe_int pa_nil))) pa_nil))))))
      (pss_cons (ps_set (i := 9) sc_law.nd rfl (.inl rfl) (pe_dfn D_law_k31_made (hr.mono (by decide)) (by rfl) (pa_cons (pv 1) (pa_cons (pv 2) (pa_cons (pv 3) pa_nil)))))
      (pss_cons (ps_if (pt_cmpR op_uNotN (pv 9) pe_non (nomark _)) (pss_one (ps_expr (pe_bm PySem.F.plainAttrs_list PySem.F.slot_list_append PySem.F.type_list_append mt_append (pv 8) (pa_cons (pv 9) pa_nil)))) pss_nil)
      (pss_cons (ps_for PassesOwn.never rfl (pi_list (pv 8)) (pg_name (i := 10) sc_law.nd rfl (.inl rfl))
        (pss_one (ps_if (pt_not (pt_u (pe_dfn D_law_k31_asked (hr.mono (by decide)) (by rfl) (pa_cons (pv 4) (pa_cons (pv 2) (pa_cons (pv 3) (pa_cons (pe_ix ix_seq (pv 10) pe_int (fun _ _ => rfl)) (pa_cons (pe_ix ix_seq (pv 10) pe_int (fun _ _ => rfl)) pa_nil)))))))) (pss_one (ps_ret pe_bl)) pss_nil)))
      (pss_cons (ps_set (i := 11) sc_law.nd rfl (.inr rfl) (pe_ini D_Table_init (hr.mono (by decide)) (by rfl) (pa_cons (pe_ini D_Ladder_init (hr.mono (by decide)) (by rfl) (pa_cons (pe_ix ix_seq (pv 2) pe_int (fun _ _ => rfl)) (pa_cons (pe_ix ix_seq (pv 2) pe_int (fun _ _ => rfl)) (pa_cons (pe_not (pe_ix ix_seq (pv 2) pe_int (fun _ _ => rfl))) pa_nil)))) (pa_cons (pv 5) pa_nil))))
      (pss_cons (ps_for PassesOwn.never rfl (pi_list (pe_lst (pa_cons (pe_funX (k := 8) D_bill_of (by decide)) (pa_cons (pe_funX (k := 8) D_hidden_season (by decide)) pa_nil)))) (pg_name (i := 12) sc_law.nd rfl (.inr rfl))
        (pss_cons (ps_if (pt_not (pt_u (pe_lam (T := tabs Z) D_law_e_refused (hr.mono (by decide)) (by rfl) (pa_cons (pe_tup (pa_cons pe_str (pa_cons (pe_op op_sub pe_int pe_int) pa_nil))) pa_nil) B.b_law rfl (tabs_law Z) (tabu_law B) (LamX.lamS_by (sc := defScope st_law) (by decide +kernel)) rfl (fun _ _ _ _ _ => rfl) (fun A outer s H E f c' hr => (pe_callV (P := P) (w := w) (K := K) (mg := mg) (base := base) (k := 8) (i := 12) rfl rfl rfl rfl rfl (hr.mono (by decide)) (takes_of rfl rfl rfl rfl) (pa_cons (pe_ini D_Table_init (hr.mono (by decide)) (by rfl) (pa_cons (pv 4) (pa_cons (pv 3) pa_nil))) (pa_cons (pv 11) (pa_cons (pe_op op_sub pe_int pe_int) pa_nil))))) rfl rfl))) (pss_one (ps_ret pe_bl)) pss_nil)
      (pss_one (ps_if (pt_not (pt_u (pe_lam (T := tabs Z) D_law_e_refused (hr.mono (by decide)) (by rfl) (pa_cons (pe_tup (pa_cons pe_str (pa_cons pe_str pa_nil))) pa_nil) B.b_law rfl (tabs_law Z) (tabu_law B) (LamX.lamS_by (sc := defScope st_law) (by decide +kernel)) rfl (fun _ _ _ _ _ => rfl) (fun A outer s H E f c' hr => (pe_callV (P := P) (w := w) (K := K) (mg := mg) (base := base) (k := 8) (i := 12) rfl rfl rfl rfl rfl (hr.mono (by decide)) (takes_of rfl rfl rfl rfl) (pa_cons (pe_ini D_Table_init (hr.mono (by decide)) (by rfl) (pa_cons (pv 4) (pa_cons (pv 3) pa_nil))) (pa_cons (pe_ini D_Table_init (hr.mono (by decide)) (by rfl) (pa_cons (pv 4) (pa_cons (pv 5) pa_nil))) (pa_cons (pe_op op_sub pe_int pe_int) pa_nil))))) rfl rfl))) (pss_one (ps_ret pe_bl)) pss_nil))))
      (pss_one (ps_ret (pe_or (pe_cmpR op_gt (pe_dfn D_law_draw (hr.mono (by decide)) (by rfl) (pa_cons (pv 1) (pa_cons pe_int pa_nil))) pe_int (nomark _)) (pe_one (pe_dfn D_law_k31_long (hr.mono (by decide)) (by rfl) (pa_cons (pv 1) pa_nil))))))))))))))))))), ?_⟩
  try dsimp only [cxOf, Cx.nox, Cx.wish]
  show (_ : TS) _ [some _, none, none, none, none, none, none, none, none, none, none, none, none, none] _
  o_readsAll
  refine c_stock (at_ := 0) hS hns (by decide) fun st H1 f1 e1 s1 => ?_
  have T1 := hT.ext e1
  o_readsAll
  refine c_elad (lo := 1) (hi := 5) (wi := 3) (by decide) (by decide) (by decide) (by decide) (by decide) s1 fun p L n fs ret H2 fp s2 o2 hp nfl l2 l3 n1 n5 ok => ?_
  have np : st ≠ p := s1.ne fp
  have T2 := tabs_off T1 s1 o2
  obtain ⟨fl, hp1, hp2⟩ := hp
  have nf := nfl fl hp1
  have o : BOk L n fs := ⟨l2, by omega, by omega, by omega, ok⟩
  have hp2u := hp2
  unfold IL at hp2u
  o_readsAll
  rw [rng_len, Int.toNat_natCast]
  refine l_rngS (fun j x => 0 ≤ x ∧ x ≤ (if j = 0 then 8 else 3)) (fun x => rfl) s2 (by rw [sizeLine_eq]; omega) (fun D j l' H6 Q' hj hD hDs hl' hll s6 o6 hQ => ?_) fun fq first H3 ffq s3 o3 hfq hfb => ?_
  · o_readsAll
    refine br (fun h => ?_) (fun h => ?_)
    · o_readsAll
      refine c_draw (by decide) (by decide) s6 fun x H7 x0 x1 s7 o7 => ?_
      exact hQ x H7 ⟨x0, by rw [if_neg (by omega)]; omega⟩ s7 o7
    · o_readsAll
      refine c_draw (by decide) (by decide) s6 fun x H7 x0 x1 s7 o7 => ?_
      exact hQ x H7 ⟨x0, by rw [if_pos (by omega)]; omega⟩ s7 o7
  have T3 := tabs_off T2 s2 o3
  have nfq : st ≠ fq := s2.ne ffq
  have hp3 := o3 _ _ np.symm hp1
  have hf3 : IL H3 fl n fs := o3 _ _ nf.symm hp2
  have bf : Bnd n first 0 20 := first_bnd (by omega) (by omega) hfb
  have hf3u := hf3
  have hfqu := hfq
  unfold IL at hf3u hfqu
  clear T2 T1 o3 o2 hp1 hp2 hp2u nfl ffq s2 s1
  obtain ⟨u0, u1, u2, hst3⟩ := s3
  have s3 : Stk H3 st := ⟨u0, u1, u2, hst3⟩
  o_readsAll
  refine c_lmake hf3 l2 (by omega) (by omega) (by omega) ok fun l H4 fl4 e4 hl4 => ?_
  have nl : l ≠ st := (s3.ne fl4).symm
  have s4 := s3.same e4
  o_readsAll
  refine c_draw (by decide) (by decide) s4 fun y H5 y0 y1 s5 o5 => ?_
  obtain ⟨m, rfl⟩ : ∃ m : Nat, y = (m : Int) := ⟨y.toNat, by omega⟩
  have O5 : OffN st H3 H5 := ((OffN.refl _ _).same e4).off o5
  have T5 := tabs_off (T3.ext e4) s4 o5
  have hp5 := O5.lst np hp3
  have hf5 := O5.lst nf hf3u
  have hfq5 := O5.lst nfq hfqu
  have hl5 := hl4.offN hst3 nl ((OffN.refl _ _).off o5)
  clear o5 s4 e4 hl4 T3
  o_readsAll
  refine ⟨st, p, fq, fl, m, L, n, fs, first, ret, rfl, s5, hp5, (show IL H5 fl n fs from hf5), (show IL H5 fq n first from hfq5), np, nf, nfq, o, bf, by omega, fun q lq hq last h x H6 fq6 s6 o6 hq6 nlq nhq hlq hhq hbl bl hx => ?_⟩
  obtain ⟨v0, v1, v2, hst6⟩ := s6
  have s6 : Stk H6 st := ⟨v0, v1, v2, hst6⟩
  have T6 := tabs_off T5 s5 o6
  have hp6 := o6 _ _ np.symm hp5
  have hf6 := o6 _ _ nf.symm hf5
  have hfq6 := o6 _ _ nfq.symm hfq5
  have hl6 := hl5.offN hst3 nl ((OffN.refl _ _).off o6)
  have PA6 : PlA H6 p L n fs ret := ⟨fl, hp6, (show IL H6 fl n fs from hf6)⟩
  have hfi6 : IL H6 fq n first := hfq6
  have blu := bl.up (m' := 21) (by decide)
  have ak : AOk L n fs ret first last x := bf.aok o blu
  clear O5 o6 s5 hp5 hf5 hfq5 T5 hl5
  o_readsAll
  refine c_kbill PA6 hfi6 hlq o (fun i hi => (ak.fb i hi).2) (fun i hi => (ak.lb i hi).2) ak.xb fun bq H7 fbq e7 hbq => ?_
  o_readsAll
  have hbqi : SqL K H7 bq (((List.range n).map (bill L n fs first last x)).map V.int) := by rw [← rng_ints]; exact hbq.sq
  have hhqi : SqL K H7 hq (((List.range n).map h).map V.int) := by rw [← rng_ints]; exact (hhq.same e7).sq
  refine g_neIL hbqi hhqi ?_
  have hbe : ((List.range n).map (bill L n fs first last x)) = ((List.range n).map h) := List.map_congr_left fun a ha => (hbl a (List.mem_range.mp ha)).symm
  rw [decide_eq_true hbe]
  o_readsAll
  refine c_kask (hl6.at.same e7) (PA6.same e7) (hfi6.same e7) (hlq.same e7) ak fun H8 e8 => ?_
  have e68 := e7.trans e8
  o_readsAll
  refine c_tmake (hl6.at.same e68) (hfi6.same e68) (by omega) (fun i hi => (ak.fb i hi).1) fun t1 H9 ft1 e9 ht1 => ?_
  have e69 := e68.trans e9
  o_readsAll
  refine c_tmake (hl6.at.same e69) (hlq.same e69) (by omega) (fun i hi => (ak.lb i hi).1) fun t2 H10 ft2 e10 ht2 => ?_
  have e6a := e69.trans e10
  o_readsAll
  refine c_bof (ht1.same e10) ht2 o ak.fb ak.lb ak.x0 ak.xb fun q5 H11 fq5 e11 hq5 => ?_
  have e6b := e6a.trans e11
  have hhqb := hhq.same e6b
  have hq5' : IL H11 q5 n h := il_congr hq5 fun a ha => (hbl a ha).symm
  o_readsAll
  refine c_mat (alk_il (m := 1) hq5' hhqb (by omega)) fun H12 e12 => ?_
  have e6c := e6b.trans e12
  clear hq5 hq5' hhqb hhq hhqi hbqi hbq hbe ht1 ht2 e7 e8 e9 e10 e11 e12 e68 e69 e6a e6b
  have s12 := s6.same e6c
  have T12 := T6.ext e6c
  have hlq12 := hlq.same e6c
  have hp12 := e6c _ _ hp6
  have hf12 := e6c _ _ hf6
  have hfq12 := e6c _ _ hfq6
  have hl12 := hl6.same e6c
  have hst12 := e6c _ _ hst6
  clear e6c
  o_readsAll
  refine ⟨st, lq, x, n, last, rfl, s12, hlq12, nlq, by omega, by omega, bl, by omega, fun q1 g1 la1 x1 H13 fq1 fg1 s13 o13 hq1 hg1 b1 => ?_⟩
  have row1 : RowB st H13 n q1 := ⟨g1, la1, x1, hq1, hg1, b1, s12.ne fq1, s12.ne fg1⟩
  have T13 := tabs_off T12 s12 o13
  have hlq12u := hlq12
  unfold IL at hlq12u
  have hlq13 := o13 _ _ nlq.symm hlq12u
  o_readsAll
  refine ⟨st, lq, x, n, last, rfl, s13, hlq13, nlq, by omega, by omega, bl, by omega, fun q2 g2 la2 x2 H14 fq2 fg2 s14 o14 hq2 hg2 b2 => ?_⟩
  have row2 : RowB st H14 n q2 := ⟨g2, la2, x2, hq2, hg2, b2, s13.ne fq2, s13.ne fg2⟩
  have row1 := row1.off o14
  have T14 := tabs_off T13 s13 o14
  have O14 : OffN st H12 H14 := ((OffN.refl _ _).off o13).off o14
  have hlq14 : IL H14 lq n last := O14.lst nlq hlq12u
  have hfq14 : IL H14 fq n first := O14.lst nfq hfq12
  have hf14 : IL H14 fl n fs := O14.lst nf hf12
  have hp14 := O14.lst np hp12
  have hl14 := hl12.offN hst3 nl O14
  clear O14 o14 o13 hlq13 hlq12u hlq12 hfq12 hf12 hp12 hl12 hq1 hg1 b1 hq2 hg2 b2 T13 T12 s13 s12
  o_readsAll
  rename_i q3 H15 fq3 e15 hq3 q4 H16 fq4 e16 hq4 bq H17 fbq e17 hbq N9 hN9
  have e46 := e15.trans e16
  have row3 : RowB st H16 n q3 := ⟨lq, last, 0, e16 _ _ hq3, hlq14.same e46, ⟨blu.l0, blu.tot, by decide, by decide⟩, s14.ne fq3, nlq⟩
  have row4 : RowB st H16 n q4 := ⟨fq, first, 0, hq4, hfq14.same e46, bf.up (by decide), (s14.same e15).ne fq4, nfq⟩
  have row1 := row1.same e46
  have row2 := row2.same e46
  have s16 := s14.same e46
  have nbq : st ≠ bq := s16.ne fbq
  have hlq16 := hlq14.same e46
  have hfq16 := hfq14.same e46
  have hf16 := hf14.same e46
  have hp16 := e46 _ _ hp14
  have hl16 := hl14.same e46
  have T17 := (T14.ext e46).ext e17
  have s17 := s16.same e17
  clear e15 e16 e46 hq3 hq4 hl14 hp14 hf14 hfq14 hlq14 T14 s14 fq3 fq4
  refine c_kmade1 s17 (e17 _ _ hp16) (hf16.same e17) (hfq16.same e17) np nf nfq o bf fun v H18 s18 o18 hv => ?_
  have T18 := tabs_off T17 s17 o18
  have hbq18 := o18 _ _ nbq.symm hbq
  have o68 : Off st H16 H18 := (off_of e17).trans o18
  o_readsAll
  refine ⟨rfl, ?_⟩
  o_readsAll
  refine jnS (fun (σ' : L2.St) (H' : Hp) => ∃ qs : List Addr, σ' = [some (.ref a), some (.ref st), some (.ref p), some (.ref fq), some (.ref l), some (.ref lq), some (.ref hq), some (.int x), some (.ref bq), some v, none, none, none, none] ∧ Off st H16 H' ∧ Stk H' st ∧ LamX.Tabs (tabs Z) H' ∧ H' bq = some (.lst (qs.map V.ref)) ∧ qs.length ≤ 5 ∧ ∀ q, q ∈ qs → RowB st H' n q) ?_ (fun N2 hN2 => brB (fun hb => ?_) (fun hb => ?_))
  rotate_left
  · rcases hv with hv | ⟨q, rfl, hq⟩
    · rw [hv] at hb
      cases hb
    · have rq := fun w => hq bq _ w hbq
      o_readsAll
      have op : Off st H16 (upd H18 bq (.lst ([.ref q1, .ref q2, .ref q3, .ref q4] ++ [.ref q]))) := fun b u hb c => by rw [upd_ne (ne_of_none c fbq)]; exact o68 b u hb c
      refine ⟨[q1, q2, q3, q4, q], rfl, op, s18.put nbq, tabs_put T18 hbq18, upd_same, Nat.le_refl 5, fun z hz => ?_⟩
      have hz' : z = q1 ∨ z = q2 ∨ z = q3 ∨ z = q4 ∨ z = q := by simpa using hz
      rcases hz' with rfl | rfl | rfl | rfl | rfl
      · exact row1.off op
      · exact row2.off op
      · exact row3.off op
      · exact row4.off op
      · exact rq _
  · o_readsAll
    refine ⟨[q1, q2, q3, q4], rfl, o68, s18, T18, hbq18, Nat.le_succ 4, fun z hz => ?_⟩
    have hz' : z = q1 ∨ z = q2 ∨ z = q3 ∨ z = q4 := by simpa using hz
    rcases hz' with rfl | rfl | rfl | rfl
    · exact row1.off o68
    · exact row2.off o68
    · exact row3.off o68
    · exact row4.off o68
  clear hv hbq18 o68 T18 s18 o18 hbq e17 fbq s17 T17
  rintro σ' H19 ⟨qs, rfl, o19, s19, T19, hbq19, hqs5, hrows⟩
  have O19 : OffN st H16 H19 := (OffN.refl _ _).off o19
  have hlq19 := hlq16.offS nlq o19
  have hfq19 := hfq16.offS nfq o19
  have hf19 := hf16.offS nf o19
  have hp19 := O19.lst np hp16
  have hl19 := hl16.offN hst3 nl O19
  have PA19 : PlA H19 p L n fs ret := ⟨fl, hp19, hf19⟩
  clear O19 o19 hl16 hp16 hf16 hfq16 hlq16 s16 row1 row2 row3 row4 nbq
  o_readsAll
  refine f_lst (xs := qs.map V.ref) (fun i σ' H' => ∃ y : Option V, σ' = [some (.ref a), some (.ref st), some (.ref p), some (.ref fq), some (.ref l), some (.ref lq), some (.ref hq), some (.int x), some (.ref bq), some v, y, none, none, none] ∧ Same H19 H') ⟨_, rfl, Same.refl _⟩ ?_ ?_ ?_
  · rintro i σ' H' hi ⟨y, rfl, e⟩
    exact .of (e _ _ hbq19)
  · rintro i y' σ' H20 hy ⟨y, rfl, e20⟩
    rw [List.getElem?_map] at hy
    obtain ⟨q, hq, rfl⟩ := Option.map_eq_some_iff.mp hy
    obtain ⟨f', la, x', g1, g2, g3, _, _⟩ := (hrows q (List.mem_of_getElem? hq)).same e20
    o_readsAll
    refine c_kask (hl19.at.same e20) (PA19.same e20) (hfq19.same e20) g2 (bf.aok o g3) fun H21 e21 => ?_
    o_readsAll
    exact ⟨_, rfl, e20.trans e21⟩
  rintro σ' H20 ⟨y, rfl, e20⟩
  have s20 := s19.same e20
  have T20 := T19.ext e20
  have hlq20 := hlq19.same e20
  have hfq20 := hfq19.same e20
  have hf20 := hf19.same e20
  have hp20 := e20 _ _ hp19
  have hl20 := hl19.same e20
  clear e20 s19 T19 hlq19 hfq19 hf19 hp19 hl19 PA19 hrows hbq19
  have hf20u := hf20
  unfold IL at hf20u
  o_readsAll
  refine c_lmake (ret := !ret) hf20 l2 (by omega) (by omega) (by omega) ok fun lu H21 flu e21 hlu => ?_
  o_readsAll
  refine c_tmake hlu.at (hlq20.same e21) (by omega) (fun i hi => (ak.lb i hi).1) fun tu H22 ftu e22 htu => ?_
  have e02 := e21.trans e22
  have T22 := T20.ext e02
  o_readsAll
  refine i_fun fun fA hA => ?_
  o_readsAll
  refine i_fun fun fB hB => ?_
  o_readsAll
  rename_i aq H23 faq e23 haq
  have T23 := T22.ext e23
  have e03 := e02.trans e23
  have s23 := s20.same e03
  have hl23 := (hl20.same e03).at
  have hfq23 := hfq20.same e03
  have hlq23 := hlq20.same e03
  have htu23 := htu.same e23
  unfold IL at hfq23 hlq23
  clear e02 e03 e21 e22 e23 hlu htu hl20 hfq20 hlq20 hf20 hf20u hp20 T20 T22 s20
  refine f_lst (xs := [.ref fA, .ref fB]) (fun i σ' H' => ∃ z : Option V, σ' = [some (.ref a), some (.ref st), some (.ref p), some (.ref fq), some (.ref l), some (.ref lq), some (.ref hq), some (.int x), some (.ref bq), some v, y, some (.ref tu), z, none] ∧ LamX.ExtN H23 H' ∧ LamX.Tabs (tabs Z) H') ⟨_, rfl, LamX.ExtN.refl _, T23⟩ ?_ ?_ ?_
  · rintro i σ' H' hi ⟨z, rfl, e, _⟩
    exact .of (e _ _ haq (fun _ z => nomatch z))
  · rintro i y' σ' H24 hy ⟨z, rfl, e24, T24⟩
    obtain ⟨f0, sp0, rfl, hF, hR⟩ : ∃ (f0 : Addr) (sp0 : Sp), y' = .ref f0 ∧ FnV P w K mg base 8 f0 sp0 ∧ RefS Z L n fs first last ret sp0 := by
      match i with
      | 0 => cases hy; exact ⟨_, _, rfl, hA, ref_bof ak⟩
      | 1 => cases hy; exact ⟨_, _, rfl, hB, ref_hid ak⟩
      | i + 2 => cases hy
    o_readsAll
    refine i_lam2 T24 fun H25 e25 T25 c' hc' => ?_
    have x25 := e24.trans e25
    have hl25 := hl23.ext x25
    have htu25 := TabAt.ext htu23 x25
    have hfq25 : IL H25 fq n first := x25 _ _ hfq23 (fun _ z => nomatch z)
    o_readsAll
    rename_i du H26 fdu e26 hdu
    refine c_refused (v := .int _) err_BadTable trivial hdu (fun E1 Q1 h1 => ⟨e26 _ _ hc', ?_⟩) fun H27 e27 => ?_
    · refine i_callV rfl hF ?_
      o_readsAll
      refine c_tmake (hl25.same e26) (hfq25.same e26) (by omega) (fun i hi => (ak.fb i hi).1) fun t5 H28 ft5 e28 ht5 => ?_
      o_readsAll
      exact (hR t5 tu _ _ _ ht5).1 ((htu25.same e26).same e28) fun d H' _ e hd => h1 d H' (e28.trans e) hd
    · have T27 := (T25.ext e26).ext e27
      have x27 := (x25.trans (ext_of e26)).trans (ext_of e27)
      o_readsAll
      refine i_lam2 T27 fun H28 e28 T28 c2 hc2 => ?_
      have x28 := x27.trans e28
      have hl28 := hl23.ext x28
      have hfq28 : IL H28 fq n first := x28 _ _ hfq23 (fun _ z => nomatch z)
      have hlq28 : IL H28 lq n last := x28 _ _ hlq23 (fun _ z => nomatch z)
      o_readsAll
      rename_i du2 H29 fdu2 e29 hdu2
      refine c_refused (v := .str _) err_BadDemand trivial hdu2 (fun E1 Q1 h1 => ⟨e29 _ _ hc2, ?_⟩) fun H30 e30 => ?_
      · refine i_callV rfl hF ?_
        o_readsAll
        refine c_tmake (hl28.same e29) (hfq28.same e29) (by omega) (fun i hi => (ak.fb i hi).1) fun t5 H31 ft5 e31 ht5 => ?_
        o_readsAll
        refine c_tmake ((hl28.same e29).same e31) ((hlq28.same e29).same e31) (by omega) (fun i hi => (ak.lb i hi).1) fun t6 H32 ft6 e32 ht6 => ?_
        o_readsAll
        exact (hR t5 t6 _ _ _ (ht5.same e32)).2 ht6 fun d H' _ e hd => h1 d H' ((e31.trans e32).trans e) hd
      · o_readsAll
        exact ⟨_, rfl, (x28.trans (ext_of e29)).trans (ext_of e30), (T28.ext e29).ext e30⟩
  · rintro σ' H24 ⟨z, rfl, e24, T24⟩
    have s24 := s23.ext e24
    o_readsAll
    refine c_draw (by decide) (by decide) s24 fun d H25 d0 d1 s25 o25 => ?_
    have T25 := tabs_off T24 s24 o25
    o_readsAll
    refine br (fun h => ?_) (fun h => ?_)
    · exact k H25
    · o_readsAll
      exact ⟨st, rfl, s25, T25, k⟩
end
end L31

end
namespace L31
open PySem PySem.Spec PyProof.Rows L2 Rl Eg
/-- an error of its own class is caught -/
theorem exm_own {K : PySem.W.Frag} {C : Addr} (h1 : PySem.W.subIn K (.ref C) (.type "BaseException") = some true) (h2 : PySem.W.isClsIn K C = true) (h3 : PySem.W.typeIn K (.ref C) = some (.type "type")) (h4 : PySem.W.subIn K (.ref C) (.ref C) = some true) : PySem.W.exmOne K (.ref C) (.ref C) = some true := by
  have z : (PySem.W.clsIn K C).isSome = true := h2
  simp only [PySem.W.exmOne, PySem.W.kitCls, h1, h3, h4, z]
  rfl
theorem all_mk {l : PySem.W.OpenLaw} {w : World} {K : PySem.W.Frag} {h : Heap} {mg : Str → Option Value} {fa a_Table a_Ladder a_LIMITS a_TOLD a_TooMany a_BadLadder a_BadTable a_BadDemand a_WinsError a_BadText a_BadSeason a_BadCode a_BadEvent a_BadFoe a_BadPaper a_BadDisk a_BadDeed c_law_k31_long p_law_k31_long c_law p_law f_TooMany_init f_BadLadder_init f_BadTable_init f_BadDemand_init f_bound f_grown f_load_rows f_head_row f_worth_row f_wrong_count f_Table_init f_Table_ladder f_Table_counts f_Table_on f_Table_load f_Table_level f_Table_check_called f_Table_behind f_bill_of f_reached_counts f_next_rung f_hidden_season f_wrong_rung f_Ladder_init f_Ladder_same_as f_Ladder_lanes f_Ladder_rungs f_Ladder_falls f_Ladder_returns f_Ladder_check_rung f_Ladder_check_place f_Ladder_fall f_Ladder_load f_Ladder_weights f_law_e_named f_law_e_asked f_law_e_refused f_law_e_falls f_law_e_ladder f_law_e_low f_law_e_loads f_law_e_sum f_law_e_behind f_law_stock f_law_draw f_law_matches f_law_k31_season f_law_k31_bill f_law_k31_sums f_law_k31_thrifty f_law_k31_due f_law_k31_asked f_law_k31_bent f_law_k31_made f_law_k31_long f_law : Addr} (X : K.In h) (G : h.Ns mainGlobals mg) (hfa : mg "law" = some (.ref fa))
    {od_TooMany_init an_TooMany_init od_BadLadder_init an_BadLadder_init od_BadTable_init an_BadTable_init od_BadDemand_init an_BadDemand_init od_bound an_bound od_grown an_grown od_load_rows an_load_rows od_head_row an_head_row od_worth_row an_worth_row od_wrong_count an_wrong_count od_Table_init an_Table_init od_Table_ladder an_Table_ladder od_Table_counts an_Table_counts od_Table_on an_Table_on od_Table_load an_Table_load od_Table_level an_Table_level od_Table_check_called an_Table_check_called od_Table_behind an_Table_behind od_bill_of an_bill_of od_reached_counts an_reached_counts od_next_rung an_next_rung od_hidden_season an_hidden_season od_wrong_rung an_wrong_rung od_Ladder_init an_Ladder_init od_Ladder_same_as an_Ladder_same_as od_Ladder_lanes an_Ladder_lanes od_Ladder_rungs an_Ladder_rungs od_Ladder_falls an_Ladder_falls od_Ladder_returns an_Ladder_returns od_Ladder_check_rung an_Ladder_check_rung od_Ladder_check_place an_Ladder_check_place od_Ladder_fall an_Ladder_fall od_Ladder_load an_Ladder_load od_Ladder_weights an_Ladder_weights od_law_e_named an_law_e_named od_law_e_asked an_law_e_asked od_law_e_refused an_law_e_refused od_law_e_falls an_law_e_falls od_law_e_ladder an_law_e_ladder od_law_e_low an_law_e_low od_law_e_loads an_law_e_loads od_law_e_sum an_law_e_sum od_law_e_behind an_law_e_behind od_law_stock an_law_stock od_law_draw an_law_draw od_law_matches an_law_matches od_law_k31_season an_law_k31_season od_law_k31_bill an_law_k31_bill od_law_k31_sums an_law_k31_sums od_law_k31_thrifty an_law_k31_thrifty od_law_k31_due an_law_k31_due od_law_k31_asked an_law_k31_asked od_law_k31_bent an_law_k31_bent od_law_k31_made an_law_k31_made od_law_k31_long an_law_k31_long vo_law_k31_long od_law an_law vo_law : Option Addr}
    {sl_TooMany_init sl_BadLadder_init sl_BadTable_init sl_BadDemand_init sl_bound sl_grown sl_load_rows sl_head_row sl_worth_row sl_wrong_count sl_Table_init sl_Table_ladder sl_Table_counts sl_Table_on sl_Table_load sl_Table_level sl_Table_check_called sl_Table_behind sl_bill_of sl_reached_counts sl_next_rung sl_hidden_season sl_wrong_rung sl_Ladder_init sl_Ladder_same_as sl_Ladder_lanes sl_Ladder_rungs sl_Ladder_falls sl_Ladder_returns sl_Ladder_check_rung sl_Ladder_check_place sl_Ladder_fall sl_Ladder_load sl_Ladder_weights sl_law_e_named sl_law_e_asked sl_law_e_refused sl_law_e_falls sl_law_e_ladder sl_law_e_low sl_law_e_loads sl_law_e_sum sl_law_e_behind sl_law_stock sl_law_draw sl_law_matches sl_law_k31_season sl_law_k31_bill sl_law_k31_sums sl_law_k31_thrifty sl_law_k31_due sl_law_k31_asked sl_law_k31_bent sl_law_k31_made sl_law_k31_long vl_law_k31_long sl_law vl_law : Array (Option Value)}
    {oc_TooMany_init kV_TooMany_init dc_TooMany_init pm_TooMany_init cd_TooMany_init ct_TooMany_init oc_BadLadder_init kV_BadLadder_init dc_BadLadder_init pm_BadLadder_init cd_BadLadder_init ct_BadLadder_init oc_BadTable_init kV_BadTable_init dc_BadTable_init pm_BadTable_init cd_BadTable_init ct_BadTable_init oc_BadDemand_init kV_BadDemand_init dc_BadDemand_init pm_BadDemand_init cd_BadDemand_init ct_BadDemand_init oc_bound kV_bound dc_bound pm_bound cd_bound ct_bound oc_grown kV_grown dc_grown pm_grown cd_grown ct_grown oc_load_rows kV_load_rows dc_load_rows pm_load_rows cd_load_rows ct_load_rows oc_head_row kV_head_row dc_head_row pm_head_row cd_head_row ct_head_row oc_worth_row kV_worth_row dc_worth_row pm_worth_row cd_worth_row ct_worth_row oc_wrong_count kV_wrong_count dc_wrong_count pm_wrong_count cd_wrong_count ct_wrong_count oc_Table_init kV_Table_init dc_Table_init pm_Table_init cd_Table_init ct_Table_init oc_Table_ladder kV_Table_ladder dc_Table_ladder pm_Table_ladder cd_Table_ladder ct_Table_ladder oc_Table_counts kV_Table_counts dc_Table_counts pm_Table_counts cd_Table_counts ct_Table_counts oc_Table_on kV_Table_on dc_Table_on pm_Table_on cd_Table_on ct_Table_on oc_Table_load kV_Table_load dc_Table_load pm_Table_load cd_Table_load ct_Table_load oc_Table_level kV_Table_level dc_Table_level pm_Table_level cd_Table_level ct_Table_level oc_Table_check_called kV_Table_check_called dc_Table_check_called pm_Table_check_called cd_Table_check_called ct_Table_check_called oc_Table_behind kV_Table_behind dc_Table_behind pm_Table_behind cd_Table_behind ct_Table_behind oc_bill_of kV_bill_of dc_bill_of pm_bill_of cd_bill_of ct_bill_of oc_reached_counts kV_reached_counts dc_reached_counts pm_reached_counts cd_reached_counts ct_reached_counts oc_next_rung kV_next_rung dc_next_rung pm_next_rung cd_next_rung ct_next_rung oc_hidden_season kV_hidden_season dc_hidden_season pm_hidden_season cd_hidden_season ct_hidden_season oc_wrong_rung kV_wrong_rung dc_wrong_rung pm_wrong_rung cd_wrong_rung ct_wrong_rung oc_Ladder_init kV_Ladder_init dc_Ladder_init pm_Ladder_init cd_Ladder_init ct_Ladder_init oc_Ladder_same_as kV_Ladder_same_as dc_Ladder_same_as pm_Ladder_same_as cd_Ladder_same_as ct_Ladder_same_as oc_Ladder_lanes kV_Ladder_lanes dc_Ladder_lanes pm_Ladder_lanes cd_Ladder_lanes ct_Ladder_lanes oc_Ladder_rungs kV_Ladder_rungs dc_Ladder_rungs pm_Ladder_rungs cd_Ladder_rungs ct_Ladder_rungs oc_Ladder_falls kV_Ladder_falls dc_Ladder_falls pm_Ladder_falls cd_Ladder_falls ct_Ladder_falls oc_Ladder_returns kV_Ladder_returns dc_Ladder_returns pm_Ladder_returns cd_Ladder_returns ct_Ladder_returns oc_Ladder_check_rung kV_Ladder_check_rung dc_Ladder_check_rung pm_Ladder_check_rung cd_Ladder_check_rung ct_Ladder_check_rung oc_Ladder_check_place kV_Ladder_check_place dc_Ladder_check_place pm_Ladder_check_place cd_Ladder_check_place ct_Ladder_check_place oc_Ladder_fall kV_Ladder_fall dc_Ladder_fall pm_Ladder_fall cd_Ladder_fall ct_Ladder_fall oc_Ladder_load kV_Ladder_load dc_Ladder_load pm_Ladder_load cd_Ladder_load ct_Ladder_load oc_Ladder_weights kV_Ladder_weights dc_Ladder_weights pm_Ladder_weights cd_Ladder_weights ct_Ladder_weights oc_law_e_named kV_law_e_named dc_law_e_named pm_law_e_named cd_law_e_named ct_law_e_named oc_law_e_asked kV_law_e_asked dc_law_e_asked pm_law_e_asked cd_law_e_asked ct_law_e_asked oc_law_e_refused kV_law_e_refused dc_law_e_refused pm_law_e_refused cd_law_e_refused ct_law_e_refused oc_law_e_falls kV_law_e_falls dc_law_e_falls pm_law_e_falls cd_law_e_falls ct_law_e_falls oc_law_e_ladder kV_law_e_ladder dc_law_e_ladder pm_law_e_ladder cd_law_e_ladder ct_law_e_ladder oc_law_e_low kV_law_e_low dc_law_e_low pm_law_e_low cd_law_e_low ct_law_e_low oc_law_e_loads kV_law_e_loads dc_law_e_loads pm_law_e_loads cd_law_e_loads ct_law_e_loads oc_law_e_sum kV_law_e_sum dc_law_e_sum pm_law_e_sum cd_law_e_sum ct_law_e_sum oc_law_e_behind kV_law_e_behind dc_law_e_behind pm_law_e_behind cd_law_e_behind ct_law_e_behind oc_law_stock kV_law_stock dc_law_stock pm_law_stock cd_law_stock ct_law_stock oc_law_draw kV_law_draw dc_law_draw pm_law_draw cd_law_draw ct_law_draw oc_law_matches kV_law_matches dc_law_matches pm_law_matches cd_law_matches ct_law_matches oc_law_k31_season kV_law_k31_season dc_law_k31_season pm_law_k31_season cd_law_k31_season ct_law_k31_season oc_law_k31_bill kV_law_k31_bill dc_law_k31_bill pm_law_k31_bill cd_law_k31_bill ct_law_k31_bill oc_law_k31_sums kV_law_k31_sums dc_law_k31_sums pm_law_k31_sums cd_law_k31_sums ct_law_k31_sums oc_law_k31_thrifty kV_law_k31_thrifty dc_law_k31_thrifty pm_law_k31_thrifty cd_law_k31_thrifty ct_law_k31_thrifty oc_law_k31_due kV_law_k31_due dc_law_k31_due pm_law_k31_due cd_law_k31_due ct_law_k31_due oc_law_k31_asked kV_law_k31_asked dc_law_k31_asked pm_law_k31_asked cd_law_k31_asked ct_law_k31_asked oc_law_k31_bent kV_law_k31_bent dc_law_k31_bent pm_law_k31_bent cd_law_k31_bent ct_law_k31_bent oc_law_k31_made kV_law_k31_made dc_law_k31_made pm_law_k31_made cd_law_k31_made ct_law_k31_made oc_law_k31_long kV_law_k31_long dc_law_k31_long pm_law_k31_long ct_law_k31_long oc_law kV_law dc_law pm_law ct_law : Value}
    {vs_law_k31_long vs_law : Array Value}
    {t_LIMITS_lines t_LIMITS_words t_LIMITS_number t_LIMITS_depth t_LIMITS_blocks t_LIMITS_lanes t_LIMITS_rungs t_LIMITS_ways t_LIMITS_promises t_LIMITS_variables t_LIMITS_states t_LIMITS_rows t_LIMITS_events t_LIMITS_meetings t_LIMITS_housemeetings t_LIMITS_rounds t_LIMITS_late t_LIMITS_plan t_LIMITS_nodes t_LIMITS_players t_LIMITS_log t_LIMITS_signs t_OUT t_TOLD_blocks t_TOLD_states t_TOLD_housemeetings : Tok}
    {n_LIMITS n_TOLD : Nat}
    {nm_TooMany q_TooMany : Str} {N_TooMany : Addr} {bs_TooMany bm_TooMany : List Value} {sn_TooMany : List Str} {sub_TooMany : List Value} {ab_TooMany : Bool} {col_TooMany : Option Bool} {dd_TooMany : Option Addr} {k0_TooMany k1_TooMany k2_TooMany k3_TooMany k5_TooMany : Option Value}
    {nm_BadLadder q_BadLadder : Str} {N_BadLadder : Addr} {bs_BadLadder bm_BadLadder : List Value} {sn_BadLadder : List Str} {sub_BadLadder : List Value} {ab_BadLadder : Bool} {col_BadLadder : Option Bool} {dd_BadLadder : Option Addr} {k0_BadLadder k1_BadLadder k2_BadLadder k3_BadLadder k5_BadLadder : Option Value}
    {nm_BadTable q_BadTable : Str} {N_BadTable : Addr} {bs_BadTable bm_BadTable : List Value} {sn_BadTable : List Str} {sub_BadTable : List Value} {ab_BadTable : Bool} {col_BadTable : Option Bool} {dd_BadTable : Option Addr} {k0_BadTable k1_BadTable k2_BadTable k3_BadTable k5_BadTable : Option Value}
    {nm_BadDemand q_BadDemand : Str} {N_BadDemand : Addr} {bs_BadDemand bm_BadDemand : List Value} {sn_BadDemand : List Str} {sub_BadDemand : List Value} {ab_BadDemand : Bool} {col_BadDemand : Option Bool} {dd_BadDemand : Option Addr} {k0_BadDemand k1_BadDemand k2_BadDemand k3_BadDemand k5_BadDemand : Option Value}
    {e_LIMITS e_TOLD : Array DictEntry}
    (g_Table : PySem.W.nsIn K mainGlobals "Table" = some (some (.ref a_Table)))
    (pg_Table : PySem.W.plainGet K a_Table Str.empty = true)
    (hd_Table : PySem.W.hasDictIn K a_Table = true)
    (po_Table : PySem.W.plainOver K a_Table = true)
    (sa_Table : PySem.W.findIn K (.ref a_Table) "__setattr__" = some (some (.builtin "object.__setattr__")))
    (mk_Table : PySem.W.makesIn K a_Table = true)
    (kc_Table : PySem.W.keepIn K (.ref a_Table) = true)
    (g_Ladder : PySem.W.nsIn K mainGlobals "Ladder" = some (some (.ref a_Ladder)))
    (pg_Ladder : PySem.W.plainGet K a_Ladder Str.empty = true)
    (hd_Ladder : PySem.W.hasDictIn K a_Ladder = true)
    (po_Ladder : PySem.W.plainOver K a_Ladder = true)
    (sa_Ladder : PySem.W.findIn K (.ref a_Ladder) "__setattr__" = some (some (.builtin "object.__setattr__")))
    (mk_Ladder : PySem.W.makesIn K a_Ladder = true)
    (kc_Ladder : PySem.W.keepIn K (.ref a_Ladder) = true)
    (b_ValueError : PySem.W.nsIn K mainGlobals "ValueError" = some none)
    (b_abs : PySem.W.nsIn K mainGlobals "abs" = some none)
    (b_all : PySem.W.nsIn K mainGlobals "all" = some none)
    (b_bool : PySem.W.nsIn K mainGlobals "bool" = some none)
    (b_enumerate : PySem.W.nsIn K mainGlobals "enumerate" = some none)
    (b_int : PySem.W.nsIn K mainGlobals "int" = some none)
    (b_isinstance : PySem.W.nsIn K mainGlobals "isinstance" = some none)
    (b_len : PySem.W.nsIn K mainGlobals "len" = some none)
    (b_list : PySem.W.nsIn K mainGlobals "list" = some none)
    (b_max : PySem.W.nsIn K mainGlobals "max" = some none)
    (b_min : PySem.W.nsIn K mainGlobals "min" = some none)
    (b_range : PySem.W.nsIn K mainGlobals "range" = some none)
    (b_reversed : PySem.W.nsIn K mainGlobals "reversed" = some none)
    (b_str : PySem.W.nsIn K mainGlobals "str" = some none)
    (b_sum : PySem.W.nsIn K mainGlobals "sum" = some none)
    (b_tuple : PySem.W.nsIn K mainGlobals "tuple" = some none)
    (c_LIMITS : PySem.W.nsIn K mainGlobals "LIMITS" = some (some (.ref a_LIMITS)))
    (l_LIMITS : K.lookup a_LIMITS = some ⟨.type "dict", none, .dict e_LIMITS n_LIMITS, #[]⟩)
    (kl_LIMITS : PySem.W.KeysLit w.params (e_LIMITS).toList)
    (v_LIMITS_lines : PySem.W.nsIn K a_LIMITS "lines" = some (some (.int 300 t_LIMITS_lines)))
    (v_LIMITS_words : PySem.W.nsIn K a_LIMITS "words" = some (some (.int 60 t_LIMITS_words)))
    (v_LIMITS_number : PySem.W.nsIn K a_LIMITS "number" = some (some (.int 1000000000000000000000000000000 t_LIMITS_number)))
    (v_LIMITS_depth : PySem.W.nsIn K a_LIMITS "depth" = some (some (.int 20 t_LIMITS_depth)))
    (v_LIMITS_blocks : PySem.W.nsIn K a_LIMITS "blocks" = some (some (.int 12 t_LIMITS_blocks)))
    (v_LIMITS_lanes : PySem.W.nsIn K a_LIMITS "lanes" = some (some (.int 6 t_LIMITS_lanes)))
    (v_LIMITS_rungs : PySem.W.nsIn K a_LIMITS "rungs" = some (some (.int 40 t_LIMITS_rungs)))
    (v_LIMITS_ways : PySem.W.nsIn K a_LIMITS "ways" = some (some (.int 8 t_LIMITS_ways)))
    (v_LIMITS_promises : PySem.W.nsIn K a_LIMITS "promises" = some (some (.int 20 t_LIMITS_promises)))
    (v_LIMITS_variables : PySem.W.nsIn K a_LIMITS "variables" = some (some (.int 4 t_LIMITS_variables)))
    (v_LIMITS_states : PySem.W.nsIn K a_LIMITS "states" = some (some (.int 400 t_LIMITS_states)))
    (v_LIMITS_rows : PySem.W.nsIn K a_LIMITS "rows" = some (some (.int 600 t_LIMITS_rows)))
    (v_LIMITS_events : PySem.W.nsIn K a_LIMITS "events" = some (some (.int 3000 t_LIMITS_events)))
    (v_LIMITS_meetings : PySem.W.nsIn K a_LIMITS "meetings" = some (some (.int 3000 t_LIMITS_meetings)))
    (v_LIMITS_housemeetings : PySem.W.nsIn K a_LIMITS "housemeetings" = some (some (.int 400 t_LIMITS_housemeetings)))
    (v_LIMITS_rounds : PySem.W.nsIn K a_LIMITS "rounds" = some (some (.int 300 t_LIMITS_rounds)))
    (v_LIMITS_late : PySem.W.nsIn K a_LIMITS "late" = some (some (.int 6 t_LIMITS_late)))
    (v_LIMITS_plan : PySem.W.nsIn K a_LIMITS "plan" = some (some (.int 200 t_LIMITS_plan)))
    (v_LIMITS_nodes : PySem.W.nsIn K a_LIMITS "nodes" = some (some (.int 2000 t_LIMITS_nodes)))
    (v_LIMITS_players : PySem.W.nsIn K a_LIMITS "players" = some (some (.int 60 t_LIMITS_players)))
    (v_LIMITS_log : PySem.W.nsIn K a_LIMITS "log" = some (some (.int 2000 t_LIMITS_log)))
    (v_LIMITS_signs : PySem.W.nsIn K a_LIMITS "signs" = some (some (.int 2000 t_LIMITS_signs)))
    (c_OUT : PySem.W.nsIn K mainGlobals "OUT" = some (some (.int (-1) t_OUT)))
    (c_TOLD : PySem.W.nsIn K mainGlobals "TOLD" = some (some (.ref a_TOLD)))
    (l_TOLD : K.lookup a_TOLD = some ⟨.type "dict", none, .dict e_TOLD n_TOLD, #[]⟩)
    (kl_TOLD : PySem.W.KeysLit w.params (e_TOLD).toList)
    (v_TOLD_blocks : PySem.W.nsIn K a_TOLD "blocks" = some (some (.str "depth" t_TOLD_blocks)))
    (v_TOLD_states : PySem.W.nsIn K a_TOLD "states" = some (some (.str "variables" t_TOLD_states)))
    (v_TOLD_housemeetings : PySem.W.nsIn K a_TOLD "housemeetings" = some (some (.str "meetings" t_TOLD_housemeetings)))
    (n_Table_ladder_kept : PySem.W.findIn K (.ref a_Table) "ladder_kept" = some none)
    (n_Table_counts_list : PySem.W.findIn K (.ref a_Table) "counts_list" = some none)
    (n_Ladder_lanes_number : PySem.W.findIn K (.ref a_Ladder) "lanes_number" = some none)
    (n_Ladder_falls_list : PySem.W.findIn K (.ref a_Ladder) "falls_list" = some none)
    (n_Ladder_returns_kept : PySem.W.findIn K (.ref a_Ladder) "returns_kept" = some none)
    (n_Ladder_loads_table : PySem.W.findIn K (.ref a_Ladder) "loads_table" = some none)
    (n_Ladder_heads_list : PySem.W.findIn K (.ref a_Ladder) "heads_list" = some none)
    (n_Ladder_worths_list : PySem.W.findIn K (.ref a_Ladder) "worths_list" = some none)
    (g_TooMany : PySem.W.nsIn K mainGlobals "TooMany" = some (some (.ref a_TooMany)))
    (xl_TooMany : K.lookup a_TooMany = some (excClassObj nm_TooMany q_TooMany a_TooMany N_TooMany bs_TooMany bm_TooMany true sn_TooMany sub_TooMany ab_TooMany col_TooMany dd_TooMany k0_TooMany k1_TooMany k2_TooMany k3_TooMany k5_TooMany "ValueError.__new__"))
    (rv_TooMany : PySem.HandSPX.refsVE bm_TooMany = true)
    (sa_TooMany : PySem.W.findIn K (.ref a_TooMany) "__setattr__" = some (some (.builtin "object.__setattr__")))
    (ec_TooMany : PySem.W.subIn K (.ref a_TooMany) (.type "BaseException") = some true)
    (ty_TooMany : PySem.W.typeIn K (.ref a_TooMany) = some (.type "type"))
    (kc_TooMany : PySem.W.keepIn K (.ref a_TooMany) = true)
    (ga_TooMany : PySem.W.findIn K (.ref a_TooMany) "__getattribute__" = some (some (.builtin "BaseException.__getattribute__")))
    (gg_TooMany : PySem.W.findIn K (.ref a_TooMany) "__getattr__" = some none)
    (hd_TooMany : PySem.W.hasDictIn K a_TooMany = true)
    (ic_TooMany : PySem.W.isClsIn K a_TooMany = true)
    (ss_TooMany : PySem.W.subIn K (.ref a_TooMany) (.ref a_TooMany) = some true)
    (n_TooMany_what : PySem.W.findIn K (.ref a_TooMany) "what" = some none)
    (g_BadLadder : PySem.W.nsIn K mainGlobals "BadLadder" = some (some (.ref a_BadLadder)))
    (xl_BadLadder : K.lookup a_BadLadder = some (excClassObj nm_BadLadder q_BadLadder a_BadLadder N_BadLadder bs_BadLadder bm_BadLadder true sn_BadLadder sub_BadLadder ab_BadLadder col_BadLadder dd_BadLadder k0_BadLadder k1_BadLadder k2_BadLadder k3_BadLadder k5_BadLadder "ValueError.__new__"))
    (rv_BadLadder : PySem.HandSPX.refsVE bm_BadLadder = true)
    (sa_BadLadder : PySem.W.findIn K (.ref a_BadLadder) "__setattr__" = some (some (.builtin "object.__setattr__")))
    (ec_BadLadder : PySem.W.subIn K (.ref a_BadLadder) (.type "BaseException") = some true)
    (ty_BadLadder : PySem.W.typeIn K (.ref a_BadLadder) = some (.type "type"))
    (kc_BadLadder : PySem.W.keepIn K (.ref a_BadLadder) = true)
    (ga_BadLadder : PySem.W.findIn K (.ref a_BadLadder) "__getattribute__" = some (some (.builtin "BaseException.__getattribute__")))
    (gg_BadLadder : PySem.W.findIn K (.ref a_BadLadder) "__getattr__" = some none)
    (hd_BadLadder : PySem.W.hasDictIn K a_BadLadder = true)
    (ic_BadLadder : PySem.W.isClsIn K a_BadLadder = true)
    (ss_BadLadder : PySem.W.subIn K (.ref a_BadLadder) (.ref a_BadLadder) = some true)
    (n_BadLadder_rung : PySem.W.findIn K (.ref a_BadLadder) "rung" = some none)
    (g_BadTable : PySem.W.nsIn K mainGlobals "BadTable" = some (some (.ref a_BadTable)))
    (xl_BadTable : K.lookup a_BadTable = some (excClassObj nm_BadTable q_BadTable a_BadTable N_BadTable bs_BadTable bm_BadTable true sn_BadTable sub_BadTable ab_BadTable col_BadTable dd_BadTable k0_BadTable k1_BadTable k2_BadTable k3_BadTable k5_BadTable "ValueError.__new__"))
    (rv_BadTable : PySem.HandSPX.refsVE bm_BadTable = true)
    (sa_BadTable : PySem.W.findIn K (.ref a_BadTable) "__setattr__" = some (some (.builtin "object.__setattr__")))
    (ec_BadTable : PySem.W.subIn K (.ref a_BadTable) (.type "BaseException") = some true)
    (ty_BadTable : PySem.W.typeIn K (.ref a_BadTable) = some (.type "type"))
    (kc_BadTable : PySem.W.keepIn K (.ref a_BadTable) = true)
    (ga_BadTable : PySem.W.findIn K (.ref a_BadTable) "__getattribute__" = some (some (.builtin "BaseException.__getattribute__")))
    (gg_BadTable : PySem.W.findIn K (.ref a_BadTable) "__getattr__" = some none)
    (hd_BadTable : PySem.W.hasDictIn K a_BadTable = true)
    (ic_BadTable : PySem.W.isClsIn K a_BadTable = true)
    (ss_BadTable : PySem.W.subIn K (.ref a_BadTable) (.ref a_BadTable) = some true)
    (n_BadTable_rung : PySem.W.findIn K (.ref a_BadTable) "rung" = some none)
    (g_BadDemand : PySem.W.nsIn K mainGlobals "BadDemand" = some (some (.ref a_BadDemand)))
    (xl_BadDemand : K.lookup a_BadDemand = some (excClassObj nm_BadDemand q_BadDemand a_BadDemand N_BadDemand bs_BadDemand bm_BadDemand true sn_BadDemand sub_BadDemand ab_BadDemand col_BadDemand dd_BadDemand k0_BadDemand k1_BadDemand k2_BadDemand k3_BadDemand k5_BadDemand "ValueError.__new__"))
    (rv_BadDemand : PySem.HandSPX.refsVE bm_BadDemand = true)
    (sa_BadDemand : PySem.W.findIn K (.ref a_BadDemand) "__setattr__" = some (some (.builtin "object.__setattr__")))
    (ec_BadDemand : PySem.W.subIn K (.ref a_BadDemand) (.type "BaseException") = some true)
    (ty_BadDemand : PySem.W.typeIn K (.ref a_BadDemand) = some (.type "type"))
    (kc_BadDemand : PySem.W.keepIn K (.ref a_BadDemand) = true)
    (ga_BadDemand : PySem.W.findIn K (.ref a_BadDemand) "__getattribute__" = some (some (.builtin "BaseException.__getattribute__")))
    (gg_BadDemand : PySem.W.findIn K (.ref a_BadDemand) "__getattr__" = some none)
    (hd_BadDemand : PySem.W.hasDictIn K a_BadDemand = true)
    (ic_BadDemand : PySem.W.isClsIn K a_BadDemand = true)
    (ss_BadDemand : PySem.W.subIn K (.ref a_BadDemand) (.ref a_BadDemand) = some true)
    (n_BadDemand_what : PySem.W.findIn K (.ref a_BadDemand) "what" = some none)
    (g_WinsError : PySem.W.nsIn K mainGlobals "WinsError" = some (some (.ref a_WinsError)))
    (wg_WinsError : PySem.W.specialIn K (.ref a_WinsError) "__getattribute__" = some (some (.builtin "type.__getattribute__")))
    (wr_WinsError : PySem.W.readsIn K a_WinsError (.type "type") = true)
    (wv_WinsError : PySem.W.findCls K (.ref a_WinsError) (.type "type") "__init__" = some (.val (.builtin "ValueError.__init__")))
    (g_BadText : PySem.W.nsIn K mainGlobals "BadText" = some (some (.ref a_BadText)))
    (g_BadSeason : PySem.W.nsIn K mainGlobals "BadSeason" = some (some (.ref a_BadSeason)))
    (g_BadCode : PySem.W.nsIn K mainGlobals "BadCode" = some (some (.ref a_BadCode)))
    (g_BadEvent : PySem.W.nsIn K mainGlobals "BadEvent" = some (some (.ref a_BadEvent)))
    (g_BadFoe : PySem.W.nsIn K mainGlobals "BadFoe" = some (some (.ref a_BadFoe)))
    (g_BadPaper : PySem.W.nsIn K mainGlobals "BadPaper" = some (some (.ref a_BadPaper)))
    (g_BadDisk : PySem.W.nsIn K mainGlobals "BadDisk" = some (some (.ref a_BadDisk)))
    (g_BadDeed : PySem.W.nsIn K mainGlobals "BadDeed" = some (some (.ref a_BadDeed)))
    (xc_TooMany : PySem.W.findIn K (.ref a_TooMany) "__class__" = some (some (.builtin "object.__class__")))
    (xg_TooMany : PySem.W.specialIn K (.builtin "object.__class__") "__get__" = some (some (.builtin "getset_descriptor.__get__")))
    (xt_TooMany : PySem.W.takesIn K (.builtin "object.__class__") = some true)
    (xm_TooMany : PySem.W.mroIn K a_TooMany (.type "object") = some true)
    (ki_TooMany_TooMany : PySem.W.kitOne K (.ref a_TooMany) (.ref a_TooMany) = some true)
    (ki_TooMany_BadLadder : PySem.W.kitOne K (.ref a_TooMany) (.ref a_BadLadder) = some false)
    (ki_TooMany_BadTable : PySem.W.kitOne K (.ref a_TooMany) (.ref a_BadTable) = some false)
    (ki_TooMany_BadDemand : PySem.W.kitOne K (.ref a_TooMany) (.ref a_BadDemand) = some false)
    (ki_TooMany_ValueError : PySem.W.kitOne K (.ref a_TooMany) (.type "ValueError") = some true)
    (ka_TooMany_0 : PySem.W.kitAny K (.ref a_TooMany) [.ref a_BadText, .ref a_BadSeason, .ref a_BadCode, .ref a_BadEvent, .ref a_BadFoe, .ref a_BadPaper, .ref a_BadDisk, .ref a_BadDeed] = some false)
    (mm_TooMany_WinsError : PySem.W.exmOne K (.ref a_TooMany) (.ref a_WinsError) = some true)
    (xc_BadLadder : PySem.W.findIn K (.ref a_BadLadder) "__class__" = some (some (.builtin "object.__class__")))
    (xg_BadLadder : PySem.W.specialIn K (.builtin "object.__class__") "__get__" = some (some (.builtin "getset_descriptor.__get__")))
    (xt_BadLadder : PySem.W.takesIn K (.builtin "object.__class__") = some true)
    (xm_BadLadder : PySem.W.mroIn K a_BadLadder (.type "object") = some true)
    (ki_BadLadder_TooMany : PySem.W.kitOne K (.ref a_BadLadder) (.ref a_TooMany) = some false)
    (ki_BadLadder_BadLadder : PySem.W.kitOne K (.ref a_BadLadder) (.ref a_BadLadder) = some true)
    (ki_BadLadder_BadTable : PySem.W.kitOne K (.ref a_BadLadder) (.ref a_BadTable) = some false)
    (ki_BadLadder_BadDemand : PySem.W.kitOne K (.ref a_BadLadder) (.ref a_BadDemand) = some false)
    (ki_BadLadder_ValueError : PySem.W.kitOne K (.ref a_BadLadder) (.type "ValueError") = some true)
    (ka_BadLadder_0 : PySem.W.kitAny K (.ref a_BadLadder) [.ref a_BadText, .ref a_BadSeason, .ref a_BadCode, .ref a_BadEvent, .ref a_BadFoe, .ref a_BadPaper, .ref a_BadDisk, .ref a_BadDeed] = some false)
    (mm_BadLadder_WinsError : PySem.W.exmOne K (.ref a_BadLadder) (.ref a_WinsError) = some true)
    (xc_BadTable : PySem.W.findIn K (.ref a_BadTable) "__class__" = some (some (.builtin "object.__class__")))
    (xg_BadTable : PySem.W.specialIn K (.builtin "object.__class__") "__get__" = some (some (.builtin "getset_descriptor.__get__")))
    (xt_BadTable : PySem.W.takesIn K (.builtin "object.__class__") = some true)
    (xm_BadTable : PySem.W.mroIn K a_BadTable (.type "object") = some true)
    (ki_BadTable_TooMany : PySem.W.kitOne K (.ref a_BadTable) (.ref a_TooMany) = some false)
    (ki_BadTable_BadLadder : PySem.W.kitOne K (.ref a_BadTable) (.ref a_BadLadder) = some false)
    (ki_BadTable_BadTable : PySem.W.kitOne K (.ref a_BadTable) (.ref a_BadTable) = some true)
    (ki_BadTable_BadDemand : PySem.W.kitOne K (.ref a_BadTable) (.ref a_BadDemand) = some false)
    (ki_BadTable_ValueError : PySem.W.kitOne K (.ref a_BadTable) (.type "ValueError") = some true)
    (ka_BadTable_0 : PySem.W.kitAny K (.ref a_BadTable) [.ref a_BadText, .ref a_BadSeason, .ref a_BadCode, .ref a_BadEvent, .ref a_BadFoe, .ref a_BadPaper, .ref a_BadDisk, .ref a_BadDeed] = some false)
    (mm_BadTable_WinsError : PySem.W.exmOne K (.ref a_BadTable) (.ref a_WinsError) = some true)
    (xc_BadDemand : PySem.W.findIn K (.ref a_BadDemand) "__class__" = some (some (.builtin "object.__class__")))
    (xg_BadDemand : PySem.W.specialIn K (.builtin "object.__class__") "__get__" = some (some (.builtin "getset_descriptor.__get__")))
    (xt_BadDemand : PySem.W.takesIn K (.builtin "object.__class__") = some true)
    (xm_BadDemand : PySem.W.mroIn K a_BadDemand (.type "object") = some true)
    (ki_BadDemand_TooMany : PySem.W.kitOne K (.ref a_BadDemand) (.ref a_TooMany) = some false)
    (ki_BadDemand_BadLadder : PySem.W.kitOne K (.ref a_BadDemand) (.ref a_BadLadder) = some false)
    (ki_BadDemand_BadTable : PySem.W.kitOne K (.ref a_BadDemand) (.ref a_BadTable) = some false)
    (ki_BadDemand_BadDemand : PySem.W.kitOne K (.ref a_BadDemand) (.ref a_BadDemand) = some true)
    (ki_BadDemand_ValueError : PySem.W.kitOne K (.ref a_BadDemand) (.type "ValueError") = some true)
    (ka_BadDemand_0 : PySem.W.kitAny K (.ref a_BadDemand) [.ref a_BadText, .ref a_BadSeason, .ref a_BadCode, .ref a_BadEvent, .ref a_BadFoe, .ref a_BadPaper, .ref a_BadDisk, .ref a_BadDeed] = some false)
    (mm_BadDemand_WinsError : PySem.W.exmOne K (.ref a_BadDemand) (.ref a_WinsError) = some true)
    (at_TooMany_init : PySem.W.findIn K (.ref a_TooMany) "__init__" = some (some (.ref f_TooMany_init)))
    (tf_TooMany_init : PySem.W.typeIn K (.ref f_TooMany_init) = some (.type "function"))
    (lk_TooMany_init : K.lookup f_TooMany_init = some ⟨oc_TooMany_init, od_TooMany_init, .func (PySem.W.fnOf "__init__" "TooMany.__init__" (defArgs st_TooMany_init) (defBody st_TooMany_init) (defScope st_TooMany_init) .none kV_TooMany_init dc_TooMany_init pm_TooMany_init an_TooMany_init cd_TooMany_init ct_TooMany_init), sl_TooMany_init⟩)
    (co_TooMany_init : PySem.W.codeIn K cd_TooMany_init "TooMany.__init__" = true)
    (kp_TooMany_init : PySem.W.keepIn K (.ref f_TooMany_init) = true)
    (at_BadLadder_init : PySem.W.findIn K (.ref a_BadLadder) "__init__" = some (some (.ref f_BadLadder_init)))
    (tf_BadLadder_init : PySem.W.typeIn K (.ref f_BadLadder_init) = some (.type "function"))
    (lk_BadLadder_init : K.lookup f_BadLadder_init = some ⟨oc_BadLadder_init, od_BadLadder_init, .func (PySem.W.fnOf "__init__" "BadLadder.__init__" (defArgs st_BadLadder_init) (defBody st_BadLadder_init) (defScope st_BadLadder_init) .none kV_BadLadder_init dc_BadLadder_init pm_BadLadder_init an_BadLadder_init cd_BadLadder_init ct_BadLadder_init), sl_BadLadder_init⟩)
    (co_BadLadder_init : PySem.W.codeIn K cd_BadLadder_init "BadLadder.__init__" = true)
    (kp_BadLadder_init : PySem.W.keepIn K (.ref f_BadLadder_init) = true)
    (at_BadTable_init : PySem.W.findIn K (.ref a_BadTable) "__init__" = some (some (.ref f_BadTable_init)))
    (tf_BadTable_init : PySem.W.typeIn K (.ref f_BadTable_init) = some (.type "function"))
    (lk_BadTable_init : K.lookup f_BadTable_init = some ⟨oc_BadTable_init, od_BadTable_init, .func (PySem.W.fnOf "__init__" "BadTable.__init__" (defArgs st_BadTable_init) (defBody st_BadTable_init) (defScope st_BadTable_init) .none kV_BadTable_init dc_BadTable_init pm_BadTable_init an_BadTable_init cd_BadTable_init ct_BadTable_init), sl_BadTable_init⟩)
    (co_BadTable_init : PySem.W.codeIn K cd_BadTable_init "BadTable.__init__" = true)
    (kp_BadTable_init : PySem.W.keepIn K (.ref f_BadTable_init) = true)
    (at_BadDemand_init : PySem.W.findIn K (.ref a_BadDemand) "__init__" = some (some (.ref f_BadDemand_init)))
    (tf_BadDemand_init : PySem.W.typeIn K (.ref f_BadDemand_init) = some (.type "function"))
    (lk_BadDemand_init : K.lookup f_BadDemand_init = some ⟨oc_BadDemand_init, od_BadDemand_init, .func (PySem.W.fnOf "__init__" "BadDemand.__init__" (defArgs st_BadDemand_init) (defBody st_BadDemand_init) (defScope st_BadDemand_init) .none kV_BadDemand_init dc_BadDemand_init pm_BadDemand_init an_BadDemand_init cd_BadDemand_init ct_BadDemand_init), sl_BadDemand_init⟩)
    (co_BadDemand_init : PySem.W.codeIn K cd_BadDemand_init "BadDemand.__init__" = true)
    (kp_BadDemand_init : PySem.W.keepIn K (.ref f_BadDemand_init) = true)
    (at_bound : PySem.W.nsIn K mainGlobals "bound" = some (some (.ref f_bound)))
    (lk_bound : K.lookup f_bound = some ⟨oc_bound, od_bound, .func (PySem.W.fnOf "bound" "bound" (defArgs st_bound) (defBody st_bound) (defScope st_bound) .none kV_bound dc_bound pm_bound an_bound cd_bound ct_bound), sl_bound⟩)
    (co_bound : PySem.W.codeIn K cd_bound "bound" = true)
    (kp_bound : PySem.W.keepIn K (.ref f_bound) = true)
    (at_grown : PySem.W.nsIn K mainGlobals "grown" = some (some (.ref f_grown)))
    (lk_grown : K.lookup f_grown = some ⟨oc_grown, od_grown, .func (PySem.W.fnOf "grown" "grown" (defArgs st_grown) (defBody st_grown) (defScope st_grown) .none kV_grown dc_grown pm_grown an_grown cd_grown ct_grown), sl_grown⟩)
    (co_grown : PySem.W.codeIn K cd_grown "grown" = true)
    (kp_grown : PySem.W.keepIn K (.ref f_grown) = true)
    (at_load_rows : PySem.W.nsIn K mainGlobals "load_rows" = some (some (.ref f_load_rows)))
    (lk_load_rows : K.lookup f_load_rows = some ⟨oc_load_rows, od_load_rows, .func (PySem.W.fnOf "load_rows" "load_rows" (defArgs st_load_rows) (defBody st_load_rows) (defScope st_load_rows) .none kV_load_rows dc_load_rows pm_load_rows an_load_rows cd_load_rows ct_load_rows), sl_load_rows⟩)
    (co_load_rows : PySem.W.codeIn K cd_load_rows "load_rows" = true)
    (kp_load_rows : PySem.W.keepIn K (.ref f_load_rows) = true)
    (at_head_row : PySem.W.nsIn K mainGlobals "head_row" = some (some (.ref f_head_row)))
    (lk_head_row : K.lookup f_head_row = some ⟨oc_head_row, od_head_row, .func (PySem.W.fnOf "head_row" "head_row" (defArgs st_head_row) (defBody st_head_row) (defScope st_head_row) .none kV_head_row dc_head_row pm_head_row an_head_row cd_head_row ct_head_row), sl_head_row⟩)
    (co_head_row : PySem.W.codeIn K cd_head_row "head_row" = true)
    (kp_head_row : PySem.W.keepIn K (.ref f_head_row) = true)
    (at_worth_row : PySem.W.nsIn K mainGlobals "worth_row" = some (some (.ref f_worth_row)))
    (lk_worth_row : K.lookup f_worth_row = some ⟨oc_worth_row, od_worth_row, .func (PySem.W.fnOf "worth_row" "worth_row" (defArgs st_worth_row) (defBody st_worth_row) (defScope st_worth_row) .none kV_worth_row dc_worth_row pm_worth_row an_worth_row cd_worth_row ct_worth_row), sl_worth_row⟩)
    (co_worth_row : PySem.W.codeIn K cd_worth_row "worth_row" = true)
    (kp_worth_row : PySem.W.keepIn K (.ref f_worth_row) = true)
    (at_wrong_count : PySem.W.nsIn K mainGlobals "wrong_count" = some (some (.ref f_wrong_count)))
    (lk_wrong_count : K.lookup f_wrong_count = some ⟨oc_wrong_count, od_wrong_count, .func (PySem.W.fnOf "wrong_count" "wrong_count" (defArgs st_wrong_count) (defBody st_wrong_count) (defScope st_wrong_count) .none kV_wrong_count dc_wrong_count pm_wrong_count an_wrong_count cd_wrong_count ct_wrong_count), sl_wrong_count⟩)
    (co_wrong_count : PySem.W.codeIn K cd_wrong_count "wrong_count" = true)
    (kp_wrong_count : PySem.W.keepIn K (.ref f_wrong_count) = true)
    (at_Table_init : PySem.W.findIn K (.ref a_Table) "__init__" = some (some (.ref f_Table_init)))
    (fn_Table_init : PySem.W.isFn K (.ref f_Table_init) = true)
    (lk_Table_init : K.lookup f_Table_init = some ⟨oc_Table_init, od_Table_init, .func (PySem.W.fnOf "__init__" "Table.__init__" (defArgs st_Table_init) (defBody st_Table_init) (defScope st_Table_init) .none kV_Table_init dc_Table_init pm_Table_init an_Table_init cd_Table_init ct_Table_init), sl_Table_init⟩)
    (co_Table_init : PySem.W.codeIn K cd_Table_init "Table.__init__" = true)
    (kp_Table_init : PySem.W.keepIn K (.ref f_Table_init) = true)
    (at_Table_ladder : PySem.W.findIn K (.ref a_Table) "ladder" = some (some (.ref f_Table_ladder)))
    (fn_Table_ladder : PySem.W.isFn K (.ref f_Table_ladder) = true)
    (lk_Table_ladder : K.lookup f_Table_ladder = some ⟨oc_Table_ladder, od_Table_ladder, .func (PySem.W.fnOf "ladder" "Table.ladder" (defArgs st_Table_ladder) (defBody st_Table_ladder) (defScope st_Table_ladder) .none kV_Table_ladder dc_Table_ladder pm_Table_ladder an_Table_ladder cd_Table_ladder ct_Table_ladder), sl_Table_ladder⟩)
    (co_Table_ladder : PySem.W.codeIn K cd_Table_ladder "Table.ladder" = true)
    (kp_Table_ladder : PySem.W.keepIn K (.ref f_Table_ladder) = true)
    (at_Table_counts : PySem.W.findIn K (.ref a_Table) "counts" = some (some (.ref f_Table_counts)))
    (fn_Table_counts : PySem.W.isFn K (.ref f_Table_counts) = true)
    (lk_Table_counts : K.lookup f_Table_counts = some ⟨oc_Table_counts, od_Table_counts, .func (PySem.W.fnOf "counts" "Table.counts" (defArgs st_Table_counts) (defBody st_Table_counts) (defScope st_Table_counts) .none kV_Table_counts dc_Table_counts pm_Table_counts an_Table_counts cd_Table_counts ct_Table_counts), sl_Table_counts⟩)
    (co_Table_counts : PySem.W.codeIn K cd_Table_counts "Table.counts" = true)
    (kp_Table_counts : PySem.W.keepIn K (.ref f_Table_counts) = true)
    (at_Table_on : PySem.W.findIn K (.ref a_Table) "on" = some (some (.ref f_Table_on)))
    (fn_Table_on : PySem.W.isFn K (.ref f_Table_on) = true)
    (lk_Table_on : K.lookup f_Table_on = some ⟨oc_Table_on, od_Table_on, .func (PySem.W.fnOf "on" "Table.on" (defArgs st_Table_on) (defBody st_Table_on) (defScope st_Table_on) .none kV_Table_on dc_Table_on pm_Table_on an_Table_on cd_Table_on ct_Table_on), sl_Table_on⟩)
    (co_Table_on : PySem.W.codeIn K cd_Table_on "Table.on" = true)
    (kp_Table_on : PySem.W.keepIn K (.ref f_Table_on) = true)
    (at_Table_load : PySem.W.findIn K (.ref a_Table) "load" = some (some (.ref f_Table_load)))
    (fn_Table_load : PySem.W.isFn K (.ref f_Table_load) = true)
    (lk_Table_load : K.lookup f_Table_load = some ⟨oc_Table_load, od_Table_load, .func (PySem.W.fnOf "load" "Table.load" (defArgs st_Table_load) (defBody st_Table_load) (defScope st_Table_load) .none kV_Table_load dc_Table_load pm_Table_load an_Table_load cd_Table_load ct_Table_load), sl_Table_load⟩)
    (co_Table_load : PySem.W.codeIn K cd_Table_load "Table.load" = true)
    (kp_Table_load : PySem.W.keepIn K (.ref f_Table_load) = true)
    (at_Table_level : PySem.W.findIn K (.ref a_Table) "level" = some (some (.ref f_Table_level)))
    (fn_Table_level : PySem.W.isFn K (.ref f_Table_level) = true)
    (lk_Table_level : K.lookup f_Table_level = some ⟨oc_Table_level, od_Table_level, .func (PySem.W.fnOf "level" "Table.level" (defArgs st_Table_level) (defBody st_Table_level) (defScope st_Table_level) .none kV_Table_level dc_Table_level pm_Table_level an_Table_level cd_Table_level ct_Table_level), sl_Table_level⟩)
    (co_Table_level : PySem.W.codeIn K cd_Table_level "Table.level" = true)
    (kp_Table_level : PySem.W.keepIn K (.ref f_Table_level) = true)
    (at_Table_check_called : PySem.W.findIn K (.ref a_Table) "check_called" = some (some (.ref f_Table_check_called)))
    (fn_Table_check_called : PySem.W.isFn K (.ref f_Table_check_called) = true)
    (lk_Table_check_called : K.lookup f_Table_check_called = some ⟨oc_Table_check_called, od_Table_check_called, .func (PySem.W.fnOf "check_called" "Table.check_called" (defArgs st_Table_check_called) (defBody st_Table_check_called) (defScope st_Table_check_called) .none kV_Table_check_called dc_Table_check_called pm_Table_check_called an_Table_check_called cd_Table_check_called ct_Table_check_called), sl_Table_check_called⟩)
    (co_Table_check_called : PySem.W.codeIn K cd_Table_check_called "Table.check_called" = true)
    (kp_Table_check_called : PySem.W.keepIn K (.ref f_Table_check_called) = true)
    (at_Table_behind : PySem.W.findIn K (.ref a_Table) "behind" = some (some (.ref f_Table_behind)))
    (fn_Table_behind : PySem.W.isFn K (.ref f_Table_behind) = true)
    (lk_Table_behind : K.lookup f_Table_behind = some ⟨oc_Table_behind, od_Table_behind, .func (PySem.W.fnOf "behind" "Table.behind" (defArgs st_Table_behind) (defBody st_Table_behind) (defScope st_Table_behind) .none kV_Table_behind dc_Table_behind pm_Table_behind an_Table_behind cd_Table_behind ct_Table_behind), sl_Table_behind⟩)
    (co_Table_behind : PySem.W.codeIn K cd_Table_behind "Table.behind" = true)
    (kp_Table_behind : PySem.W.keepIn K (.ref f_Table_behind) = true)
    (at_bill_of : PySem.W.nsIn K mainGlobals "bill_of" = some (some (.ref f_bill_of)))
    (lk_bill_of : K.lookup f_bill_of = some ⟨oc_bill_of, od_bill_of, .func (PySem.W.fnOf "bill_of" "bill_of" (defArgs st_bill_of) (defBody st_bill_of) (defScope st_bill_of) .none kV_bill_of dc_bill_of pm_bill_of an_bill_of cd_bill_of ct_bill_of), sl_bill_of⟩)
    (co_bill_of : PySem.W.codeIn K cd_bill_of "bill_of" = true)
    (kp_bill_of : PySem.W.keepIn K (.ref f_bill_of) = true)
    (at_reached_counts : PySem.W.nsIn K mainGlobals "reached_counts" = some (some (.ref f_reached_counts)))
    (lk_reached_counts : K.lookup f_reached_counts = some ⟨oc_reached_counts, od_reached_counts, .func (PySem.W.fnOf "reached_counts" "reached_counts" (defArgs st_reached_counts) (defBody st_reached_counts) (defScope st_reached_counts) .none kV_reached_counts dc_reached_counts pm_reached_counts an_reached_counts cd_reached_counts ct_reached_counts), sl_reached_counts⟩)
    (co_reached_counts : PySem.W.codeIn K cd_reached_counts "reached_counts" = true)
    (kp_reached_counts : PySem.W.keepIn K (.ref f_reached_counts) = true)
    (at_next_rung : PySem.W.nsIn K mainGlobals "next_rung" = some (some (.ref f_next_rung)))
    (lk_next_rung : K.lookup f_next_rung = some ⟨oc_next_rung, od_next_rung, .func (PySem.W.fnOf "next_rung" "next_rung" (defArgs st_next_rung) (defBody st_next_rung) (defScope st_next_rung) .none kV_next_rung dc_next_rung pm_next_rung an_next_rung cd_next_rung ct_next_rung), sl_next_rung⟩)
    (co_next_rung : PySem.W.codeIn K cd_next_rung "next_rung" = true)
    (kp_next_rung : PySem.W.keepIn K (.ref f_next_rung) = true)
    (at_hidden_season : PySem.W.nsIn K mainGlobals "hidden_season" = some (some (.ref f_hidden_season)))
    (lk_hidden_season : K.lookup f_hidden_season = some ⟨oc_hidden_season, od_hidden_season, .func (PySem.W.fnOf "hidden_season" "hidden_season" (defArgs st_hidden_season) (defBody st_hidden_season) (defScope st_hidden_season) .none kV_hidden_season dc_hidden_season pm_hidden_season an_hidden_season cd_hidden_season ct_hidden_season), sl_hidden_season⟩)
    (co_hidden_season : PySem.W.codeIn K cd_hidden_season "hidden_season" = true)
    (kp_hidden_season : PySem.W.keepIn K (.ref f_hidden_season) = true)
    (at_wrong_rung : PySem.W.nsIn K mainGlobals "wrong_rung" = some (some (.ref f_wrong_rung)))
    (lk_wrong_rung : K.lookup f_wrong_rung = some ⟨oc_wrong_rung, od_wrong_rung, .func (PySem.W.fnOf "wrong_rung" "wrong_rung" (defArgs st_wrong_rung) (defBody st_wrong_rung) (defScope st_wrong_rung) .none kV_wrong_rung dc_wrong_rung pm_wrong_rung an_wrong_rung cd_wrong_rung ct_wrong_rung), sl_wrong_rung⟩)
    (co_wrong_rung : PySem.W.codeIn K cd_wrong_rung "wrong_rung" = true)
    (kp_wrong_rung : PySem.W.keepIn K (.ref f_wrong_rung) = true)
    (at_Ladder_init : PySem.W.findIn K (.ref a_Ladder) "__init__" = some (some (.ref f_Ladder_init)))
    (fn_Ladder_init : PySem.W.isFn K (.ref f_Ladder_init) = true)
    (lk_Ladder_init : K.lookup f_Ladder_init = some ⟨oc_Ladder_init, od_Ladder_init, .func (PySem.W.fnOf "__init__" "Ladder.__init__" (defArgs st_Ladder_init) (defBody st_Ladder_init) (defScope st_Ladder_init) .none kV_Ladder_init dc_Ladder_init pm_Ladder_init an_Ladder_init cd_Ladder_init ct_Ladder_init), sl_Ladder_init⟩)
    (co_Ladder_init : PySem.W.codeIn K cd_Ladder_init "Ladder.__init__" = true)
    (kp_Ladder_init : PySem.W.keepIn K (.ref f_Ladder_init) = true)
    (at_Ladder_same_as : PySem.W.findIn K (.ref a_Ladder) "same_as" = some (some (.ref f_Ladder_same_as)))
    (fn_Ladder_same_as : PySem.W.isFn K (.ref f_Ladder_same_as) = true)
    (lk_Ladder_same_as : K.lookup f_Ladder_same_as = some ⟨oc_Ladder_same_as, od_Ladder_same_as, .func (PySem.W.fnOf "same_as" "Ladder.same_as" (defArgs st_Ladder_same_as) (defBody st_Ladder_same_as) (defScope st_Ladder_same_as) .none kV_Ladder_same_as dc_Ladder_same_as pm_Ladder_same_as an_Ladder_same_as cd_Ladder_same_as ct_Ladder_same_as), sl_Ladder_same_as⟩)
    (co_Ladder_same_as : PySem.W.codeIn K cd_Ladder_same_as "Ladder.same_as" = true)
    (kp_Ladder_same_as : PySem.W.keepIn K (.ref f_Ladder_same_as) = true)
    (at_Ladder_lanes : PySem.W.findIn K (.ref a_Ladder) "lanes" = some (some (.ref f_Ladder_lanes)))
    (fn_Ladder_lanes : PySem.W.isFn K (.ref f_Ladder_lanes) = true)
    (lk_Ladder_lanes : K.lookup f_Ladder_lanes = some ⟨oc_Ladder_lanes, od_Ladder_lanes, .func (PySem.W.fnOf "lanes" "Ladder.lanes" (defArgs st_Ladder_lanes) (defBody st_Ladder_lanes) (defScope st_Ladder_lanes) .none kV_Ladder_lanes dc_Ladder_lanes pm_Ladder_lanes an_Ladder_lanes cd_Ladder_lanes ct_Ladder_lanes), sl_Ladder_lanes⟩)
    (co_Ladder_lanes : PySem.W.codeIn K cd_Ladder_lanes "Ladder.lanes" = true)
    (kp_Ladder_lanes : PySem.W.keepIn K (.ref f_Ladder_lanes) = true)
    (at_Ladder_rungs : PySem.W.findIn K (.ref a_Ladder) "rungs" = some (some (.ref f_Ladder_rungs)))
    (fn_Ladder_rungs : PySem.W.isFn K (.ref f_Ladder_rungs) = true)
    (lk_Ladder_rungs : K.lookup f_Ladder_rungs = some ⟨oc_Ladder_rungs, od_Ladder_rungs, .func (PySem.W.fnOf "rungs" "Ladder.rungs" (defArgs st_Ladder_rungs) (defBody st_Ladder_rungs) (defScope st_Ladder_rungs) .none kV_Ladder_rungs dc_Ladder_rungs pm_Ladder_rungs an_Ladder_rungs cd_Ladder_rungs ct_Ladder_rungs), sl_Ladder_rungs⟩)
    (co_Ladder_rungs : PySem.W.codeIn K cd_Ladder_rungs "Ladder.rungs" = true)
    (kp_Ladder_rungs : PySem.W.keepIn K (.ref f_Ladder_rungs) = true)
    (at_Ladder_falls : PySem.W.findIn K (.ref a_Ladder) "falls" = some (some (.ref f_Ladder_falls)))
    (fn_Ladder_falls : PySem.W.isFn K (.ref f_Ladder_falls) = true)
    (lk_Ladder_falls : K.lookup f_Ladder_falls = some ⟨oc_Ladder_falls, od_Ladder_falls, .func (PySem.W.fnOf "falls" "Ladder.falls" (defArgs st_Ladder_falls) (defBody st_Ladder_falls) (defScope st_Ladder_falls) .none kV_Ladder_falls dc_Ladder_falls pm_Ladder_falls an_Ladder_falls cd_Ladder_falls ct_Ladder_falls), sl_Ladder_falls⟩)
    (co_Ladder_falls : PySem.W.codeIn K cd_Ladder_falls "Ladder.falls" = true)
    (kp_Ladder_falls : PySem.W.keepIn K (.ref f_Ladder_falls) = true)
    (at_Ladder_returns : PySem.W.findIn K (.ref a_Ladder) "returns" = some (some (.ref f_Ladder_returns)))
    (fn_Ladder_returns : PySem.W.isFn K (.ref f_Ladder_returns) = true)
    (lk_Ladder_returns : K.lookup f_Ladder_returns = some ⟨oc_Ladder_returns, od_Ladder_returns, .func (PySem.W.fnOf "returns" "Ladder.returns" (defArgs st_Ladder_returns) (defBody st_Ladder_returns) (defScope st_Ladder_returns) .none kV_Ladder_returns dc_Ladder_returns pm_Ladder_returns an_Ladder_returns cd_Ladder_returns ct_Ladder_returns), sl_Ladder_returns⟩)
    (co_Ladder_returns : PySem.W.codeIn K cd_Ladder_returns "Ladder.returns" = true)
    (kp_Ladder_returns : PySem.W.keepIn K (.ref f_Ladder_returns) = true)
    (at_Ladder_check_rung : PySem.W.findIn K (.ref a_Ladder) "check_rung" = some (some (.ref f_Ladder_check_rung)))
    (fn_Ladder_check_rung : PySem.W.isFn K (.ref f_Ladder_check_rung) = true)
    (lk_Ladder_check_rung : K.lookup f_Ladder_check_rung = some ⟨oc_Ladder_check_rung, od_Ladder_check_rung, .func (PySem.W.fnOf "check_rung" "Ladder.check_rung" (defArgs st_Ladder_check_rung) (defBody st_Ladder_check_rung) (defScope st_Ladder_check_rung) .none kV_Ladder_check_rung dc_Ladder_check_rung pm_Ladder_check_rung an_Ladder_check_rung cd_Ladder_check_rung ct_Ladder_check_rung), sl_Ladder_check_rung⟩)
    (co_Ladder_check_rung : PySem.W.codeIn K cd_Ladder_check_rung "Ladder.check_rung" = true)
    (kp_Ladder_check_rung : PySem.W.keepIn K (.ref f_Ladder_check_rung) = true)
    (at_Ladder_check_place : PySem.W.findIn K (.ref a_Ladder) "check_place" = some (some (.ref f_Ladder_check_place)))
    (fn_Ladder_check_place : PySem.W.isFn K (.ref f_Ladder_check_place) = true)
    (lk_Ladder_check_place : K.lookup f_Ladder_check_place = some ⟨oc_Ladder_check_place, od_Ladder_check_place, .func (PySem.W.fnOf "check_place" "Ladder.check_place" (defArgs st_Ladder_check_place) (defBody st_Ladder_check_place) (defScope st_Ladder_check_place) .none kV_Ladder_check_place dc_Ladder_check_place pm_Ladder_check_place an_Ladder_check_place cd_Ladder_check_place ct_Ladder_check_place), sl_Ladder_check_place⟩)
    (co_Ladder_check_place : PySem.W.codeIn K cd_Ladder_check_place "Ladder.check_place" = true)
    (kp_Ladder_check_place : PySem.W.keepIn K (.ref f_Ladder_check_place) = true)
    (at_Ladder_fall : PySem.W.findIn K (.ref a_Ladder) "fall" = some (some (.ref f_Ladder_fall)))
    (fn_Ladder_fall : PySem.W.isFn K (.ref f_Ladder_fall) = true)
    (lk_Ladder_fall : K.lookup f_Ladder_fall = some ⟨oc_Ladder_fall, od_Ladder_fall, .func (PySem.W.fnOf "fall" "Ladder.fall" (defArgs st_Ladder_fall) (defBody st_Ladder_fall) (defScope st_Ladder_fall) .none kV_Ladder_fall dc_Ladder_fall pm_Ladder_fall an_Ladder_fall cd_Ladder_fall ct_Ladder_fall), sl_Ladder_fall⟩)
    (co_Ladder_fall : PySem.W.codeIn K cd_Ladder_fall "Ladder.fall" = true)
    (kp_Ladder_fall : PySem.W.keepIn K (.ref f_Ladder_fall) = true)
    (at_Ladder_load : PySem.W.findIn K (.ref a_Ladder) "load" = some (some (.ref f_Ladder_load)))
    (fn_Ladder_load : PySem.W.isFn K (.ref f_Ladder_load) = true)
    (lk_Ladder_load : K.lookup f_Ladder_load = some ⟨oc_Ladder_load, od_Ladder_load, .func (PySem.W.fnOf "load" "Ladder.load" (defArgs st_Ladder_load) (defBody st_Ladder_load) (defScope st_Ladder_load) .none kV_Ladder_load dc_Ladder_load pm_Ladder_load an_Ladder_load cd_Ladder_load ct_Ladder_load), sl_Ladder_load⟩)
    (co_Ladder_load : PySem.W.codeIn K cd_Ladder_load "Ladder.load" = true)
    (kp_Ladder_load : PySem.W.keepIn K (.ref f_Ladder_load) = true)
    (at_Ladder_weights : PySem.W.findIn K (.ref a_Ladder) "weights" = some (some (.ref f_Ladder_weights)))
    (fn_Ladder_weights : PySem.W.isFn K (.ref f_Ladder_weights) = true)
    (lk_Ladder_weights : K.lookup f_Ladder_weights = some ⟨oc_Ladder_weights, od_Ladder_weights, .func (PySem.W.fnOf "weights" "Ladder.weights" (defArgs st_Ladder_weights) (defBody st_Ladder_weights) (defScope st_Ladder_weights) .none kV_Ladder_weights dc_Ladder_weights pm_Ladder_weights an_Ladder_weights cd_Ladder_weights ct_Ladder_weights), sl_Ladder_weights⟩)
    (co_Ladder_weights : PySem.W.codeIn K cd_Ladder_weights "Ladder.weights" = true)
    (kp_Ladder_weights : PySem.W.keepIn K (.ref f_Ladder_weights) = true)
    (at_law_e_named : PySem.W.nsIn K mainGlobals "_law_e_named" = some (some (.ref f_law_e_named)))
    (lk_law_e_named : K.lookup f_law_e_named = some ⟨oc_law_e_named, od_law_e_named, .func (PySem.W.fnOf "_law_e_named" "_law_e_named" (defArgs st_law_e_named) (defBody st_law_e_named) (defScope st_law_e_named) .none kV_law_e_named dc_law_e_named pm_law_e_named an_law_e_named cd_law_e_named ct_law_e_named), sl_law_e_named⟩)
    (co_law_e_named : PySem.W.codeIn K cd_law_e_named "_law_e_named" = true)
    (kp_law_e_named : PySem.W.keepIn K (.ref f_law_e_named) = true)
    (at_law_e_asked : PySem.W.nsIn K mainGlobals "_law_e_asked" = some (some (.ref f_law_e_asked)))
    (lk_law_e_asked : K.lookup f_law_e_asked = some ⟨oc_law_e_asked, od_law_e_asked, .func (PySem.W.fnOf "_law_e_asked" "_law_e_asked" (defArgs st_law_e_asked) (defBody st_law_e_asked) (defScope st_law_e_asked) .none kV_law_e_asked dc_law_e_asked pm_law_e_asked an_law_e_asked cd_law_e_asked ct_law_e_asked), sl_law_e_asked⟩)
    (co_law_e_asked : PySem.W.codeIn K cd_law_e_asked "_law_e_asked" = true)
    (kp_law_e_asked : PySem.W.keepIn K (.ref f_law_e_asked) = true)
    (at_law_e_refused : PySem.W.nsIn K mainGlobals "_law_e_refused" = some (some (.ref f_law_e_refused)))
    (lk_law_e_refused : K.lookup f_law_e_refused = some ⟨oc_law_e_refused, od_law_e_refused, .func (PySem.W.fnOf "_law_e_refused" "_law_e_refused" (defArgs st_law_e_refused) (defBody st_law_e_refused) (defScope st_law_e_refused) .none kV_law_e_refused dc_law_e_refused pm_law_e_refused an_law_e_refused cd_law_e_refused ct_law_e_refused), sl_law_e_refused⟩)
    (co_law_e_refused : PySem.W.codeIn K cd_law_e_refused "_law_e_refused" = true)
    (kp_law_e_refused : PySem.W.keepIn K (.ref f_law_e_refused) = true)
    (at_law_e_falls : PySem.W.nsIn K mainGlobals "_law_e_falls" = some (some (.ref f_law_e_falls)))
    (lk_law_e_falls : K.lookup f_law_e_falls = some ⟨oc_law_e_falls, od_law_e_falls, .func (PySem.W.fnOf "_law_e_falls" "_law_e_falls" (defArgs st_law_e_falls) (defBody st_law_e_falls) (defScope st_law_e_falls) .none kV_law_e_falls dc_law_e_falls pm_law_e_falls an_law_e_falls cd_law_e_falls ct_law_e_falls), sl_law_e_falls⟩)
    (co_law_e_falls : PySem.W.codeIn K cd_law_e_falls "_law_e_falls" = true)
    (kp_law_e_falls : PySem.W.keepIn K (.ref f_law_e_falls) = true)
    (at_law_e_ladder : PySem.W.nsIn K mainGlobals "_law_e_ladder" = some (some (.ref f_law_e_ladder)))
    (lk_law_e_ladder : K.lookup f_law_e_ladder = some ⟨oc_law_e_ladder, od_law_e_ladder, .func (PySem.W.fnOf "_law_e_ladder" "_law_e_ladder" (defArgs st_law_e_ladder) (defBody st_law_e_ladder) (defScope st_law_e_ladder) .none kV_law_e_ladder dc_law_e_ladder pm_law_e_ladder an_law_e_ladder cd_law_e_ladder ct_law_e_ladder), sl_law_e_ladder⟩)
    (co_law_e_ladder : PySem.W.codeIn K cd_law_e_ladder "_law_e_ladder" = true)
    (kp_law_e_ladder : PySem.W.keepIn K (.ref f_law_e_ladder) = true)
    (at_law_e_low : PySem.W.nsIn K mainGlobals "_law_e_low" = some (some (.ref f_law_e_low)))
    (lk_law_e_low : K.lookup f_law_e_low = some ⟨oc_law_e_low, od_law_e_low, .func (PySem.W.fnOf "_law_e_low" "_law_e_low" (defArgs st_law_e_low) (defBody st_law_e_low) (defScope st_law_e_low) .none kV_law_e_low dc_law_e_low pm_law_e_low an_law_e_low cd_law_e_low ct_law_e_low), sl_law_e_low⟩)
    (co_law_e_low : PySem.W.codeIn K cd_law_e_low "_law_e_low" = true)
    (kp_law_e_low : PySem.W.keepIn K (.ref f_law_e_low) = true)
    (at_law_e_loads : PySem.W.nsIn K mainGlobals "_law_e_loads" = some (some (.ref f_law_e_loads)))
    (lk_law_e_loads : K.lookup f_law_e_loads = some ⟨oc_law_e_loads, od_law_e_loads, .func (PySem.W.fnOf "_law_e_loads" "_law_e_loads" (defArgs st_law_e_loads) (defBody st_law_e_loads) (defScope st_law_e_loads) .none kV_law_e_loads dc_law_e_loads pm_law_e_loads an_law_e_loads cd_law_e_loads ct_law_e_loads), sl_law_e_loads⟩)
    (co_law_e_loads : PySem.W.codeIn K cd_law_e_loads "_law_e_loads" = true)
    (kp_law_e_loads : PySem.W.keepIn K (.ref f_law_e_loads) = true)
    (at_law_e_sum : PySem.W.nsIn K mainGlobals "_law_e_sum" = some (some (.ref f_law_e_sum)))
    (lk_law_e_sum : K.lookup f_law_e_sum = some ⟨oc_law_e_sum, od_law_e_sum, .func (PySem.W.fnOf "_law_e_sum" "_law_e_sum" (defArgs st_law_e_sum) (defBody st_law_e_sum) (defScope st_law_e_sum) .none kV_law_e_sum dc_law_e_sum pm_law_e_sum an_law_e_sum cd_law_e_sum ct_law_e_sum), sl_law_e_sum⟩)
    (co_law_e_sum : PySem.W.codeIn K cd_law_e_sum "_law_e_sum" = true)
    (kp_law_e_sum : PySem.W.keepIn K (.ref f_law_e_sum) = true)
    (at_law_e_behind : PySem.W.nsIn K mainGlobals "_law_e_behind" = some (some (.ref f_law_e_behind)))
    (lk_law_e_behind : K.lookup f_law_e_behind = some ⟨oc_law_e_behind, od_law_e_behind, .func (PySem.W.fnOf "_law_e_behind" "_law_e_behind" (defArgs st_law_e_behind) (defBody st_law_e_behind) (defScope st_law_e_behind) .none kV_law_e_behind dc_law_e_behind pm_law_e_behind an_law_e_behind cd_law_e_behind ct_law_e_behind), sl_law_e_behind⟩)
    (co_law_e_behind : PySem.W.codeIn K cd_law_e_behind "_law_e_behind" = true)
    (kp_law_e_behind : PySem.W.keepIn K (.ref f_law_e_behind) = true)
    (at_law_stock : PySem.W.nsIn K mainGlobals "_law_stock" = some (some (.ref f_law_stock)))
    (lk_law_stock : K.lookup f_law_stock = some ⟨oc_law_stock, od_law_stock, .func (PySem.W.fnOf "_law_stock" "_law_stock" (defArgs st_law_stock) (defBody st_law_stock) (defScope st_law_stock) .none kV_law_stock dc_law_stock pm_law_stock an_law_stock cd_law_stock ct_law_stock), sl_law_stock⟩)
    (co_law_stock : PySem.W.codeIn K cd_law_stock "_law_stock" = true)
    (kp_law_stock : PySem.W.keepIn K (.ref f_law_stock) = true)
    (at_law_draw : PySem.W.nsIn K mainGlobals "_law_draw" = some (some (.ref f_law_draw)))
    (lk_law_draw : K.lookup f_law_draw = some ⟨oc_law_draw, od_law_draw, .func (PySem.W.fnOf "_law_draw" "_law_draw" (defArgs st_law_draw) (defBody st_law_draw) (defScope st_law_draw) .none kV_law_draw dc_law_draw pm_law_draw an_law_draw cd_law_draw ct_law_draw), sl_law_draw⟩)
    (co_law_draw : PySem.W.codeIn K cd_law_draw "_law_draw" = true)
    (kp_law_draw : PySem.W.keepIn K (.ref f_law_draw) = true)
    (at_law_matches : PySem.W.nsIn K mainGlobals "_law_matches" = some (some (.ref f_law_matches)))
    (lk_law_matches : K.lookup f_law_matches = some ⟨oc_law_matches, od_law_matches, .func (PySem.W.fnOf "_law_matches" "_law_matches" (defArgs st_law_matches) (defBody st_law_matches) (defScope st_law_matches) .none kV_law_matches dc_law_matches pm_law_matches an_law_matches cd_law_matches ct_law_matches), sl_law_matches⟩)
    (co_law_matches : PySem.W.codeIn K cd_law_matches "_law_matches" = true)
    (kp_law_matches : PySem.W.keepIn K (.ref f_law_matches) = true)
    (at_law_k31_season : PySem.W.nsIn K mainGlobals "_law_k31_season" = some (some (.ref f_law_k31_season)))
    (lk_law_k31_season : K.lookup f_law_k31_season = some ⟨oc_law_k31_season, od_law_k31_season, .func (PySem.W.fnOf "_law_k31_season" "_law_k31_season" (defArgs st_law_k31_season) (defBody st_law_k31_season) (defScope st_law_k31_season) .none kV_law_k31_season dc_law_k31_season pm_law_k31_season an_law_k31_season cd_law_k31_season ct_law_k31_season), sl_law_k31_season⟩)
    (co_law_k31_season : PySem.W.codeIn K cd_law_k31_season "_law_k31_season" = true)
    (kp_law_k31_season : PySem.W.keepIn K (.ref f_law_k31_season) = true)
    (at_law_k31_bill : PySem.W.nsIn K mainGlobals "_law_k31_bill" = some (some (.ref f_law_k31_bill)))
    (lk_law_k31_bill : K.lookup f_law_k31_bill = some ⟨oc_law_k31_bill, od_law_k31_bill, .func (PySem.W.fnOf "_law_k31_bill" "_law_k31_bill" (defArgs st_law_k31_bill) (defBody st_law_k31_bill) (defScope st_law_k31_bill) .none kV_law_k31_bill dc_law_k31_bill pm_law_k31_bill an_law_k31_bill cd_law_k31_bill ct_law_k31_bill), sl_law_k31_bill⟩)
    (co_law_k31_bill : PySem.W.codeIn K cd_law_k31_bill "_law_k31_bill" = true)
    (kp_law_k31_bill : PySem.W.keepIn K (.ref f_law_k31_bill) = true)
    (at_law_k31_sums : PySem.W.nsIn K mainGlobals "_law_k31_sums" = some (some (.ref f_law_k31_sums)))
    (lk_law_k31_sums : K.lookup f_law_k31_sums = some ⟨oc_law_k31_sums, od_law_k31_sums, .func (PySem.W.fnOf "_law_k31_sums" "_law_k31_sums" (defArgs st_law_k31_sums) (defBody st_law_k31_sums) (defScope st_law_k31_sums) .none kV_law_k31_sums dc_law_k31_sums pm_law_k31_sums an_law_k31_sums cd_law_k31_sums ct_law_k31_sums), sl_law_k31_sums⟩)
    (co_law_k31_sums : PySem.W.codeIn K cd_law_k31_sums "_law_k31_sums" = true)
    (kp_law_k31_sums : PySem.W.keepIn K (.ref f_law_k31_sums) = true)
    (at_law_k31_thrifty : PySem.W.nsIn K mainGlobals "_law_k31_thrifty" = some (some (.ref f_law_k31_thrifty)))
    (lk_law_k31_thrifty : K.lookup f_law_k31_thrifty = some ⟨oc_law_k31_thrifty, od_law_k31_thrifty, .func (PySem.W.fnOf "_law_k31_thrifty" "_law_k31_thrifty" (defArgs st_law_k31_thrifty) (defBody st_law_k31_thrifty) (defScope st_law_k31_thrifty) .none kV_law_k31_thrifty dc_law_k31_thrifty pm_law_k31_thrifty an_law_k31_thrifty cd_law_k31_thrifty ct_law_k31_thrifty), sl_law_k31_thrifty⟩)
    (co_law_k31_thrifty : PySem.W.codeIn K cd_law_k31_thrifty "_law_k31_thrifty" = true)
    (kp_law_k31_thrifty : PySem.W.keepIn K (.ref f_law_k31_thrifty) = true)
    (at_law_k31_due : PySem.W.nsIn K mainGlobals "_law_k31_due" = some (some (.ref f_law_k31_due)))
    (lk_law_k31_due : K.lookup f_law_k31_due = some ⟨oc_law_k31_due, od_law_k31_due, .func (PySem.W.fnOf "_law_k31_due" "_law_k31_due" (defArgs st_law_k31_due) (defBody st_law_k31_due) (defScope st_law_k31_due) .none kV_law_k31_due dc_law_k31_due pm_law_k31_due an_law_k31_due cd_law_k31_due ct_law_k31_due), sl_law_k31_due⟩)
    (co_law_k31_due : PySem.W.codeIn K cd_law_k31_due "_law_k31_due" = true)
    (kp_law_k31_due : PySem.W.keepIn K (.ref f_law_k31_due) = true)
    (at_law_k31_asked : PySem.W.nsIn K mainGlobals "_law_k31_asked" = some (some (.ref f_law_k31_asked)))
    (lk_law_k31_asked : K.lookup f_law_k31_asked = some ⟨oc_law_k31_asked, od_law_k31_asked, .func (PySem.W.fnOf "_law_k31_asked" "_law_k31_asked" (defArgs st_law_k31_asked) (defBody st_law_k31_asked) (defScope st_law_k31_asked) .none kV_law_k31_asked dc_law_k31_asked pm_law_k31_asked an_law_k31_asked cd_law_k31_asked ct_law_k31_asked), sl_law_k31_asked⟩)
    (co_law_k31_asked : PySem.W.codeIn K cd_law_k31_asked "_law_k31_asked" = true)
    (kp_law_k31_asked : PySem.W.keepIn K (.ref f_law_k31_asked) = true)
    (at_law_k31_bent : PySem.W.nsIn K mainGlobals "_law_k31_bent" = some (some (.ref f_law_k31_bent)))
    (lk_law_k31_bent : K.lookup f_law_k31_bent = some ⟨oc_law_k31_bent, od_law_k31_bent, .func (PySem.W.fnOf "_law_k31_bent" "_law_k31_bent" (defArgs st_law_k31_bent) (defBody st_law_k31_bent) (defScope st_law_k31_bent) .none kV_law_k31_bent dc_law_k31_bent pm_law_k31_bent an_law_k31_bent cd_law_k31_bent ct_law_k31_bent), sl_law_k31_bent⟩)
    (co_law_k31_bent : PySem.W.codeIn K cd_law_k31_bent "_law_k31_bent" = true)
    (kp_law_k31_bent : PySem.W.keepIn K (.ref f_law_k31_bent) = true)
    (at_law_k31_made : PySem.W.nsIn K mainGlobals "_law_k31_made" = some (some (.ref f_law_k31_made)))
    (lk_law_k31_made : K.lookup f_law_k31_made = some ⟨oc_law_k31_made, od_law_k31_made, .func (PySem.W.fnOf "_law_k31_made" "_law_k31_made" (defArgs st_law_k31_made) (defBody st_law_k31_made) (defScope st_law_k31_made) .none kV_law_k31_made dc_law_k31_made pm_law_k31_made an_law_k31_made cd_law_k31_made ct_law_k31_made), sl_law_k31_made⟩)
    (co_law_k31_made : PySem.W.codeIn K cd_law_k31_made "_law_k31_made" = true)
    (kp_law_k31_made : PySem.W.keepIn K (.ref f_law_k31_made) = true)
    (at_law_k31_long : PySem.W.nsIn K mainGlobals "_law_k31_long" = some (some (.ref f_law_k31_long)))
    (lk_law_k31_long : K.lookup f_law_k31_long = some ⟨oc_law_k31_long, od_law_k31_long, .func (PySem.W.fnOf "_law_k31_long" "_law_k31_long" (defArgs st_law_k31_long) (defBody st_law_k31_long) (defScope st_law_k31_long) .none kV_law_k31_long dc_law_k31_long pm_law_k31_long an_law_k31_long (.ref c_law_k31_long) ct_law_k31_long), sl_law_k31_long⟩)
    (co_law_k31_long : PySem.W.codeIn K (.ref c_law_k31_long) "_law_k31_long" = true)
    (kp_law_k31_long : PySem.W.keepIn K (.ref f_law_k31_long) = true)
    (vc_law_k31_long : K.lookup c_law_k31_long = some ⟨.type "code", vo_law_k31_long, .fields vs_law_k31_long, vl_law_k31_long⟩)
    (v11_law_k31_long : (vs_law_k31_long[11]? : Option Value) = some (.ref p_law_k31_long))
    (hc_law_k31_long : PySem.W.codeHdIn K c_law_k31_long p_law_k31_long = true)
    (nT_law_k31_long : K.lookup p_law_k31_long = none)
    (tb_law_k31_long : h.get? p_law_k31_long = some { cls := .none, data := .fields #[] })
    (at_law : PySem.W.nsIn K mainGlobals "law" = some (some (.ref f_law)))
    (lk_law : K.lookup f_law = some ⟨oc_law, od_law, .func (PySem.W.fnOf "law" "law" (defArgs st_law) (defBody st_law) (defScope st_law) .none kV_law dc_law pm_law an_law (.ref c_law) ct_law), sl_law⟩)
    (co_law : PySem.W.codeIn K (.ref c_law) "law" = true)
    (kp_law : PySem.W.keepIn K (.ref f_law) = true)
    (vc_law : K.lookup c_law = some ⟨.type "code", vo_law, .fields vs_law, vl_law⟩)
    (v11_law : (vs_law[11]? : Option Value) = some (.ref p_law))
    (hc_law : PySem.W.codeHdIn K c_law p_law = true)
    (nT_law : K.lookup p_law = none)
    (tb_law : h.get? p_law = some { cls := .none, data := .fields #[] })
    (ne_law_law_k31_long : p_law ≠ p_law_k31_long) :
    LamX.LawAtS l w K CX0 13 63 "script" mg fa h := by
  have e := hfa.symm.trans (PySem.W.mg_of X G at_law)
  cases e
  have F_TooMany_init := fun_mk (st := st_TooMany_init) lk_TooMany_init co_TooMany_init kp_TooMany_init
  have B_TooMany_init := F_TooMany_init.binds (ps := ["self", "what"]) fun _ _ _ _ _ _ us hl => match us, hl with | [_, _], _ => rfl
  have F_BadLadder_init := fun_mk (st := st_BadLadder_init) lk_BadLadder_init co_BadLadder_init kp_BadLadder_init
  have B_BadLadder_init := F_BadLadder_init.binds (ps := ["self", "rung"]) fun _ _ _ _ _ _ us hl => match us, hl with | [_, _], _ => rfl
  have F_BadTable_init := fun_mk (st := st_BadTable_init) lk_BadTable_init co_BadTable_init kp_BadTable_init
  have B_BadTable_init := F_BadTable_init.binds (ps := ["self", "rung"]) fun _ _ _ _ _ _ us hl => match us, hl with | [_, _], _ => rfl
  have F_BadDemand_init := fun_mk (st := st_BadDemand_init) lk_BadDemand_init co_BadDemand_init kp_BadDemand_init
  have B_BadDemand_init := F_BadDemand_init.binds (ps := ["self", "what"]) fun _ _ _ _ _ _ us hl => match us, hl with | [_, _], _ => rfl
  have F_bound := fun_mk (st := st_bound) lk_bound co_bound kp_bound
  have B_bound := F_bound.binds (ps := ["what", "number"]) fun _ _ _ _ _ _ us hl => match us, hl with | [_, _], _ => rfl
  have F_grown := fun_mk (st := st_grown) lk_grown co_grown kp_grown
  have B_grown := F_grown.binds (ps := ["lanes", "falls", "first", "charges"]) fun _ _ _ _ _ _ us hl => match us, hl with | [_, _, _, _], _ => rfl
  have F_load_rows := fun_mk (st := st_load_rows) lk_load_rows co_load_rows kp_load_rows
  have B_load_rows := F_load_rows.binds (ps := ["lanes", "falls"]) fun _ _ _ _ _ _ us hl => match us, hl with | [_, _], _ => rfl
  have F_head_row := fun_mk (st := st_head_row) lk_head_row co_head_row kp_head_row
  have B_head_row := F_head_row.binds (ps := ["lanes", "falls"]) fun _ _ _ _ _ _ us hl => match us, hl with | [_, _], _ => rfl
  have F_worth_row := fun_mk (st := st_worth_row) lk_worth_row co_worth_row kp_worth_row
  have B_worth_row := F_worth_row.binds (ps := ["lanes", "falls"]) fun _ _ _ _ _ _ us hl => match us, hl with | [_, _], _ => rfl
  have F_wrong_count := fun_mk (st := st_wrong_count) lk_wrong_count co_wrong_count kp_wrong_count
  have B_wrong_count := F_wrong_count.binds (ps := ["counts", "rungs"]) fun _ _ _ _ _ _ us hl => match us, hl with | [_, _], _ => rfl
  have F_Table_init := fun_mk (st := st_Table_init) lk_Table_init co_Table_init kp_Table_init
  have B_Table_init := F_Table_init.binds (ps := ["self", "ladder", "counts"]) fun _ _ _ _ _ _ us hl => match us, hl with | [_, _, _], _ => rfl
  have F_Table_ladder := fun_mk (st := st_Table_ladder) lk_Table_ladder co_Table_ladder kp_Table_ladder
  have B_Table_ladder := F_Table_ladder.binds (ps := ["self"]) fun _ _ _ _ _ _ us hl => match us, hl with | [_], _ => rfl
  have F_Table_counts := fun_mk (st := st_Table_counts) lk_Table_counts co_Table_counts kp_Table_counts
  have B_Table_counts := F_Table_counts.binds (ps := ["self"]) fun _ _ _ _ _ _ us hl => match us, hl with | [_], _ => rfl
  have F_Table_on := fun_mk (st := st_Table_on) lk_Table_on co_Table_on kp_Table_on
  have B_Table_on := F_Table_on.binds (ps := ["self", "a"]) fun _ _ _ _ _ _ us hl => match us, hl with | [_, _], _ => rfl
  have F_Table_load := fun_mk (st := st_Table_load) lk_Table_load co_Table_load kp_Table_load
  have B_Table_load := F_Table_load.binds (ps := ["self", "a"]) fun _ _ _ _ _ _ us hl => match us, hl with | [_, _], _ => rfl
  have F_Table_level := fun_mk (st := st_Table_level) lk_Table_level co_Table_level kp_Table_level
  have B_Table_level := F_Table_level.binds (ps := ["self"]) fun _ _ _ _ _ _ us hl => match us, hl with | [_], _ => rfl
  have F_Table_check_called := fun_mk (st := st_Table_check_called) lk_Table_check_called co_Table_check_called kp_Table_check_called
  have B_Table_check_called := F_Table_check_called.binds (ps := ["self", "rungs", "at"]) fun _ _ _ _ _ _ us hl => match us, hl with | [_, _, _], _ => rfl
  have F_Table_behind := fun_mk (st := st_Table_behind) lk_Table_behind co_Table_behind kp_Table_behind
  have B_Table_behind := F_Table_behind.binds (ps := ["self", "rungs", "at"]) fun _ _ _ _ _ _ us hl => match us, hl with | [_, _, _], _ => rfl
  have F_bill_of := fun_mk (st := st_bill_of) lk_bill_of co_bill_of kp_bill_of
  have B_bill_of := F_bill_of.binds (ps := ["first", "last", "crowns"]) fun _ _ _ _ _ _ us hl => match us, hl with | [_, _, _], _ => rfl
  have F_reached_counts := fun_mk (st := st_reached_counts) lk_reached_counts co_reached_counts kp_reached_counts
  have B_reached_counts := F_reached_counts.binds (ps := ["first", "held", "crowns"]) fun _ _ _ _ _ _ us hl => match us, hl with | [_, _, _], _ => rfl
  have F_next_rung := fun_mk (st := st_next_rung) lk_next_rung co_next_rung kp_next_rung
  have B_next_rung := F_next_rung.binds (ps := ["table", "due"]) fun _ _ _ _ _ _ us hl => match us, hl with | [_, _], _ => rfl
  have F_hidden_season := fun_mk (st := st_hidden_season) lk_hidden_season co_hidden_season kp_hidden_season
  have B_hidden_season := F_hidden_season.binds (ps := ["first", "last", "crowns"]) fun _ _ _ _ _ _ us hl => match us, hl with | [_, _, _], _ => rfl
  have F_wrong_rung := fun_mk (st := st_wrong_rung) lk_wrong_rung co_wrong_rung kp_wrong_rung
  have B_wrong_rung := F_wrong_rung.binds (ps := ["lanes", "falls"]) fun _ _ _ _ _ _ us hl => match us, hl with | [_, _], _ => rfl
  have F_Ladder_init := fun_mk (st := st_Ladder_init) lk_Ladder_init co_Ladder_init kp_Ladder_init
  have B_Ladder_init := F_Ladder_init.binds (ps := ["self", "lanes", "falls", "returns"]) fun _ _ _ _ _ _ us hl => match us, hl with | [_, _, _, _], _ => rfl
  have F_Ladder_same_as := fun_mk (st := st_Ladder_same_as) lk_Ladder_same_as co_Ladder_same_as kp_Ladder_same_as
  have B_Ladder_same_as := F_Ladder_same_as.binds (ps := ["self", "other"]) fun _ _ _ _ _ _ us hl => match us, hl with | [_, _], _ => rfl
  have F_Ladder_lanes := fun_mk (st := st_Ladder_lanes) lk_Ladder_lanes co_Ladder_lanes kp_Ladder_lanes
  have B_Ladder_lanes := F_Ladder_lanes.binds (ps := ["self"]) fun _ _ _ _ _ _ us hl => match us, hl with | [_], _ => rfl
  have F_Ladder_rungs := fun_mk (st := st_Ladder_rungs) lk_Ladder_rungs co_Ladder_rungs kp_Ladder_rungs
  have B_Ladder_rungs := F_Ladder_rungs.binds (ps := ["self"]) fun _ _ _ _ _ _ us hl => match us, hl with | [_], _ => rfl
  have F_Ladder_falls := fun_mk (st := st_Ladder_falls) lk_Ladder_falls co_Ladder_falls kp_Ladder_falls
  have B_Ladder_falls := F_Ladder_falls.binds (ps := ["self"]) fun _ _ _ _ _ _ us hl => match us, hl with | [_], _ => rfl
  have F_Ladder_returns := fun_mk (st := st_Ladder_returns) lk_Ladder_returns co_Ladder_returns kp_Ladder_returns
  have B_Ladder_returns := F_Ladder_returns.binds (ps := ["self"]) fun _ _ _ _ _ _ us hl => match us, hl with | [_], _ => rfl
  have F_Ladder_check_rung := fun_mk (st := st_Ladder_check_rung) lk_Ladder_check_rung co_Ladder_check_rung kp_Ladder_check_rung
  have B_Ladder_check_rung := F_Ladder_check_rung.binds (ps := ["self", "rung"]) fun _ _ _ _ _ _ us hl => match us, hl with | [_, _], _ => rfl
  have F_Ladder_check_place := fun_mk (st := st_Ladder_check_place) lk_Ladder_check_place co_Ladder_check_place kp_Ladder_check_place
  have B_Ladder_check_place := F_Ladder_check_place.binds (ps := ["self", "place"]) fun _ _ _ _ _ _ us hl => match us, hl with | [_, _], _ => rfl
  have F_Ladder_fall := fun_mk (st := st_Ladder_fall) lk_Ladder_fall co_Ladder_fall kp_Ladder_fall
  have B_Ladder_fall := F_Ladder_fall.binds (ps := ["self", "a"]) fun _ _ _ _ _ _ us hl => match us, hl with | [_, _], _ => rfl
  have F_Ladder_load := fun_mk (st := st_Ladder_load) lk_Ladder_load co_Ladder_load kp_Ladder_load
  have B_Ladder_load := F_Ladder_load.binds (ps := ["self", "a", "b"]) fun _ _ _ _ _ _ us hl => match us, hl with | [_, _, _], _ => rfl
  have F_Ladder_weights := fun_mk (st := st_Ladder_weights) lk_Ladder_weights co_Ladder_weights kp_Ladder_weights
  have B_Ladder_weights := F_Ladder_weights.binds (ps := ["self"]) fun _ _ _ _ _ _ us hl => match us, hl with | [_], _ => rfl
  have F_law_e_named := fun_mk (st := st_law_e_named) lk_law_e_named co_law_e_named kp_law_e_named
  have B_law_e_named := F_law_e_named.binds (ps := ["raised"]) fun _ _ _ _ _ _ us hl => match us, hl with | [_], _ => rfl
  have F_law_e_asked := fun_mk (st := st_law_e_asked) lk_law_e_asked co_law_e_asked kp_law_e_asked
  have B_law_e_asked := F_law_e_asked.binds (ps := ["call"]) fun _ _ _ _ _ _ us hl => match us, hl with | [_], _ => rfl
  have F_law_e_refused := fun_mk (st := st_law_e_refused) lk_law_e_refused co_law_e_refused kp_law_e_refused
  have B_law_e_refused := F_law_e_refused.binds (ps := ["call", "due"]) fun _ _ _ _ _ _ us hl => match us, hl with | [_, _], _ => rfl
  have F_law_e_falls := fun_mk (st := st_law_e_falls) lk_law_e_falls co_law_e_falls kp_law_e_falls
  have B_law_e_falls := F_law_e_falls.binds (ps := ["stock", "rungs"]) fun _ _ _ _ _ _ us hl => match us, hl with | [_, _], _ => rfl
  have F_law_e_ladder := fun_mk (st := st_law_e_ladder) lk_law_e_ladder co_law_e_ladder kp_law_e_ladder
  have B_law_e_ladder := F_law_e_ladder.binds (ps := ["stock", "least", "most", "widest"]) fun _ _ _ _ _ _ us hl => match us, hl with | [_, _, _, _], _ => rfl
  have F_law_e_low := fun_mk (st := st_law_e_low) lk_law_e_low co_law_e_low kp_law_e_low
  have B_law_e_low := F_law_e_low.binds (ps := ["row", "fall"]) fun _ _ _ _ _ _ us hl => match us, hl with | [_, _], _ => rfl
  have F_law_e_loads := fun_mk (st := st_law_e_loads) lk_law_e_loads co_law_e_loads kp_law_e_loads
  have B_law_e_loads := F_law_e_loads.binds (ps := ["ladder"]) fun _ _ _ _ _ _ us hl => match us, hl with | [_], _ => rfl
  have F_law_e_sum := fun_mk (st := st_law_e_sum) lk_law_e_sum co_law_e_sum kp_law_e_sum
  have B_law_e_sum := F_law_e_sum.binds (ps := ["row", "counts"]) fun _ _ _ _ _ _ us hl => match us, hl with | [_, _], _ => rfl
  have F_law_e_behind := fun_mk (st := st_law_e_behind) lk_law_e_behind co_law_e_behind kp_law_e_behind
  have B_law_e_behind := F_law_e_behind.binds (ps := ["ladder", "counts", "rungs", "at"]) fun _ _ _ _ _ _ us hl => match us, hl with | [_, _, _, _], _ => rfl
  have F_law_stock := fun_mk (st := st_law_stock) lk_law_stock co_law_stock kp_law_stock
  have B_law_stock := F_law_stock.binds (ps := ["script", "at"]) fun _ _ _ _ _ _ us hl => match us, hl with | [_, _], _ => rfl
  have F_law_draw := fun_mk (st := st_law_draw) lk_law_draw co_law_draw kp_law_draw
  have B_law_draw := F_law_draw.binds (ps := ["stock", "many"]) fun _ _ _ _ _ _ us hl => match us, hl with | [_, _], _ => rfl
  have F_law_matches := fun_mk (st := st_law_matches) lk_law_matches co_law_matches kp_law_matches
  have B_law_matches := F_law_matches.binds (ps := ["answer", "due"]) fun _ _ _ _ _ _ us hl => match us, hl with | [_, _], _ => rfl
  have F_law_k31_season := fun_mk (st := st_law_k31_season) lk_law_k31_season co_law_k31_season kp_law_k31_season
  have B_law_k31_season := F_law_k31_season.binds (ps := ["stock", "plain", "counts", "most"]) fun _ _ _ _ _ _ us hl => match us, hl with | [_, _, _, _], _ => rfl
  have F_law_k31_bill := fun_mk (st := st_law_k31_bill) lk_law_k31_bill co_law_k31_bill kp_law_k31_bill
  have B_law_k31_bill := F_law_k31_bill.binds (ps := ["plain", "first", "last", "crowns"]) fun _ _ _ _ _ _ us hl => match us, hl with | [_, _, _, _], _ => rfl
  have F_law_k31_sums := fun_mk (st := st_law_k31_sums) lk_law_k31_sums co_law_k31_sums kp_law_k31_sums
  have B_law_k31_sums := F_law_k31_sums.binds (ps := ["plain", "first", "held", "crowns"]) fun _ _ _ _ _ _ us hl => match us, hl with | [_, _, _, _], _ => rfl
  have F_law_k31_thrifty := fun_mk (st := st_law_k31_thrifty) lk_law_k31_thrifty co_law_k31_thrifty kp_law_k31_thrifty
  have B_law_k31_thrifty := F_law_k31_thrifty.binds (ps := ["plain", "first", "due", "highest"]) fun _ _ _ _ _ _ us hl => match us, hl with | [_, _, _, _], _ => rfl
  have F_law_k31_due := fun_mk (st := st_law_k31_due) lk_law_k31_due co_law_k31_due kp_law_k31_due
  have B_law_k31_due := F_law_k31_due.binds (ps := ["plain", "first", "last", "crowns"]) fun _ _ _ _ _ _ us hl => match us, hl with | [_, _, _, _], _ => rfl
  have F_law_k31_asked := fun_mk (st := st_law_k31_asked) lk_law_k31_asked co_law_k31_asked kp_law_k31_asked
  have B_law_k31_asked := F_law_k31_asked.binds (ps := ["ladder", "plain", "first", "last", "crowns"]) fun _ _ _ _ _ _ us hl => match us, hl with | [_, _, _, _, _], _ => rfl
  have F_law_k31_bent := fun_mk (st := st_law_k31_bent) lk_law_k31_bent co_law_k31_bent kp_law_k31_bent
  have B_law_k31_bent := F_law_k31_bent.binds (ps := ["stock", "last", "crowns"]) fun _ _ _ _ _ _ us hl => match us, hl with | [_, _, _], _ => rfl
  have F_law_k31_made := fun_mk (st := st_law_k31_made) lk_law_k31_made co_law_k31_made kp_law_k31_made
  have B_law_k31_made := F_law_k31_made.binds (ps := ["stock", "plain", "first"]) fun _ _ _ _ _ _ us hl => match us, hl with | [_, _, _], _ => rfl
  have F_law_k31_long := fun_mk (st := st_law_k31_long) lk_law_k31_long co_law_k31_long kp_law_k31_long
  have B_law_k31_long := F_law_k31_long.binds (ps := ["stock"]) fun _ _ _ _ _ _ us hl => match us, hl with | [_], _ => rfl
  have F_law := fun_mk (st := st_law) lk_law co_law kp_law
  have B_law := F_law.binds (ps := ["script"]) fun _ _ _ _ _ _ us hl => match us, hl with | [_], _ => rfl
  have T : Txt K w mg { a_Table := a_Table, a_Ladder := a_Ladder, a_LIMITS := a_LIMITS, a_TOLD := a_TOLD, a_TooMany := a_TooMany, a_BadLadder := a_BadLadder, a_BadTable := a_BadTable, a_BadDemand := a_BadDemand, a_WinsError := a_WinsError, a_BadText := a_BadText, a_BadSeason := a_BadSeason, a_BadCode := a_BadCode, a_BadEvent := a_BadEvent, a_BadFoe := a_BadFoe, a_BadPaper := a_BadPaper, a_BadDisk := a_BadDisk, a_BadDeed := a_BadDeed, c_law_k31_long := c_law_k31_long, p_law_k31_long := p_law_k31_long, c_law := c_law, p_law := p_law } := {
    b_ValueError := PySem.W.mg_none_of X G b_ValueError
    b_abs := PySem.W.mg_none_of X G b_abs
    b_all := PySem.W.mg_none_of X G b_all
    b_bool := PySem.W.mg_none_of X G b_bool
    b_enumerate := PySem.W.mg_none_of X G b_enumerate
    b_int := PySem.W.mg_none_of X G b_int
    b_isinstance := PySem.W.mg_none_of X G b_isinstance
    b_len := PySem.W.mg_none_of X G b_len
    b_list := PySem.W.mg_none_of X G b_list
    b_max := PySem.W.mg_none_of X G b_max
    b_min := PySem.W.mg_none_of X G b_min
    b_range := PySem.W.mg_none_of X G b_range
    b_reversed := PySem.W.mg_none_of X G b_reversed
    b_str := PySem.W.mg_none_of X G b_str
    b_sum := PySem.W.mg_none_of X G b_sum
    b_tuple := PySem.W.mg_none_of X G b_tuple
    c_LIMITS := PySem.W.mg_of X G c_LIMITS
    k_LIMITS_lines := ⟨_, _, _, l_LIMITS, kl_LIMITS, v_LIMITS_lines, ⟨_, rfl⟩⟩
    k_LIMITS_words := ⟨_, _, _, l_LIMITS, kl_LIMITS, v_LIMITS_words, ⟨_, rfl⟩⟩
    k_LIMITS_number := ⟨_, _, _, l_LIMITS, kl_LIMITS, v_LIMITS_number, ⟨_, rfl⟩⟩
    k_LIMITS_depth := ⟨_, _, _, l_LIMITS, kl_LIMITS, v_LIMITS_depth, ⟨_, rfl⟩⟩
    k_LIMITS_blocks := ⟨_, _, _, l_LIMITS, kl_LIMITS, v_LIMITS_blocks, ⟨_, rfl⟩⟩
    k_LIMITS_lanes := ⟨_, _, _, l_LIMITS, kl_LIMITS, v_LIMITS_lanes, ⟨_, rfl⟩⟩
    k_LIMITS_rungs := ⟨_, _, _, l_LIMITS, kl_LIMITS, v_LIMITS_rungs, ⟨_, rfl⟩⟩
    k_LIMITS_ways := ⟨_, _, _, l_LIMITS, kl_LIMITS, v_LIMITS_ways, ⟨_, rfl⟩⟩
    k_LIMITS_promises := ⟨_, _, _, l_LIMITS, kl_LIMITS, v_LIMITS_promises, ⟨_, rfl⟩⟩
    k_LIMITS_variables := ⟨_, _, _, l_LIMITS, kl_LIMITS, v_LIMITS_variables, ⟨_, rfl⟩⟩
    k_LIMITS_states := ⟨_, _, _, l_LIMITS, kl_LIMITS, v_LIMITS_states, ⟨_, rfl⟩⟩
    k_LIMITS_rows := ⟨_, _, _, l_LIMITS, kl_LIMITS, v_LIMITS_rows, ⟨_, rfl⟩⟩
    k_LIMITS_events := ⟨_, _, _, l_LIMITS, kl_LIMITS, v_LIMITS_events, ⟨_, rfl⟩⟩
    k_LIMITS_meetings := ⟨_, _, _, l_LIMITS, kl_LIMITS, v_LIMITS_meetings, ⟨_, rfl⟩⟩
    k_LIMITS_housemeetings := ⟨_, _, _, l_LIMITS, kl_LIMITS, v_LIMITS_housemeetings, ⟨_, rfl⟩⟩
    k_LIMITS_rounds := ⟨_, _, _, l_LIMITS, kl_LIMITS, v_LIMITS_rounds, ⟨_, rfl⟩⟩
    k_LIMITS_late := ⟨_, _, _, l_LIMITS, kl_LIMITS, v_LIMITS_late, ⟨_, rfl⟩⟩
    k_LIMITS_plan := ⟨_, _, _, l_LIMITS, kl_LIMITS, v_LIMITS_plan, ⟨_, rfl⟩⟩
    k_LIMITS_nodes := ⟨_, _, _, l_LIMITS, kl_LIMITS, v_LIMITS_nodes, ⟨_, rfl⟩⟩
    k_LIMITS_players := ⟨_, _, _, l_LIMITS, kl_LIMITS, v_LIMITS_players, ⟨_, rfl⟩⟩
    k_LIMITS_log := ⟨_, _, _, l_LIMITS, kl_LIMITS, v_LIMITS_log, ⟨_, rfl⟩⟩
    k_LIMITS_signs := ⟨_, _, _, l_LIMITS, kl_LIMITS, v_LIMITS_signs, ⟨_, rfl⟩⟩
    c_OUT := ⟨_, PySem.W.mg_of X G c_OUT⟩
    c_TOLD := PySem.W.mg_of X G c_TOLD
    k_TOLD_blocks := ⟨_, _, _, l_TOLD, kl_TOLD, v_TOLD_blocks, ⟨_, rfl⟩⟩
    k_TOLD_states := ⟨_, _, _, l_TOLD, kl_TOLD, v_TOLD_states, ⟨_, rfl⟩⟩
    k_TOLD_housemeetings := ⟨_, _, _, l_TOLD, kl_TOLD, v_TOLD_housemeetings, ⟨_, rfl⟩⟩
    l_Table := ⟨pg_Table, hd_Table, po_Table, sa_Table⟩
    n_Table_ladder_kept := n_Table_ladder_kept
    n_Table_counts_list := n_Table_counts_list
    l_Ladder := ⟨pg_Ladder, hd_Ladder, po_Ladder, sa_Ladder⟩
    n_Ladder_lanes_number := n_Ladder_lanes_number
    n_Ladder_falls_list := n_Ladder_falls_list
    n_Ladder_returns_kept := n_Ladder_returns_kept
    n_Ladder_loads_table := n_Ladder_loads_table
    n_Ladder_heads_list := n_Ladder_heads_list
    n_Ladder_worths_list := n_Ladder_worths_list
    o_TooMany := ⟨⟨_, _, _, _, _, _, _, _, _, _, _, _, _, _, _, xl_TooMany, rv_TooMany⟩, sa_TooMany, ec_TooMany, ty_TooMany, kc_TooMany⟩
    x_TooMany := ⟨ga_TooMany, gg_TooMany, ec_TooMany, hd_TooMany⟩
    g_TooMany := PySem.W.mg_of X G g_TooMany
    m_TooMany := exm_own ec_TooMany ic_TooMany ty_TooMany ss_TooMany
    n_TooMany_what := n_TooMany_what
    o_BadLadder := ⟨⟨_, _, _, _, _, _, _, _, _, _, _, _, _, _, _, xl_BadLadder, rv_BadLadder⟩, sa_BadLadder, ec_BadLadder, ty_BadLadder, kc_BadLadder⟩
    x_BadLadder := ⟨ga_BadLadder, gg_BadLadder, ec_BadLadder, hd_BadLadder⟩
    g_BadLadder := PySem.W.mg_of X G g_BadLadder
    m_BadLadder := exm_own ec_BadLadder ic_BadLadder ty_BadLadder ss_BadLadder
    n_BadLadder_rung := n_BadLadder_rung
    o_BadTable := ⟨⟨_, _, _, _, _, _, _, _, _, _, _, _, _, _, _, xl_BadTable, rv_BadTable⟩, sa_BadTable, ec_BadTable, ty_BadTable, kc_BadTable⟩
    x_BadTable := ⟨ga_BadTable, gg_BadTable, ec_BadTable, hd_BadTable⟩
    g_BadTable := PySem.W.mg_of X G g_BadTable
    m_BadTable := exm_own ec_BadTable ic_BadTable ty_BadTable ss_BadTable
    n_BadTable_rung := n_BadTable_rung
    o_BadDemand := ⟨⟨_, _, _, _, _, _, _, _, _, _, _, _, _, _, _, xl_BadDemand, rv_BadDemand⟩, sa_BadDemand, ec_BadDemand, ty_BadDemand, kc_BadDemand⟩
    x_BadDemand := ⟨ga_BadDemand, gg_BadDemand, ec_BadDemand, hd_BadDemand⟩
    g_BadDemand := PySem.W.mg_of X G g_BadDemand
    m_BadDemand := exm_own ec_BadDemand ic_BadDemand ty_BadDemand ss_BadDemand
    n_BadDemand_what := n_BadDemand_what
    g_WinsError := PySem.W.mg_of X G g_WinsError
    wg_WinsError := wg_WinsError
    wr_WinsError := wr_WinsError
    wv_WinsError := wv_WinsError
    g_BadText := PySem.W.mg_of X G g_BadText
    g_BadSeason := PySem.W.mg_of X G g_BadSeason
    g_BadCode := PySem.W.mg_of X G g_BadCode
    g_BadEvent := PySem.W.mg_of X G g_BadEvent
    g_BadFoe := PySem.W.mg_of X G g_BadFoe
    g_BadPaper := PySem.W.mg_of X G g_BadPaper
    g_BadDisk := PySem.W.mg_of X G g_BadDisk
    g_BadDeed := PySem.W.mg_of X G g_BadDeed
    xi_TooMany := ⟨ic_TooMany, ga_TooMany, gg_TooMany, ec_TooMany, xc_TooMany, xg_TooMany, xt_TooMany, xm_TooMany⟩
    ki_TooMany_TooMany := ki_TooMany_TooMany
    ki_TooMany_BadLadder := ki_TooMany_BadLadder
    ki_TooMany_BadTable := ki_TooMany_BadTable
    ki_TooMany_BadDemand := ki_TooMany_BadDemand
    ki_TooMany_ValueError := ki_TooMany_ValueError
    ka_TooMany_0 := ka_TooMany_0
    mm_TooMany_WinsError := mm_TooMany_WinsError
    xi_BadLadder := ⟨ic_BadLadder, ga_BadLadder, gg_BadLadder, ec_BadLadder, xc_BadLadder, xg_BadLadder, xt_BadLadder, xm_BadLadder⟩
    ki_BadLadder_TooMany := ki_BadLadder_TooMany
    ki_BadLadder_BadLadder := ki_BadLadder_BadLadder
    ki_BadLadder_BadTable := ki_BadLadder_BadTable
    ki_BadLadder_BadDemand := ki_BadLadder_BadDemand
    ki_BadLadder_ValueError := ki_BadLadder_ValueError
    ka_BadLadder_0 := ka_BadLadder_0
    mm_BadLadder_WinsError := mm_BadLadder_WinsError
    xi_BadTable := ⟨ic_BadTable, ga_BadTable, gg_BadTable, ec_BadTable, xc_BadTable, xg_BadTable, xt_BadTable, xm_BadTable⟩
    ki_BadTable_TooMany := ki_BadTable_TooMany
    ki_BadTable_BadLadder := ki_BadTable_BadLadder
    ki_BadTable_BadTable := ki_BadTable_BadTable
    ki_BadTable_BadDemand := ki_BadTable_BadDemand
    ki_BadTable_ValueError := ki_BadTable_ValueError
    ka_BadTable_0 := ka_BadTable_0
    mm_BadTable_WinsError := mm_BadTable_WinsError
    xi_BadDemand := ⟨ic_BadDemand, ga_BadDemand, gg_BadDemand, ec_BadDemand, xc_BadDemand, xg_BadDemand, xt_BadDemand, xm_BadDemand⟩
    ki_BadDemand_TooMany := ki_BadDemand_TooMany
    ki_BadDemand_BadLadder := ki_BadDemand_BadLadder
    ki_BadDemand_BadTable := ki_BadDemand_BadTable
    ki_BadDemand_BadDemand := ki_BadDemand_BadDemand
    ki_BadDemand_ValueError := ki_BadDemand_ValueError
    ka_BadDemand_0 := ka_BadDemand_0
    mm_BadDemand_WinsError := mm_BadDemand_WinsError
    f_TooMany_init := ⟨_, _, F_TooMany_init, at_TooMany_init, tf_TooMany_init, B_TooMany_init⟩
    f_BadLadder_init := ⟨_, _, F_BadLadder_init, at_BadLadder_init, tf_BadLadder_init, B_BadLadder_init⟩
    f_BadTable_init := ⟨_, _, F_BadTable_init, at_BadTable_init, tf_BadTable_init, B_BadTable_init⟩
    f_BadDemand_init := ⟨_, _, F_BadDemand_init, at_BadDemand_init, tf_BadDemand_init, B_BadDemand_init⟩
    f_bound := ⟨_, _, F_bound, PySem.W.mg_of X G at_bound, B_bound⟩
    f_grown := ⟨_, _, F_grown, PySem.W.mg_of X G at_grown, B_grown⟩
    f_load_rows := ⟨_, _, F_load_rows, PySem.W.mg_of X G at_load_rows, B_load_rows⟩
    f_head_row := ⟨_, _, F_head_row, PySem.W.mg_of X G at_head_row, B_head_row⟩
    f_worth_row := ⟨_, _, F_worth_row, PySem.W.mg_of X G at_worth_row, B_worth_row⟩
    f_wrong_count := ⟨_, _, F_wrong_count, PySem.W.mg_of X G at_wrong_count, B_wrong_count⟩
    f_Table_init := ⟨_, _, F_Table_init, ⟨mk_Table, at_Table_init, fn_Table_init, kc_Table⟩, PySem.W.mg_of X G g_Table, B_Table_init⟩
    f_Table_ladder := ⟨_, _, F_Table_ladder, ⟨at_Table_ladder, fn_Table_ladder, kp_Table_ladder⟩, B_Table_ladder⟩
    f_Table_counts := ⟨_, _, F_Table_counts, ⟨at_Table_counts, fn_Table_counts, kp_Table_counts⟩, B_Table_counts⟩
    f_Table_on := ⟨_, _, F_Table_on, ⟨at_Table_on, fn_Table_on, kp_Table_on⟩, B_Table_on⟩
    f_Table_load := ⟨_, _, F_Table_load, ⟨at_Table_load, fn_Table_load, kp_Table_load⟩, B_Table_load⟩
    f_Table_level := ⟨_, _, F_Table_level, ⟨at_Table_level, fn_Table_level, kp_Table_level⟩, B_Table_level⟩
    f_Table_check_called := ⟨_, _, F_Table_check_called, ⟨at_Table_check_called, fn_Table_check_called, kp_Table_check_called⟩, B_Table_check_called⟩
    f_Table_behind := ⟨_, _, F_Table_behind, ⟨at_Table_behind, fn_Table_behind, kp_Table_behind⟩, B_Table_behind⟩
    f_bill_of := ⟨_, _, F_bill_of, PySem.W.mg_of X G at_bill_of, B_bill_of⟩
    f_reached_counts := ⟨_, _, F_reached_counts, PySem.W.mg_of X G at_reached_counts, B_reached_counts⟩
    f_next_rung := ⟨_, _, F_next_rung, PySem.W.mg_of X G at_next_rung, B_next_rung⟩
    f_hidden_season := ⟨_, _, F_hidden_season, PySem.W.mg_of X G at_hidden_season, B_hidden_season⟩
    f_wrong_rung := ⟨_, _, F_wrong_rung, PySem.W.mg_of X G at_wrong_rung, B_wrong_rung⟩
    f_Ladder_init := ⟨_, _, F_Ladder_init, ⟨mk_Ladder, at_Ladder_init, fn_Ladder_init, kc_Ladder⟩, PySem.W.mg_of X G g_Ladder, B_Ladder_init⟩
    f_Ladder_same_as := ⟨_, _, F_Ladder_same_as, ⟨at_Ladder_same_as, fn_Ladder_same_as, kp_Ladder_same_as⟩, B_Ladder_same_as⟩
    f_Ladder_lanes := ⟨_, _, F_Ladder_lanes, ⟨at_Ladder_lanes, fn_Ladder_lanes, kp_Ladder_lanes⟩, B_Ladder_lanes⟩
    f_Ladder_rungs := ⟨_, _, F_Ladder_rungs, ⟨at_Ladder_rungs, fn_Ladder_rungs, kp_Ladder_rungs⟩, B_Ladder_rungs⟩
    f_Ladder_falls := ⟨_, _, F_Ladder_falls, ⟨at_Ladder_falls, fn_Ladder_falls, kp_Ladder_falls⟩, B_Ladder_falls⟩
    f_Ladder_returns := ⟨_, _, F_Ladder_returns, ⟨at_Ladder_returns, fn_Ladder_returns, kp_Ladder_returns⟩, B_Ladder_returns⟩
    f_Ladder_check_rung := ⟨_, _, F_Ladder_check_rung, ⟨at_Ladder_check_rung, fn_Ladder_check_rung, kp_Ladder_check_rung⟩, B_Ladder_check_rung⟩
    f_Ladder_check_place := ⟨_, _, F_Ladder_check_place, ⟨at_Ladder_check_place, fn_Ladder_check_place, kp_Ladder_check_place⟩, B_Ladder_check_place⟩
    f_Ladder_fall := ⟨_, _, F_Ladder_fall, ⟨at_Ladder_fall, fn_Ladder_fall, kp_Ladder_fall⟩, B_Ladder_fall⟩
    f_Ladder_load := ⟨_, _, F_Ladder_load, ⟨at_Ladder_load, fn_Ladder_load, kp_Ladder_load⟩, B_Ladder_load⟩
    f_Ladder_weights := ⟨_, _, F_Ladder_weights, ⟨at_Ladder_weights, fn_Ladder_weights, kp_Ladder_weights⟩, B_Ladder_weights⟩
    f_law_e_named := ⟨_, _, F_law_e_named, PySem.W.mg_of X G at_law_e_named, B_law_e_named⟩
    f_law_e_asked := ⟨_, _, F_law_e_asked, PySem.W.mg_of X G at_law_e_asked, B_law_e_asked⟩
    f_law_e_refused := ⟨_, _, F_law_e_refused, PySem.W.mg_of X G at_law_e_refused, B_law_e_refused⟩
    f_law_e_falls := ⟨_, _, F_law_e_falls, PySem.W.mg_of X G at_law_e_falls, B_law_e_falls⟩
    f_law_e_ladder := ⟨_, _, F_law_e_ladder, PySem.W.mg_of X G at_law_e_ladder, B_law_e_ladder⟩
    f_law_e_low := ⟨_, _, F_law_e_low, PySem.W.mg_of X G at_law_e_low, B_law_e_low⟩
    f_law_e_loads := ⟨_, _, F_law_e_loads, PySem.W.mg_of X G at_law_e_loads, B_law_e_loads⟩
    f_law_e_sum := ⟨_, _, F_law_e_sum, PySem.W.mg_of X G at_law_e_sum, B_law_e_sum⟩
    f_law_e_behind := ⟨_, _, F_law_e_behind, PySem.W.mg_of X G at_law_e_behind, B_law_e_behind⟩
    f_law_stock := ⟨_, _, F_law_stock, PySem.W.mg_of X G at_law_stock, B_law_stock⟩
    f_law_draw := ⟨_, _, F_law_draw, PySem.W.mg_of X G at_law_draw, B_law_draw⟩
    f_law_matches := ⟨_, _, F_law_matches, PySem.W.mg_of X G at_law_matches, B_law_matches⟩
    f_law_k31_season := ⟨_, _, F_law_k31_season, PySem.W.mg_of X G at_law_k31_season, B_law_k31_season⟩
    f_law_k31_bill := ⟨_, _, F_law_k31_bill, PySem.W.mg_of X G at_law_k31_bill, B_law_k31_bill⟩
    f_law_k31_sums := ⟨_, _, F_law_k31_sums, PySem.W.mg_of X G at_law_k31_sums, B_law_k31_sums⟩
    f_law_k31_thrifty := ⟨_, _, F_law_k31_thrifty, PySem.W.mg_of X G at_law_k31_thrifty, B_law_k31_thrifty⟩
    f_law_k31_due := ⟨_, _, F_law_k31_due, PySem.W.mg_of X G at_law_k31_due, B_law_k31_due⟩
    f_law_k31_asked := ⟨_, _, F_law_k31_asked, PySem.W.mg_of X G at_law_k31_asked, B_law_k31_asked⟩
    f_law_k31_bent := ⟨_, _, F_law_k31_bent, PySem.W.mg_of X G at_law_k31_bent, B_law_k31_bent⟩
    f_law_k31_made := ⟨_, _, F_law_k31_made, PySem.W.mg_of X G at_law_k31_made, B_law_k31_made⟩
    f_law_k31_long := ⟨_, _, F_law_k31_long, rfl, PySem.W.mg_of X G at_law_k31_long, B_law_k31_long⟩
    f_law := ⟨_, _, F_law, rfl, PySem.W.mg_of X G at_law, B_law⟩
  }
  refine ⟨PySem.W.fnOf "law" "law" (defArgs st_law) (defBody st_law) (defScope st_law) .none kV_law dc_law pm_law an_law (.ref c_law) ct_law, [(c_law_k31_long, p_law_k31_long), (c_law, p_law)], sp_law K { a_Table := a_Table, a_Ladder := a_Ladder, a_LIMITS := a_LIMITS, a_TOLD := a_TOLD, a_TooMany := a_TooMany, a_BadLadder := a_BadLadder, a_BadTable := a_BadTable, a_BadDemand := a_BadDemand, a_WinsError := a_WinsError, a_BadText := a_BadText, a_BadSeason := a_BadSeason, a_BadCode := a_BadCode, a_BadEvent := a_BadEvent, a_BadFoe := a_BadFoe, a_BadPaper := a_BadPaper, a_BadDisk := a_BadDisk, a_BadDeed := a_BadDeed, c_law_k31_long := c_law_k31_long, p_law_k31_long := p_law_k31_long, c_law := c_law, p_law := p_law }, List.forall_mem_cons.mpr ⟨tb_law_k31_long, List.forall_mem_cons.mpr ⟨tb_law, fun _ h => nomatch h⟩⟩, List.forall_mem_cons.mpr ⟨nT_law_k31_long, List.forall_mem_cons.mpr ⟨nT_law, fun _ h => nomatch h⟩⟩, List.forall_mem_cons.mpr ⟨PySem.W.codeHd_of_K X hc_law_k31_long, List.forall_mem_cons.mpr ⟨PySem.W.codeHd_of_K X hc_law, fun _ h => nomatch h⟩⟩, fun s v => .of_eq rfl, fun H a ns hl _ hH hS => ⟨a, ns, rfl, hS, hl, ?_, fun _ => rfl⟩, fun base _ _ TB => ok_law T ?_ F_law rfl⟩
  · exact List.forall_mem_cons.mpr ⟨LamX.TabS.nil (hH (c_law_k31_long, p_law_k31_long) (.head _)), List.forall_mem_cons.mpr ⟨LamX.TabS.nil (hH (c_law, p_law) (.tail _ (.head _))), fun _ h => nomatch h⟩⟩
  · exact ⟨TB (c_law_k31_long, p_law_k31_long) (.head _), TB (c_law, p_law) (.tail _ (.head _)), ne_law_law_k31_long⟩
theorem walk {l : PySem.W.OpenLaw} {q : Program} {loose : List Str} {XP : (Str → Option Value) → Heap → Prop} {YP : World → Heap → Prop} {d : DefRec} {K : Params → PySem.W.Frag} (hn : l.most = some 63) (hdf : d.params.defaults = [])
    (hY : ∀ (w : World) (h : Heap), YP w h → (K w.params).In h)
    (F : ∀ (w : World) (mg : Str → Option Value) (fa : Addr) (h : Heap), YP w h → (K w.params).In h → h.Ns mainGlobals mg → mg d.name = some (.ref fa) → LamX.LawAtS l w (K w.params) CX0 13 63 "script" mg fa h) :
    PySem.W.WalkO q loose XP YP l.row.toRowW d [] (fun f vs => PySem.call f vs) :=
  LamX.walk_ofTs (n := 63) (k := 13) (x := "script") (CX := fun _ => CX0) hn (by decide) hdf ⟨rfl, by decide, by decide⟩ hY F fun _ _ _ _ _ z => z
end L31
open PySem PySem.W PyProof.Rows in
set_option maxRecDepth 100000 in
set_option maxHeartbeats 0 in
theorem PySem.Challenge.cw_whoeverwins_k31_bills_and_hidden_seasons_holds : PySem.Challenge.rw_whoeverwins_k31_bills_and_hidden_seasons.Holds := by
  w_on; o_law; k_head; (case hw => w_witness2)
  k_fill
  refine L31.walk (l := PySem.Challenge.rw_whoeverwins_k31_bills_and_hidden_seasons) rfl rfl (fun w h Y => PySem.W.km_in_of Y) ?F
  case F =>
    intro w mg fa h Y KX G hmg
    refine' L31.all_mk KX G hmg ?g_Table ?pg_Table ?hd_Table ?po_Table ?sa_Table ?mk_Table ?kc_Table ?g_Ladder ?pg_Ladder ?hd_Ladder ?po_Ladder ?sa_Ladder ?mk_Ladder ?kc_Ladder ?b_ValueError ?b_abs ?b_all ?b_bool ?b_enumerate ?b_int ?b_isinstance ?b_len ?b_list ?b_max ?b_min ?b_range ?b_reversed ?b_str ?b_sum ?b_tuple ?c_LIMITS ?l_LIMITS ?kl_LIMITS ?v_LIMITS_lines ?v_LIMITS_words ?v_LIMITS_number ?v_LIMITS_depth ?v_LIMITS_blocks ?v_LIMITS_lanes ?v_LIMITS_rungs ?v_LIMITS_ways ?v_LIMITS_promises ?v_LIMITS_variables ?v_LIMITS_states ?v_LIMITS_rows ?v_LIMITS_events ?v_LIMITS_meetings ?v_LIMITS_housemeetings ?v_LIMITS_rounds ?v_LIMITS_late ?v_LIMITS_plan ?v_LIMITS_nodes ?v_LIMITS_players ?v_LIMITS_log ?v_LIMITS_signs ?c_OUT ?c_TOLD ?l_TOLD ?kl_TOLD ?v_TOLD_blocks ?v_TOLD_states ?v_TOLD_housemeetings ?n_Table_ladder_kept ?n_Table_counts_list ?n_Ladder_lanes_number ?n_Ladder_falls_list ?n_Ladder_returns_kept ?n_Ladder_loads_table ?n_Ladder_heads_list ?n_Ladder_worths_list ?g_TooMany ?xl_TooMany ?rv_TooMany ?sa_TooMany ?ec_TooMany ?ty_TooMany ?kc_TooMany ?ga_TooMany ?gg_TooMany ?hd_TooMany ?ic_TooMany ?ss_TooMany ?n_TooMany_what ?g_BadLadder ?xl_BadLadder ?rv_BadLadder ?sa_BadLadder ?ec_BadLadder ?ty_BadLadder ?kc_BadLadder ?ga_BadLadder ?gg_BadLadder ?hd_BadLadder ?ic_BadLadder ?ss_BadLadder ?n_BadLadder_rung ?g_BadTable ?xl_BadTable ?rv_BadTable ?sa_BadTable ?ec_BadTable ?ty_BadTable ?kc_BadTable ?ga_BadTable ?gg_BadTable ?hd_BadTable ?ic_BadTable ?ss_BadTable ?n_BadTable_rung ?g_BadDemand ?xl_BadDemand ?rv_BadDemand ?sa_BadDemand ?ec_BadDemand ?ty_BadDemand ?kc_BadDemand ?ga_BadDemand ?gg_BadDemand ?hd_BadDemand ?ic_BadDemand ?ss_BadDemand ?n_BadDemand_what ?g_WinsError ?wg_WinsError ?wr_WinsError ?wv_WinsError ?g_BadText ?g_BadSeason ?g_BadCode ?g_BadEvent ?g_BadFoe ?g_BadPaper ?g_BadDisk ?g_BadDeed ?xc_TooMany ?xg_TooMany ?xt_TooMany ?xm_TooMany ?ki_TooMany_TooMany ?ki_TooMany_BadLadder ?ki_TooMany_BadTable ?ki_TooMany_BadDemand ?ki_TooMany_ValueError ?ka_TooMany_0 ?mm_TooMany_WinsError ?xc_BadLadder ?xg_BadLadder ?xt_BadLadder ?xm_BadLadder ?ki_BadLadder_TooMany ?ki_BadLadder_BadLadder ?ki_BadLadder_BadTable ?ki_BadLadder_BadDemand ?ki_BadLadder_ValueError ?ka_BadLadder_0 ?mm_BadLadder_WinsError ?xc_BadTable ?xg_BadTable ?xt_BadTable ?xm_BadTable ?ki_BadTable_TooMany ?ki_BadTable_BadLadder ?ki_BadTable_BadTable ?ki_BadTable_BadDemand ?ki_BadTable_ValueError ?ka_BadTable_0 ?mm_BadTable_WinsError ?xc_BadDemand ?xg_BadDemand ?xt_BadDemand ?xm_BadDemand ?ki_BadDemand_TooMany ?ki_BadDemand_BadLadder ?ki_BadDemand_BadTable ?ki_BadDemand_BadDemand ?ki_BadDemand_ValueError ?ka_BadDemand_0 ?mm_BadDemand_WinsError ?at_TooMany_init ?tf_TooMany_init ?lk_TooMany_init ?co_TooMany_init ?kp_TooMany_init ?at_BadLadder_init ?tf_BadLadder_init ?lk_BadLadder_init ?co_BadLadder_init ?kp_BadLadder_init ?at_BadTable_init ?tf_BadTable_init ?lk_BadTable_init ?co_BadTable_init ?kp_BadTable_init ?at_BadDemand_init ?tf_BadDemand_init ?lk_BadDemand_init ?co_BadDemand_init ?kp_BadDemand_init ?at_bound ?lk_bound ?co_bound ?kp_bound ?at_grown ?lk_grown ?co_grown ?kp_grown ?at_load_rows ?lk_load_rows ?co_load_rows ?kp_load_rows ?at_head_row ?lk_head_row ?co_head_row ?kp_head_row ?at_worth_row ?lk_worth_row ?co_worth_row ?kp_worth_row ?at_wrong_count ?lk_wrong_count ?co_wrong_count ?kp_wrong_count ?at_Table_init ?fn_Table_init ?lk_Table_init ?co_Table_init ?kp_Table_init ?at_Table_ladder ?fn_Table_ladder ?lk_Table_ladder ?co_Table_ladder ?kp_Table_ladder ?at_Table_counts ?fn_Table_counts ?lk_Table_counts ?co_Table_counts ?kp_Table_counts ?at_Table_on ?fn_Table_on ?lk_Table_on ?co_Table_on ?kp_Table_on ?at_Table_load ?fn_Table_load ?lk_Table_load ?co_Table_load ?kp_Table_load ?at_Table_level ?fn_Table_level ?lk_Table_level ?co_Table_level ?kp_Table_level ?at_Table_check_called ?fn_Table_check_called ?lk_Table_check_called ?co_Table_check_called ?kp_Table_check_called ?at_Table_behind ?fn_Table_behind ?lk_Table_behind ?co_Table_behind ?kp_Table_behind ?at_bill_of ?lk_bill_of ?co_bill_of ?kp_bill_of ?at_reached_counts ?lk_reached_counts ?co_reached_counts ?kp_reached_counts ?at_next_rung ?lk_next_rung ?co_next_rung ?kp_next_rung ?at_hidden_season ?lk_hidden_season ?co_hidden_season ?kp_hidden_season ?at_wrong_rung ?lk_wrong_rung ?co_wrong_rung ?kp_wrong_rung ?at_Ladder_init ?fn_Ladder_init ?lk_Ladder_init ?co_Ladder_init ?kp_Ladder_init ?at_Ladder_same_as ?fn_Ladder_same_as ?lk_Ladder_same_as ?co_Ladder_same_as ?kp_Ladder_same_as ?at_Ladder_lanes ?fn_Ladder_lanes ?lk_Ladder_lanes ?co_Ladder_lanes ?kp_Ladder_lanes ?at_Ladder_rungs ?fn_Ladder_rungs ?lk_Ladder_rungs ?co_Ladder_rungs ?kp_Ladder_rungs ?at_Ladder_falls ?fn_Ladder_falls ?lk_Ladder_falls ?co_Ladder_falls ?kp_Ladder_falls ?at_Ladder_returns ?fn_Ladder_returns ?lk_Ladder_returns ?co_Ladder_returns ?kp_Ladder_returns ?at_Ladder_check_rung ?fn_Ladder_check_rung ?lk_Ladder_check_rung ?co_Ladder_check_rung ?kp_Ladder_check_rung ?at_Ladder_check_place ?fn_Ladder_check_place ?lk_Ladder_check_place ?co_Ladder_check_place ?kp_Ladder_check_place ?at_Ladder_fall ?fn_Ladder_fall ?lk_Ladder_fall ?co_Ladder_fall ?kp_Ladder_fall ?at_Ladder_load ?fn_Ladder_load ?lk_Ladder_load ?co_Ladder_load ?kp_Ladder_load ?at_Ladder_weights ?fn_Ladder_weights ?lk_Ladder_weights ?co_Ladder_weights ?kp_Ladder_weights ?at_law_e_named ?lk_law_e_named ?co_law_e_named ?kp_law_e_named ?at_law_e_asked ?lk_law_e_asked ?co_law_e_asked ?kp_law_e_asked ?at_law_e_refused ?lk_law_e_refused ?co_law_e_refused ?kp_law_e_refused ?at_law_e_falls ?lk_law_e_falls ?co_law_e_falls ?kp_law_e_falls ?at_law_e_ladder ?lk_law_e_ladder ?co_law_e_ladder ?kp_law_e_ladder ?at_law_e_low ?lk_law_e_low ?co_law_e_low ?kp_law_e_low ?at_law_e_loads ?lk_law_e_loads ?co_law_e_loads ?kp_law_e_loads ?at_law_e_sum ?lk_law_e_sum ?co_law_e_sum ?kp_law_e_sum ?at_law_e_behind ?lk_law_e_behind ?co_law_e_behind ?kp_law_e_behind ?at_law_stock ?lk_law_stock ?co_law_stock ?kp_law_stock ?at_law_draw ?lk_law_draw ?co_law_draw ?kp_law_draw ?at_law_matches ?lk_law_matches ?co_law_matches ?kp_law_matches ?at_law_k31_season ?lk_law_k31_season ?co_law_k31_season ?kp_law_k31_season ?at_law_k31_bill ?lk_law_k31_bill ?co_law_k31_bill ?kp_law_k31_bill ?at_law_k31_sums ?lk_law_k31_sums ?co_law_k31_sums ?kp_law_k31_sums ?at_law_k31_thrifty ?lk_law_k31_thrifty ?co_law_k31_thrifty ?kp_law_k31_thrifty ?at_law_k31_due ?lk_law_k31_due ?co_law_k31_due ?kp_law_k31_due ?at_law_k31_asked ?lk_law_k31_asked ?co_law_k31_asked ?kp_law_k31_asked ?at_law_k31_bent ?lk_law_k31_bent ?co_law_k31_bent ?kp_law_k31_bent ?at_law_k31_made ?lk_law_k31_made ?co_law_k31_made ?kp_law_k31_made ?at_law_k31_long ?lk_law_k31_long ?co_law_k31_long ?kp_law_k31_long ?vc_law_k31_long ?v11_law_k31_long ?hc_law_k31_long ?nT_law_k31_long ?tb_law_k31_long ?at_law ?lk_law ?co_law ?kp_law ?vc_law ?v11_law ?hc_law ?nT_law ?tb_law ?ne_law_law_k31_long
    (case g_Table => k_is)
    (case pg_Table => k_is)
    (case hd_Table => k_is)
    (case po_Table => k_is)
    (case sa_Table => k_is)
    (case mk_Table => k_is)
    (case kc_Table => k_is)
    (case g_Ladder => k_is)
    (case pg_Ladder => k_is)
    (case hd_Ladder => k_is)
    (case po_Ladder => k_is)
    (case sa_Ladder => k_is)
    (case mk_Ladder => k_is)
    (case kc_Ladder => k_is)
    (case b_ValueError => k_is)
    (case b_abs => k_is)
    (case b_all => k_is)
    (case b_bool => k_is)
    (case b_enumerate => k_is)
    (case b_int => k_is)
    (case b_isinstance => k_is)
    (case b_len => k_is)
    (case b_list => k_is)
    (case b_max => k_is)
    (case b_min => k_is)
    (case b_range => k_is)
    (case b_reversed => k_is)
    (case b_str => k_is)
    (case b_sum => k_is)
    (case b_tuple => k_is)
    (case c_LIMITS => k_is)
    (case l_LIMITS => k_is)
    (case kl_LIMITS => exact ⟨⟨_, _, rfl, rfl⟩, ⟨⟨_, _, rfl, rfl⟩, ⟨⟨_, _, rfl, rfl⟩, ⟨⟨_, _, rfl, rfl⟩, ⟨⟨_, _, rfl, rfl⟩, ⟨⟨_, _, rfl, rfl⟩, ⟨⟨_, _, rfl, rfl⟩, ⟨⟨_, _, rfl, rfl⟩, ⟨⟨_, _, rfl, rfl⟩, ⟨⟨_, _, rfl, rfl⟩, ⟨⟨_, _, rfl, rfl⟩, ⟨⟨_, _, rfl, rfl⟩, ⟨⟨_, _, rfl, rfl⟩, ⟨⟨_, _, rfl, rfl⟩, ⟨⟨_, _, rfl, rfl⟩, ⟨⟨_, _, rfl, rfl⟩, ⟨⟨_, _, rfl, rfl⟩, ⟨⟨_, _, rfl, rfl⟩, ⟨⟨_, _, rfl, rfl⟩, ⟨⟨_, _, rfl, rfl⟩, ⟨⟨_, _, rfl, rfl⟩, ⟨⟨_, _, rfl, rfl⟩, trivial⟩⟩⟩⟩⟩⟩⟩⟩⟩⟩⟩⟩⟩⟩⟩⟩⟩⟩⟩⟩⟩⟩)
    (case v_LIMITS_lines => k_is)
    (case v_LIMITS_words => k_is)
    (case v_LIMITS_number => k_is)
    (case v_LIMITS_depth => k_is)
    (case v_LIMITS_blocks => k_is)
    (case v_LIMITS_lanes => k_is)
    (case v_LIMITS_rungs => k_is)
    (case v_LIMITS_ways => k_is)
    (case v_LIMITS_promises => k_is)
    (case v_LIMITS_variables => k_is)
    (case v_LIMITS_states => k_is)
    (case v_LIMITS_rows => k_is)
    (case v_LIMITS_events => k_is)
    (case v_LIMITS_meetings => k_is)
    (case v_LIMITS_housemeetings => k_is)
    (case v_LIMITS_rounds => k_is)
    (case v_LIMITS_late => k_is)
    (case v_LIMITS_plan => k_is)
    (case v_LIMITS_nodes => k_is)
    (case v_LIMITS_players => k_is)
    (case v_LIMITS_log => k_is)
    (case v_LIMITS_signs => k_is)
    (case c_OUT => k_is)
    (case c_TOLD => k_is)
    (case l_TOLD => k_is)
    (case kl_TOLD => exact ⟨⟨_, _, rfl, rfl⟩, ⟨⟨_, _, rfl, rfl⟩, ⟨⟨_, _, rfl, rfl⟩, trivial⟩⟩⟩)
    (case v_TOLD_blocks => k_is)
    (case v_TOLD_states => k_is)
    (case v_TOLD_housemeetings => k_is)
    (case n_Table_ladder_kept => k_is)
    (case n_Table_counts_list => k_is)
    (case n_Ladder_lanes_number => k_is)
    (case n_Ladder_falls_list => k_is)
    (case n_Ladder_returns_kept => k_is)
    (case n_Ladder_loads_table => k_is)
    (case n_Ladder_heads_list => k_is)
    (case n_Ladder_worths_list => k_is)
    (case g_TooMany => k_is)
    (case xl_TooMany => k_is)
    (case rv_TooMany => first | rfl | decide +kernel | k_is)
    (case sa_TooMany => k_is)
    (case ec_TooMany => k_is)
    (case ty_TooMany => k_is)
    (case kc_TooMany => k_is)
    (case ga_TooMany => k_is)
    (case gg_TooMany => k_is)
    (case hd_TooMany => k_is)
    (case ic_TooMany => k_is)
    (case ss_TooMany => first | rfl | k_is)
    (case n_TooMany_what => k_is)
    (case g_BadLadder => k_is)
    (case xl_BadLadder => k_is)
    (case rv_BadLadder => first | rfl | decide +kernel | k_is)
    (case sa_BadLadder => k_is)
    (case ec_BadLadder => k_is)
    (case ty_BadLadder => k_is)
    (case kc_BadLadder => k_is)
    (case ga_BadLadder => k_is)
    (case gg_BadLadder => k_is)
    (case hd_BadLadder => k_is)
    (case ic_BadLadder => k_is)
    (case ss_BadLadder => first | rfl | k_is)
    (case n_BadLadder_rung => k_is)
    (case g_BadTable => k_is)
    (case xl_BadTable => k_is)
    (case rv_BadTable => first | rfl | decide +kernel | k_is)
    (case sa_BadTable => k_is)
    (case ec_BadTable => k_is)
    (case ty_BadTable => k_is)
    (case kc_BadTable => k_is)
    (case ga_BadTable => k_is)
    (case gg_BadTable => k_is)
    (case hd_BadTable => k_is)
    (case ic_BadTable => k_is)
    (case ss_BadTable => first | rfl | k_is)
    (case n_BadTable_rung => k_is)
    (case g_BadDemand => k_is)
    (case xl_BadDemand => k_is)
    (case rv_BadDemand => first | rfl | decide +kernel | k_is)
    (case sa_BadDemand => k_is)
    (case ec_BadDemand => k_is)
    (case ty_BadDemand => k_is)
    (case kc_BadDemand => k_is)
    (case ga_BadDemand => k_is)
    (case gg_BadDemand => k_is)
    (case hd_BadDemand => k_is)
    (case ic_BadDemand => k_is)
    (case ss_BadDemand => first | rfl | k_is)
    (case n_BadDemand_what => k_is)
    (case g_WinsError => k_is)
    (case wg_WinsError => k_is)
    (case wr_WinsError => k_is)
    (case wv_WinsError => k_is)
    (case g_BadText => k_is)
    (case g_BadSeason => k_is)
    (case g_BadCode => k_is)
    (case g_BadEvent => k_is)
    (case g_BadFoe => k_is)
    (case g_BadPaper => k_is)
    (case g_BadDisk => k_is)
    (case g_BadDeed => k_is)
    (case xc_TooMany => k_is)
    (case xg_TooMany => k_is)
    (case xt_TooMany => first | k_is | kernel_rfl | rfl)
    (case xm_TooMany => first | k_is | kernel_rfl | rfl)
    (case ki_TooMany_TooMany => first | k_is | kernel_rfl | rfl)
    (case ki_TooMany_BadLadder => first | k_is | kernel_rfl | rfl)
    (case ki_TooMany_BadTable => first | k_is | kernel_rfl | rfl)
    (case ki_TooMany_BadDemand => first | k_is | kernel_rfl | rfl)
    (case ki_TooMany_ValueError => first | k_is | kernel_rfl | rfl)
    (case ka_TooMany_0 => first | k_is | kernel_rfl | rfl)
    (case mm_TooMany_WinsError => first | k_is | kernel_rfl | rfl)
    (case xc_BadLadder => k_is)
    (case xg_BadLadder => k_is)
    (case xt_BadLadder => first | k_is | kernel_rfl | rfl)
    (case xm_BadLadder => first | k_is | kernel_rfl | rfl)
    (case ki_BadLadder_TooMany => first | k_is | kernel_rfl | rfl)
    (case ki_BadLadder_BadLadder => first | k_is | kernel_rfl | rfl)
    (case ki_BadLadder_BadTable => first | k_is | kernel_rfl | rfl)
    (case ki_BadLadder_BadDemand => first | k_is | kernel_rfl | rfl)
    (case ki_BadLadder_ValueError => first | k_is | kernel_rfl | rfl)
    (case ka_BadLadder_0 => first | k_is | kernel_rfl | rfl)
    (case mm_BadLadder_WinsError => first | k_is | kernel_rfl | rfl)
    (case xc_BadTable => k_is)
    (case xg_BadTable => k_is)
    (case xt_BadTable => first | k_is | kernel_rfl | rfl)
    (case xm_BadTable => first | k_is | kernel_rfl | rfl)
    (case ki_BadTable_TooMany => first | k_is | kernel_rfl | rfl)
    (case ki_BadTable_BadLadder => first | k_is | kernel_rfl | rfl)
    (case ki_BadTable_BadTable => first | k_is | kernel_rfl | rfl)
    (case ki_BadTable_BadDemand => first | k_is | kernel_rfl | rfl)
    (case ki_BadTable_ValueError => first | k_is | kernel_rfl | rfl)
    (case ka_BadTable_0 => first | k_is | kernel_rfl | rfl)
    (case mm_BadTable_WinsError => first | k_is | kernel_rfl | rfl)
    (case xc_BadDemand => k_is)
    (case xg_BadDemand => k_is)
    (case xt_BadDemand => first | k_is | kernel_rfl | rfl)
    (case xm_BadDemand => first | k_is | kernel_rfl | rfl)
    (case ki_BadDemand_TooMany => first | k_is | kernel_rfl | rfl)
    (case ki_BadDemand_BadLadder => first | k_is | kernel_rfl | rfl)
    (case ki_BadDemand_BadTable => first | k_is | kernel_rfl | rfl)
    (case ki_BadDemand_BadDemand => first | k_is | kernel_rfl | rfl)
    (case ki_BadDemand_ValueError => first | k_is | kernel_rfl | rfl)
    (case ka_BadDemand_0 => first | k_is | kernel_rfl | rfl)
    (case mm_BadDemand_WinsError => first | k_is | kernel_rfl | rfl)
    (case at_TooMany_init => k_is)
    (case tf_TooMany_init => k_is)
    (case lk_TooMany_init => k_is)
    (case co_TooMany_init => k_is)
    (case kp_TooMany_init => k_is)
    (case at_BadLadder_init => k_is)
    (case tf_BadLadder_init => k_is)
    (case lk_BadLadder_init => k_is)
    (case co_BadLadder_init => k_is)
    (case kp_BadLadder_init => k_is)
    (case at_BadTable_init => k_is)
    (case tf_BadTable_init => k_is)
    (case lk_BadTable_init => k_is)
    (case co_BadTable_init => k_is)
    (case kp_BadTable_init => k_is)
    (case at_BadDemand_init => k_is)
    (case tf_BadDemand_init => k_is)
    (case lk_BadDemand_init => k_is)
    (case co_BadDemand_init => k_is)
    (case kp_BadDemand_init => k_is)
    (case at_bound => k_is)
    (case lk_bound => k_is)
    (case co_bound => k_is)
    (case kp_bound => k_is)
    (case at_grown => k_is)
    (case lk_grown => k_is)
    (case co_grown => k_is)
    (case kp_grown => k_is)
    (case at_load_rows => k_is)
    (case lk_load_rows => k_is)
    (case co_load_rows => k_is)
    (case kp_load_rows => k_is)
    (case at_head_row => k_is)
    (case lk_head_row => k_is)
    (case co_head_row => k_is)
    (case kp_head_row => k_is)
    (case at_worth_row => k_is)
    (case lk_worth_row => k_is)
    (case co_worth_row => k_is)
    (case kp_worth_row => k_is)
    (case at_wrong_count => k_is)
    (case lk_wrong_count => k_is)
    (case co_wrong_count => k_is)
    (case kp_wrong_count => k_is)
    (case at_Table_init => k_is)
    (case fn_Table_init => k_is)
    (case lk_Table_init => k_is)
    (case co_Table_init => k_is)
    (case kp_Table_init => k_is)
    (case at_Table_ladder => k_is)
    (case fn_Table_ladder => k_is)
    (case lk_Table_ladder => k_is)
    (case co_Table_ladder => k_is)
    (case kp_Table_ladder => k_is)
    (case at_Table_counts => k_is)
    (case fn_Table_counts => k_is)
    (case lk_Table_counts => k_is)
    (case co_Table_counts => k_is)
    (case kp_Table_counts => k_is)
    (case at_Table_on => k_is)
    (case fn_Table_on => k_is)
    (case lk_Table_on => k_is)
    (case co_Table_on => k_is)
    (case kp_Table_on => k_is)
    (case at_Table_load => k_is)
    (case fn_Table_load => k_is)
    (case lk_Table_load => k_is)
    (case co_Table_load => k_is)
    (case kp_Table_load => k_is)
    (case at_Table_level => k_is)
    (case fn_Table_level => k_is)
    (case lk_Table_level => k_is)
    (case co_Table_level => k_is)
    (case kp_Table_level => k_is)
    (case at_Table_check_called => k_is)
    (case fn_Table_check_called => k_is)
    (case lk_Table_check_called => k_is)
    (case co_Table_check_called => k_is)
    (case kp_Table_check_called => k_is)
    (case at_Table_behind => k_is)
    (case fn_Table_behind => k_is)
    (case lk_Table_behind => k_is)
    (case co_Table_behind => k_is)
    (case kp_Table_behind => k_is)
    (case at_bill_of => k_is)
    (case lk_bill_of => k_is)
    (case co_bill_of => k_is)
    (case kp_bill_of => k_is)
    (case at_reached_counts => k_is)
    (case lk_reached_counts => k_is)
    (case co_reached_counts => k_is)
    (case kp_reached_counts => k_is)
    (case at_next_rung => k_is)
    (case lk_next_rung => k_is)
    (case co_next_rung => k_is)
    (case kp_next_rung => k_is)
    (case at_hidden_season => k_is)
    (case lk_hidden_season => k_is)
    (case co_hidden_season => k_is)
    (case kp_hidden_season => k_is)
    (case at_wrong_rung => k_is)
    (case lk_wrong_rung => k_is)
    (case co_wrong_rung => k_is)
    (case kp_wrong_rung => k_is)
    (case at_Ladder_init => k_is)
    (case fn_Ladder_init => k_is)
    (case lk_Ladder_init => k_is)
    (case co_Ladder_init => k_is)
    (case kp_Ladder_init => k_is)
    (case at_Ladder_same_as => k_is)
    (case fn_Ladder_same_as => k_is)
    (case lk_Ladder_same_as => k_is)
    (case co_Ladder_same_as => k_is)
    (case kp_Ladder_same_as => k_is)
    (case at_Ladder_lanes => k_is)
    (case fn_Ladder_lanes => k_is)
    (case lk_Ladder_lanes => k_is)
    (case co_Ladder_lanes => k_is)
    (case kp_Ladder_lanes => k_is)
    (case at_Ladder_rungs => k_is)
    (case fn_Ladder_rungs => k_is)
    (case lk_Ladder_rungs => k_is)
    (case co_Ladder_rungs => k_is)
    (case kp_Ladder_rungs => k_is)
    (case at_Ladder_falls => k_is)
    (case fn_Ladder_falls => k_is)
    (case lk_Ladder_falls => k_is)
    (case co_Ladder_falls => k_is)
    (case kp_Ladder_falls => k_is)
    (case at_Ladder_returns => k_is)
    (case fn_Ladder_returns => k_is)
    (case lk_Ladder_returns => k_is)
    (case co_Ladder_returns => k_is)
    (case kp_Ladder_returns => k_is)
    (case at_Ladder_check_rung => k_is)
    (case fn_Ladder_check_rung => k_is)
    (case lk_Ladder_check_rung => k_is)
    (case co_Ladder_check_rung => k_is)
    (case kp_Ladder_check_rung => k_is)
    (case at_Ladder_check_place => k_is)
    (case fn_Ladder_check_place => k_is)
    (case lk_Ladder_check_place => k_is)
    (case co_Ladder_check_place => k_is)
    (case kp_Ladder_check_place => k_is)
    (case at_Ladder_fall => k_is)
    (case fn_Ladder_fall => k_is)
    (case lk_Ladder_fall => k_is)
    (case co_Ladder_fall => k_is)
    (case kp_Ladder_fall => k_is)
    (case at_Ladder_load => k_is)
    (case fn_Ladder_load => k_is)
    (case lk_Ladder_load => k_is)
    (case co_Ladder_load => k_is)
    (case kp_Ladder_load => k_is)
    (case at_Ladder_weights => k_is)
    (case fn_Ladder_weights => k_is)
    (case lk_Ladder_weights => k_is)
    (case co_Ladder_weights => k_is)
    (case kp_Ladder_weights => k_is)
    (case at_law_e_named => k_is)
    (case lk_law_e_named => k_is)
    (case co_law_e_named => k_is)
    (case kp_law_e_named => k_is)
    (case at_law_e_asked => k_is)
    (case lk_law_e_asked => k_is)
    (case co_law_e_asked => k_is)
    (case kp_law_e_asked => k_is)
    (case at_law_e_refused => k_is)
    (case lk_law_e_refused => k_is)
    (case co_law_e_refused => k_is)
    (case kp_law_e_refused => k_is)
    (case at_law_e_falls => k_is)
    (case lk_law_e_falls => k_is)
    (case co_law_e_falls => k_is)
    (case kp_law_e_falls => k_is)
    (case at_law_e_ladder => k_is)
    (case lk_law_e_ladder => k_is)
    (case co_law_e_ladder => k_is)
    (case kp_law_e_ladder => k_is)
    (case at_law_e_low => k_is)
    (case lk_law_e_low => k_is)
    (case co_law_e_low => k_is)
    (case kp_law_e_low => k_is)
    (case at_law_e_loads => k_is)
    (case lk_law_e_loads => k_is)
    (case co_law_e_loads => k_is)
    (case kp_law_e_loads => k_is)
    (case at_law_e_sum => k_is)
    (case lk_law_e_sum => k_is)
    (case co_law_e_sum => k_is)
    (case kp_law_e_sum => k_is)
    (case at_law_e_behind => k_is)
    (case lk_law_e_behind => k_is)
    (case co_law_e_behind => k_is)
    (case kp_law_e_behind => k_is)
    (case at_law_stock => k_is)
    (case lk_law_stock => k_is)
    (case co_law_stock => k_is)
    (case kp_law_stock => k_is)
    (case at_law_draw => k_is)
    (case lk_law_draw => k_is)
    (case co_law_draw => k_is)
    (case kp_law_draw => k_is)
    (case at_law_matches => k_is)
    (case lk_law_matches => k_is)
    (case co_law_matches => k_is)
    (case kp_law_matches => k_is)
    (case at_law_k31_season => k_is)
    (case lk_law_k31_season => k_is)
    (case co_law_k31_season => k_is)
    (case kp_law_k31_season => k_is)
    (case at_law_k31_bill => k_is)
    (case lk_law_k31_bill => k_is)
    (case co_law_k31_bill => k_is)
    (case kp_law_k31_bill => k_is)
    (case at_law_k31_sums => k_is)
    (case lk_law_k31_sums => k_is)
    (case co_law_k31_sums => k_is)
    (case kp_law_k31_sums => k_is)
    (case at_law_k31_thrifty => k_is)
    (case lk_law_k31_thrifty => k_is)
    (case co_law_k31_thrifty => k_is)
    (case kp_law_k31_thrifty => k_is)
    (case at_law_k31_due => k_is)
    (case lk_law_k31_due => k_is)
    (case co_law_k31_due => k_is)
    (case kp_law_k31_due => k_is)
    (case at_law_k31_asked => k_is)
    (case lk_law_k31_asked => k_is)
    (case co_law_k31_asked => k_is)
    (case kp_law_k31_asked => k_is)
    (case at_law_k31_bent => k_is)
    (case lk_law_k31_bent => k_is)
    (case co_law_k31_bent => k_is)
    (case kp_law_k31_bent => k_is)
    (case at_law_k31_made => k_is)
    (case lk_law_k31_made => k_is)
    (case co_law_k31_made => k_is)
    (case kp_law_k31_made => k_is)
    (case at_law_k31_long => k_is)
    (case lk_law_k31_long => k_is)
    (case co_law_k31_long => k_is)
    (case kp_law_k31_long => k_is)
    (case vc_law_k31_long => k_is)
    (case v11_law_k31_long => rfl)
    (case hc_law_k31_long => first | k_is | kernel_rfl | rfl)
    (case nT_law_k31_long => first | k_is | kernel_rfl | rfl)
    (case tb_law_k31_long => exact PySem.W.km_tabs_of Y _ (by k_mem))
    (case at_law => k_is)
    (case lk_law => k_is)
    (case co_law => k_is)
    (case kp_law => k_is)
    (case vc_law => k_is)
    (case v11_law => rfl)
    (case hc_law => first | k_is | kernel_rfl | rfl)
    (case nT_law => first | k_is | kernel_rfl | rfl)
    (case tb_law => exact PySem.W.km_tabs_of Y _ (by k_mem))
    (case ne_law_law_k31_long => decide)
#print axioms PySem.Challenge.cw_whoeverwins_k31_bills_and_hidden_seasons_holds

