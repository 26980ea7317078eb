import PyProof.Rows.All
import Wide.All
import OpenK.AllK
import Wide.FinOn
import KE.KStateDown
import KE.KCallOwn
import KE.KExcSuper
import Lean
import HandS.ForMost
import HandS.WordsExc
import HandS.Exc
import HandS.TryOnly
import HandS.Defaults
import HandS.Property
import HandS.ClsMeth
import HandS.DictComp
import HandS.Star
import HandS.IsInst
import HandS.More
import HandS.Style
import HandS.FStr
import HandS.Replace
import HandS.TupAny
import HandS.Wide
import HandS.Deep
import HandS.NoneIn
import HandS.ExcInit
import HandS.SortOrd
import HandS.Head0
import HandS.Head1
import HandS.Head2
import HandS.HeadEnd
import HandS.HeadHook1
import HandS.HeadHook2
import PySem.Challenge.RW_unseenflips_k97_whole_costs_of_what_was
import KE.KSuper
import HandS.ExcSuper
import HandS.SortRule
import HandS.HeadNt
set_option Elab.async false
set_option linter.all false
set_option maxRecDepth 100000
set_option maxHeartbeats 4000000
namespace UF
open PySem PySem.Spec PyProof.Rows L2
def top (i : Nat) : Stmt := PySem.Challenge.pw_unseenflips_k97_whole_costs_of_what_was.main.body.getD i (.Pass ⟨0, 0, 0, 0⟩)
abbrev FnP (K : PySem.W.Frag) (x q : Str) (st : Stmt) (dvs : List V) (f : Addr) (fd : FuncData) : Prop := FunD K x q (defArgs st) (defBody st) (defScope st) dvs [] f fd

/-! ### rules -/
section
variable {X : Cx}
theorem ip_addS : PIp X .Add (fun x y H Q => ∃ i j, x = .str i ∧ y = .str j ∧ i.length + j.length ≤ sizeLine ∧ Q (.str (i ++ j)) H) :=
  fun pins s σ H x y v u Q I r1 r2 h => iop_add_str pins s σ H x y v u Q I r1 r2 h
end

/-! ### the rules with the written part told -/
section
variable {X : Cx} {K : PySem.W.Frag} {e o tg : Expr} {es : List Expr} {te ta tv : TE} {t : TA} {pos p2 cpos apos p : Pos} {f : Str} {lo hi : Option Expr} {tl th : TO}
theorem pgt {k n : Nat} {t : TGs} (eK : X.K = K) (hc : X.calm = true) (h : PGs X es t) (hn : (assignEach es X.env).length = n := by rfl) (hst : (assignEach es X.env).findIdx? (·.1) = none := by rfl) : PG X (.Tuple es k pos) (gTup K n t) := by
  subst eK; exact pg_tup hc h hn hst
theorem pil (eK : X.K = K) (hl : PE X e te) : PI X tg e (iList K te) := by subst eK; exact pi_list hl
theorem pit (eK : X.K = K) (hl : PE X e te) : PI X tg e (iTup K te) := by subst eK; exact pi_tup hl
theorem pien {elts : List Expr} {kk : Nat} {tpos : Pos} (eK : X.K = K) (hg : Gl X "enumerate") (hm : X.mg "enumerate" = none) (ha : PA X [e] t) (hs : starEach [e] X.env = [(false, eval e X.env)] := by rfl) :
    PI X (.Tuple elts kk tpos) (.Call (.Name "enumerate" p) [e] [] pos) (iEnum K t) := by subst eK; exact pi_enum hg hm ha hs
theorem pef (eK : X.K = K) (he : PE X e ta) (hb : attributeBase e f X.env (eval e X.env) = eval e X.env := by rfl) : PE X (.Attribute e f pos) (tFld K ta f) := by subst eK; exact pe_fld he hb
theorem ixl (eK : X.K = K) : IxR X (rIxL K) := by subst eK; exact ix_list
theorem ixt (eK : X.K = K) : IxR X (rIxT K) := by subst eK; exact ix_tup
theorem sll (eK : X.K = K) : SlR X (rSlL K) := by subst eK; exact sl_list
theorem slt (eK : X.K = K) : SlR X (rSlA K) := by subst eK; exact sl_tupA
def rLn (K : PySem.W.Frag) : List V → Hp → VK → Prop := fun xs H Q => ∃ x n, xs = [x] ∧ LenV K x H n ∧ Q (.int n) H
theorem cln (eK : X.K = K) : CallR X (.builtin "len") (rLn K) := by subst eK; exact call_len
def rTupO (K : PySem.W.Frag) : List V → Hp → VK → Prop := fun xs H Q => ∃ p ys, xs = [.ref p] ∧ ((SqL K H p ys ∧ ∀ l, H l = none → Q (.ref l) (upd H l (.tup ys))) ∨ (SqT K H p ys ∧ Q (.ref p) H))
theorem ctup (eK : X.K = K) : CallR X (.type "tuple") (rTupO K) := by subst eK; exact call_tuple_of
theorem cmx (eK : X.K = K) (hc : X.calm = true) : CallR X (.builtin "max") (rMax K) := by subst eK; exact cr_max hc
theorem cany (eK : X.K = K) (hc : X.calm = true) : CallR X (.builtin "any") (rAny K) := by subst eK; exact cr_any hc
theorem call' (eK : X.K = K) (hc : X.calm = true) : CallR X (.builtin "all") (rAll K) := by subst eK; exact cr_all hc
theorem cisi (eK : X.K = K) : CallR X (.builtin "isinstance") (rIsi K) := by subst eK; exact call_isi
theorem cisiT (eK : X.K = K) : CallR X (.builtin "isinstance") (rIsiT K) := by subst eK; exact call_isiT
theorem csrtS (eK : X.K = K) : CallR X (.builtin "sorted") (rSortedS K) := by subst eK; exact cr_sortedS
theorem past (eK : X.K = K) (he : PE X e te) (hr : PA X es t) (hs : starEach (.Starred e p :: es) X.env = (true, eval e X.env) :: starEach es X.env := by rfl) : PA X (.Starred e p :: es) (StX.tStar K te t) := by
  subst eK; exact StX.pa_star he hr hs
theorem oeqD (eK : X.K = K) (hu : X.A.units + 64 < cLine) : OpR X (compareOp .Eq) (rEqD K) := by subst eK; exact op_eqD hu
theorem oneD (eK : X.K = K) (hu : X.A.units + 64 < cLine) : OpR X (compareOp .NotEq) (rNeD K) := by subst eK; exact op_neD hu
theorem oin (eK : X.K = K) : OpR X (compareOp .In) (rIn K false) := by subst eK; exact op_in_seq
theorem onin (eK : X.K = K) : OpR X (compareOp .NotIn) (rIn K true) := by subst eK; exact op_notIn_seq
theorem onon (eK : X.K = K) (hu : X.A.units + 64 < cLine) : OpR X (compareOp .In) (rNoneIn K false) := by subst eK; exact op_noneIn hu
def rJn (K : PySem.W.Frag) : V → List V → Hp → VK → Prop := fun x xs H Q => ∃ a p, ∃ ys : List PySem.Str, x = .str a ∧ xs = [.ref p] ∧ (SqL K H p (ys.map V.str) ∨ SqT K H p (ys.map V.str)) ∧
      (ys.map (·.length)).sum + ys.length * a.length ≤ 16777216 ∧ Q (.str (Txt.join a ys)) H
theorem pej (eK : X.K = K) (ho : PE X o ta) (he : PE X e te) (hs : starEach [e] X.env = [(false, eval e X.env)] := by rfl) (hbase : attributeBase o "join" X.env (eval o X.env) = eval o X.env := by rfl) (hline : (apos.endLine == pos.line) = true := by rfl) :
    PE X (.Call (.Attribute o "join" apos) [e] [] pos) (tM1 (rJn K) ta te) := by subst eK; exact pe_join ho he hs hbase hline
theorem papp (eK : X.K = K) (ho : PE X o ta) (ha : PA X [e] t)
    (hbase : attributeBase o "append" X.env (eval o X.env) = eval o X.env := by rfl)
    (hfew : ((backTo cpos (starEach [e] X.env)).all (fun x => !x.1) && (backToKw cpos (keywordEach [] X.env)).all (fun x => x.1.isSome)
      && decide ([e].length + ([] : List Keyword).length + (if ([] : List Keyword).isEmpty then 0 else 1) < 30)) = true := by rfl)
    (hline : (apos.endLine == cpos.line) = true := by rfl) (hs : starEach [e] X.env = (false, eval e X.env) :: starEach [] X.env := by rfl) (hplain : (backTo cpos (starEach [] X.env)).any (·.1) = false := by rfl) :
    PE X (.Call (.Attribute o "append" apos) [e] [] cpos) (tBM K "list" rAppend ta t) := by
  subst eK; exact pe_bm PySem.F.plainAttrs_list PySem.F.slot_list_append PySem.F.type_list_append mt_append ho ha hbase hfew hline hs hplain
theorem pext (eK : X.K = K) (ho : PE X o ta) (ha : PA X [e] t)
    (hbase : attributeBase o "extend" X.env (eval o X.env) = eval o X.env := by rfl)
    (hfew : ((backTo cpos (starEach [e] X.env)).all (fun x => !x.1) && (backToKw cpos (keywordEach [] X.env)).all (fun x => x.1.isSome)
      && decide ([e].length + ([] : List Keyword).length + (if ([] : List Keyword).isEmpty then 0 else 1) < 30)) = true := by rfl)
    (hline : (apos.endLine == cpos.line) = true := by rfl) (hs : starEach [e] X.env = (false, eval e X.env) :: starEach [] X.env := by rfl) (hplain : (backTo cpos (starEach [] X.env)).any (·.1) = false := by rfl) :
    PE X (.Call (.Attribute o "extend" apos) [e] [] cpos) (tBM K "list" rExtend ta t) := by
  subst eK; exact pe_bm PySem.F.plainAttrs_list PySem.F.slot_list_extend PySem.F.type_list_extend mt_extend ho ha hbase hfew hline hs hplain
theorem pget {a b : Expr} {tx : TE} (hu : X.A.units + 1 < cLine) (ho : PE X o ta) (he : PE X a te) (hf : PE X b tx) (h1 : attributeBase o "get" X.env (eval o X.env) = eval o X.env := by rfl)
    (h2 : ((backTo cpos (starEach [a, b] X.env)).all (fun x => !x.1) && (backToKw cpos (keywordEach [] X.env)).all (fun x => x.1.isSome)
    && decide (([a, b] : List Expr).length + ([] : List Keyword).length + (if ([] : List Keyword).isEmpty then 0 else 1) < 30)) = true := by rfl) (h3 : (apos.endLine == cpos.line) = true := by rfl)
    (h4 : backTo cpos (starEach [a, b] X.env) = [(false, eval a X.env), (false, eval b X.env)] := by rfl) : PE X (.Call (.Attribute o "get" apos) [a, b] [] cpos) (tDGet2 ta te tx) :=
  pe_dget2 hu ho he hf ⟨h1, h2, h3, h4⟩
end

/-- a def of the module that may be called -/
structure Cal (P : Program) (w : World) (K : PySem.W.Frag) (mg : Str → Option Value) (base : Heap) (k : Nat) (x : Str) (ps : List Str) (sp : Sp) : Prop where
  ex : ∃ f fd, FnOk P w K mg base CX0 k f fd ps sp ∧ mg x = some (.ref f) ∧ PySem.W.keepIn K (.ref f) = true ∧ Binds K fd ps []
/-- a method of the class at C -/
structure Mth (P : Program) (w : World) (K : PySem.W.Frag) (mg : Str → Option Value) (base : Heap) (k : Nat) (C : Addr) (m : Str) (ps : List Str) (sp : Sp) : Prop where
  ex : ∃ f fd, FnOk P w K mg base CX0 k f fd ps sp ∧ Cls K C ∧ Meth K C m f ∧ Binds K fd ps []
structure Prp (P : Program) (w : World) (K : PySem.W.Frag) (mg : Str → Option Value) (base : Heap) (k : Nat) (C : Addr) (m : Str) (ps : List Str) (sp : Sp) : Prop where
  ex : ∃ p g fd, FnOk P w K mg base CX0 k g fd ps sp ∧ Cls K C ∧ PropOf K C m p g ∧ Binds K fd ps []
section
variable {X : Cx} {k : Nat} {x : Str} {ps : List Str} {sp : Sp} {e o : Expr} {es : List Expr} {t : TA} {ta : TE} {p pos apos : Pos} {C : Addr} {m : Str}
theorem Cal.pe (c : Cal X.prog X.w X.K X.mg X.base k x ps sp) {j : Nat} (hr : Room j X.A) (hg : Gl X x) (ha : PA X (e :: es) t) (hj : k ≤ j := by decide) (hdb : (x == ("__debug__" : Str)) = false := by decide) (he : starEach (e :: es) X.env = (false, eval e X.env) :: starEach es X.env := by rfl) (hpl : (backTo pos (starEach es X.env)).any (·.1) = false := by rfl) :
    PE X (.Call (.Name x p) (e :: es) [] pos) (tCall sp [] E0 t) := by
  obtain ⟨f, fd, F, hm, hk, hb⟩ := c.ex
  exact pe_call F (hr.mono hj) hg hm hk hb .nil pass0 ha hdb he hpl
theorem Mth.pe (c : Mth X.prog X.w X.K X.mg X.base k C m ps sp) {j : Nat} (hr : Room j X.A) (he : PE X o ta) (ha : PA X (e :: es) t) (hj : k ≤ j := by decide) {pl : Sem Bool}
    (hst : starEach (e :: es) X.env = (false, eval e X.env) :: starEach es X.env := by rfl) (hpl : (backTo pos (starEach es X.env)).any (·.1) = false := by rfl)
    (ht : eval (.Call (.Attribute o m apos) (e :: es) [] pos) X.env = (do
      let ov ← eval o X.env
      standAt apos.atName
      let (f, first) ← holding [ov] (getMethod ov m pl)
      callWith pos f first (backTo pos (starEach (e :: es) X.env)) (backToKw pos (keywordEach [] X.env))) := by rfl) :
    PE X (.Call (.Attribute o m apos) (e :: es) [] pos) (tMeth C m sp [] E0 ta t) := by
  obtain ⟨f, fd, F, c, hm, hb⟩ := c.ex
  exact pe_meth he c hm F (hr.mono hj) hb .nil pass0 ha hst hpl ht
theorem Mth.pe0 (c : Mth X.prog X.w X.K X.mg X.base k C m ps sp) {j : Nat} (hr : Room j X.A) (he : PE X o ta) (hj : k ≤ j := by decide) {pl : Sem Bool}
    (ht : eval (.Call (.Attribute o m apos) [] [] pos) X.env = (do
      let ov ← eval o X.env
      standAt apos.atName
      let (f, first) ← holding [ov] (getMethod ov m pl)
      callWith pos f first (backTo pos (starEach [] X.env)) (backToKw pos (keywordEach [] X.env))) := by rfl) :
    PE X (.Call (.Attribute o m apos) [] [] pos) (tMeth C m sp [] E0 ta tNil) := by
  obtain ⟨f, fd, F, c, hm, hb⟩ := c.ex
  exact pe_meth0 he c hm F (hr.mono hj) hb .nil pass0 ht
theorem Prp.pe (c : Prp X.prog X.w X.K X.mg X.base k C m ps sp) {j : Nat} (hr : Room j X.A) (he : PE X e ta) (hj : k + 1 ≤ j := by decide) (hab : attributeBase e m X.env (eval e X.env) = eval e X.env := by rfl) :
    PE X (.Attribute e m pos) (tProp C sp [] E0 ta) := by
  obtain ⟨p, g, fd, F, c, hp, hb⟩ := c.ex
  exact pe_prop he c hp F (hr.mono hj) hb .nil pass0 hab
end

/-! ### str(x), C(..), C.m(..) -/
theorem call_strOwn {X : Cx} {CX : CXT} {n : Nat} {C g : Addr} {fd : FuncData} {sp : Sp} {E : XK} (hs : PySem.W.findIn X.K (.ref C) "__str__" = some (some (.ref g))) (hf : PySem.W.isFn X.K (.ref g) = true)
    (F : FnOk X.prog X.w X.K X.mg X.base CX n g fd ["self"] sp) (hb : Binds X.K fd ["self"] []) (hr : Room (n + 2) X.A) (hx : Passes CX X E) :
    CallR X (.type "str") (fun xs H Q => ∃ a dx fs, xs = [V.ref a] ∧ H a = some (.ins C dx fs) ∧ sp [.ref a] H (fun z H' => ∃ y, z = .str y ∧ Q z H') E) := by
  intro pins s σ H xs us Q I r h
  obtain ⟨a, dx, fs, rfl, ea, q⟩ := h
  obtain ⟨u, rfl, ru⟩ := vals1 r
  cases (show u = Value.ref a from ru)
  obtain ⟨mA, O, _, _, _, _⟩ := ins_get I.hok ea
  obtain ⟨od, J, _⟩ := O.look
  have hr2 : Room n X.A.in1.in1 := (show Room (n + 1) X.A.in1 from Room.in1 hr).in1
  have hl : ([Value.ref a] ++ ([] : List Value)).length = ["self"].length := rfl
  refine PySem.W.kso_call hr2.units0 I.kIn J hs hf (wpAny_call (codeAny_mono (F.run X.A.in1.in1 X.stack s H ⟨[.ref a], []⟩ [.ref a] [.ref a] _ E hr2 I.env0.in1.in1 (hb _ [.ref a] I.kIn hl) (.cons rfl .nil) q) fun r s' hq => ?_))
  cases r with
  | error e => exact hx pins σ H s e s' I hq
  | ok fl =>
    cases fl with
    | ret u =>
      obtain ⟨z', H', I', rz, y, ey, qz⟩ := I.after hq
      subst ey
      obtain ⟨t, e⟩ := (show ∃ t, u = Value.str y t from rz)
      subst e
      exact ⟨.str y, H', I', ⟨t, rfl⟩, qz⟩
    | next => exact False.elim hq
    | brk => exact False.elim hq
    | cont => exact False.elim hq
structure Strr (P : Program) (w : World) (K : PySem.W.Frag) (mg : Str → Option Value) (base : Heap) (k : Nat) (C : Addr) (sp : Sp) : Prop where
  ex : ∃ g fd, FnOk P w K mg base CX0 k g fd ["self"] sp ∧ PySem.W.findIn K (.ref C) "__str__" = some (some (.ref g)) ∧ PySem.W.isFn K (.ref g) = true ∧ Binds K fd ["self"] []
def rStr (C : Addr) (sp : Sp) : List V → Hp → VK → Prop := fun xs H Q => ∃ a dx fs, xs = [V.ref a] ∧ H a = some (.ins C dx fs) ∧ sp [.ref a] H (fun z H' => ∃ y, z = .str y ∧ Q z H') E0
structure Rul (P : Program) (w : World) (K : PySem.W.Frag) (mg : Str → Option Value) (base : Heap) (k : Nat) (C : Addr) (sp : Sp) : Prop where
  ex : ∃ fI fd, FnOk P w K mg base (L2.CX P w) k fI fd ["self", "flag", "stuffs"] sp ∧ Mk K C fI ∧ Binds K fd ["self", "flag", "stuffs"] []
  mgC : mg "Rule" = some (.ref C)
structure Cmt (P : Program) (w : World) (K : PySem.W.Frag) (mg : Str → Option Value) (base : Heap) (k : Nat) (C : Addr) (m : Str) (sp : Sp) : Prop where
  ex : ∃ mc p g, FnR P w K mg base CX0 k g sp ∧ ClX.CRead K C mc ∧ ClX.CMet K C mc m p g
  mgC : mg "Rule" = some (.ref C)
section
variable {X : Cx} {k : Nat} {x : Str} {sp : Sp} {e o : Expr} {es : List Expr} {t : TA} {ta : TE} {p pos apos : Pos} {C : Addr} {m : Str}
theorem Strr.pe (c : Strr X.prog X.w X.K X.mg X.base k C sp) {j : Nat} (hr : Room j X.A) (hg : Gl X "str") (hm : X.mg "str" = none) (ha : PA X (e :: es) t) (hj : k + 2 ≤ j := by decide)
    (he : starEach (e :: es) X.env = (false, eval e X.env) :: starEach es X.env := by rfl) (hpl : (backTo pos (starEach es X.env)).any (·.1) = false := by rfl) : PE X (.Call (.Name "str" p) (e :: es) [] pos) (tCB (rStr C sp) t) := by
  obtain ⟨g, fd, F, h1, h2, hb⟩ := c.ex
  exact pe_callTy (call_strOwn h1 h2 F hb (hr.mono hj) pass0) hg hm (by decide +kernel) ha (by decide) (by decide) he hpl
theorem Rul.pe (c : Rul X.prog X.w X.K X.mg X.base k C sp) {j : Nat} (hr : Room j X.A) (hg : Gl X "Rule") (ha : PA X (e :: es) t) (hj : k + 1 ≤ j := by decide)
    (he : starEach (e :: es) X.env = (false, eval e X.env) :: starEach es X.env := by rfl) (hpl : (backTo pos (starEach es X.env)).any (·.1) = false := by rfl) : PE X (.Call (.Name "Rule" p) (e :: es) [] pos) (tMake C sp [] E0 t) := by
  obtain ⟨fI, fd, F, M, hb⟩ := c.ex
  exact pe_make M F (hr.mono hj) hg c.mgC hb .nil passL ha (by decide) he hpl
theorem Rul.peT (c : Rul X.prog X.w X.K X.mg X.base k C sp) {E : XK} {j : Nat} (hr : Room j X.A) (hg : Gl X "Rule") (hx : Passes (L2.CX X.prog X.w) X E) (ha : PA X (e :: es) t) (hj : k + 1 ≤ j := by decide)
    (he : starEach (e :: es) X.env = (false, eval e X.env) :: starEach es X.env := by rfl) (hpl : (backTo pos (starEach es X.env)).any (·.1) = false := by rfl) : PE X (.Call (.Name "Rule" p) (e :: es) [] pos) (tMake C sp [] E t) := by
  obtain ⟨fI, fd, F, M, hb⟩ := c.ex
  exact pe_make M F (hr.mono hj) hg c.mgC hb .nil hx ha (by decide) he hpl
/-- x(e, ..), the class at C held by a local name -/
def tMakeL (C : Addr) (sp : Sp) (E : XK) (tf : TE) (t : TA) : TE := fun σ H Q => tf σ H fun c H1 => c = .ref C ∧ tMake C sp [] E t σ H1 Q
theorem Rul.peL (c : Rul X.prog X.w X.K X.mg X.base k C sp) {j : Nat} (hr : Room j X.A) {tf : TE} (hf : PE X (.Name x p) tf) (ha : PA X (e :: es) t) (hj : k + 1 ≤ j := by decide)
    (he : starEach (e :: es) X.env = (false, eval e X.env) :: starEach es X.env := by rfl) (hpl : (backTo pos (starEach es X.env)).any (·.1) = false := by rfl) : PE X (.Call (.Name x p) (e :: es) [] pos) (tMakeL C sp E0 tf t) := by
  obtain ⟨fI, fd, F, M, hb⟩ := c.ex
  refine ⟨fun pins s σ H Q I h => ?_⟩
  refine wpAny_Call_Name_kw (thn (hf.run pins s σ H _ I h) fun u s1 ⟨c, H1, I1, rc, ec, q1⟩ => ?_)
  subst ec
  obtain rfl : u = Value.ref C := rc
  refine PySem.W.callWith_K (h₀ := X.base) I.ok.mod.kin M.kp (thn (ha.run pos pins s1 σ H1 _ I1 q1) fun us s2 ⟨vs, H2, I2, r, q⟩ => ⟨I2.kIn, ?_⟩) he hpl
  exact run_make M F (hr.mono hj) hb .nil passL I2 r q
theorem Cmt.pe (c : Cmt X.prog X.w X.K X.mg X.base k C m sp) {j : Nat} (hr : Room j X.A) (hg : Gl X "Rule") (ha : PA X (e :: es) t) (hj : k ≤ j := by decide) {pl : Sem Bool}
    (hst : starEach (e :: es) X.env = (false, eval e X.env) :: starEach es X.env := by rfl) (hpl : (backTo pos (starEach es X.env)).any (·.1) = false := by rfl)
    (ht : eval (.Call (.Attribute (.Name "Rule" p) m apos) (e :: es) [] pos) X.env = (do
      let ov ← eval (.Name "Rule" p) X.env
      standAt apos.atName
      let (f, first) ← holding [ov] (getMethod ov m pl)
      callWith pos f first (backTo pos (starEach (e :: es) X.env)) (backToKw pos (keywordEach [] X.env))) := by rfl) :
    PE X (.Call (.Attribute (.Name "Rule" p) m apos) (e :: es) [] pos) (ClX.tCMeth C sp E0 (tC (.ref C)) t) := by
  obtain ⟨mc, pp, g, F, r, cm⟩ := c.ex
  exact ClX.pe_cmeth (pe_glob hg c.mgC rfl) r cm F (hr.mono hj) pass0 ha hst hpl ht
end

/-! ### what the text leaves -/
structure TX (K : PySem.W.Frag) (mg : Str → Option Value) (C : Addr) : Prop where
  n_len : mg "len" = none
  n_int : mg "int" = none
  n_str : mg "str" = none
  n_bool : mg "bool" = none
  n_list : mg "list" = none
  n_tuple : mg "tuple" = none
  n_isinstance : mg "isinstance" = none
  n_all : mg "all" = none
  n_any : mg "any" = none
  n_max : mg "max" = none
  n_min : mg "min" = none
  n_sorted : mg "sorted" = none
  n_abs : mg "abs" = none
  n_range : mg "range" = none
  n_enumerate : mg "enumerate" = none
  g_bits : ∃ t, mg "BITS" = some (.str "01" t)
  cl : Cls K C
  nF : NoAttr K C "flag"
  nS : NoAttr K C "stuffs"
  mgC : mg "Rule" = some (.ref C)
theorem TX.bits {X : Cx} {C : Addr} {pos : Pos} (T : TX X.K X.mg C) (hg : Gl X "BITS" := by rfl) : PE X (.Name "BITS" pos) (tC (.str "01")) := by
  obtain ⟨t, h⟩ := T.g_bits
  exact pe_glob hg h ⟨t, rfl⟩
end UF
set_option maxHeartbeats 4000000
namespace UF
/-! ### words, rules -/
abbrev Wd := List Bool
abbrev Stf := Wd × Bool
def weq : Wd → Wd → Bool
  | [], [] => true
  | true :: x, true :: y => weq x y
  | false :: x, false :: y => weq x y
  | _, _ => false
theorem weq_eq : ∀ {x y : Wd}, weq x y = true ↔ x = y
  | [], [] => by simp [weq]
  | [], b :: y => by simp [weq]
  | a :: x, [] => by cases a <;> simp [weq]
  | true :: x, true :: y => by rw [weq, weq_eq]; simp
  | false :: x, false :: y => by rw [weq, weq_eq]; simp
  | true :: x, false :: y => by simp [weq]
  | false :: x, true :: y => by simp [weq]
theorem weq_self (x : Wd) : weq x x = true := weq_eq.mpr rfl
def mem (x : Wd) : List Wd → Bool
  | [] => false
  | y :: r => match weq x y with
    | true => true
    | false => mem x r
theorem mem_iff {x : Wd} : ∀ {l : List Wd}, mem x l = true ↔ x ∈ l
  | [] => by simp [mem]
  | y :: r => by
    unfold mem
    cases h : weq x y with
    | true => simp [weq_eq.mp h]
    | false =>
      have hn : ¬ x = y := fun e => by rw [weq_eq.mpr e] at h; cases h
      simp [hn, mem_iff]
def tl (n : Nat) (l : Wd) : Wd := l.drop (l.length - n)
def sfx (p l : Wd) : Bool := weq (l.drop (l.length - p.length)) p
def put : List Stf → Wd → Option Bool
  | [], _ => none
  | (p, b) :: r, l => match sfx p l with
    | true => some b
    | false => put r l
def lng : List Stf → Nat
  | [] => 0
  | (p, _) :: r => max p.length (lng r)
/-- put_in: none: no fuel; some none: without end -/
def pin (ss : List Stf) (m : Nat) : Nat → Wd → Wd → List Wd → Option (Option Wd)
  | 0, _, _, _ => none
  | f + 1, line, found, kn => match put ss (line ++ found) with
    | none => some (some found)
    | some b => match mem (tl m (line ++ found)) kn with
      | true => some none
      | false => pin ss m f line (found ++ [b]) (kn ++ [tl m (line ++ found)])
/-- put_behind -/
def pbh (ss : List Stf) : Nat → Wd → Wd → Option Wd
  | 0, _, _ => none
  | f + 1, line, found => match put ss (line ++ found) with
    | none => some found
    | some b => pbh ss f line (found ++ [b])
def stepE (ss : List Stf) (m : Nat) (here : Wd) (b : Bool) (wt : List Wd) : Option (Option (List Wd)) := match pin ss m 20 (here ++ [b]) [] [] with
  | none => none
  | some none => some none
  | some (some more) => match mem (tl m (here ++ [b] ++ more)) wt with
    | true => some (some wt)
    | false => some (some (wt ++ [tl m (here ++ [b] ++ more)]))
/-- is_endless -/
def edl (ss : List Stf) (m : Nat) : Nat → List Wd → Nat → Option Bool
  | 0, _, _ => none
  | f + 1, wt, i => match wt[i]? with
    | none => some false
    | some here => match stepE ss m here false wt with
      | none => none
      | some none => some true
      | some (some wt1) => match stepE ss m here true wt1 with
        | none => none
        | some none => some true
        | some (some wt2) => edl ss m f wt2 (i + 1)
/-! ### moves -/
abbrev Eg := Nat × Wd
abbrev Mv := Wd × Eg × Eg
abbrev Mvs := List Mv
def look : Mvs → Wd → Option (Eg × Eg)
  | [], _ => none
  | (k, e) :: r, x => match weq k x with
    | true => some e
    | false => look r x
def mv (ss : List Stf) (m : Nat) (here : Wd) (b : Bool) : Option Eg := match pin ss m 20 (here ++ [b]) [] [] with
  | some (some more) => some (more.length, tl m (here ++ [b] ++ more))
  | _ => none
def mvs (ss : List Stf) (m : Nat) : Nat → Mvs → List Wd → Option Mvs
  | 0, _, _ => none
  | _ + 1, found, [] => some found
  | f + 1, found, here :: q => match look found here with
    | some _ => mvs ss m f found q
    | none => match mv ss m here false with
      | none => none
      | some e0 => match mv ss m here true with
        | none => none
        | some e1 => mvs ss m f (found ++ [(here, e0, e1)]) (q ++ [e0.2, e1.2])
/-! ### costs -/
abbrev AL := List (Wd × Nat)
def getA : AL → Wd → Option Nat
  | [], _ => none
  | (k, v) :: r, x => match weq k x with
    | true => some v
    | false => getA r x
def putA : AL → Wd → Nat → AL
  | [], x, v => [(x, v)]
  | (k, u) :: r, x, v => match weq k x with
    | true => (k, v) :: r
    | false => (k, u) :: putA r x v
def mx (i j : Nat) : Nat := match Nat.ble j i with
  | true => i
  | false => j
/-- the greatest of what stands there and v -/
def upA : AL → Wd → Nat → AL
  | [], x, v => [(x, v)]
  | (k, u) :: r, x, v => match weq k x with
    | true => (match Nat.ble v u with
      | true => (k, u) :: r
      | false => (k, v) :: r)
    | false => (k, u) :: upA r x v
def lf (M : Mvs) : Nat → Wd → Nat
  | 0, _ => 0
  | k + 1, here => match look M here with
    | none => 0
    | some (e0, e1) => mx (e0.1 + lf M k e0.2) (e1.1 + lf M k e1.2)
def dr (M : Mvs) : Nat → Wd → Wd
  | 0, _ => []
  | k + 1, here => match look M here with
    | none => []
    | some (e0, e1) => if e0.1 + lf M k e0.2 = lf M (k + 1) here then false :: dr M k e0.2 else true :: dr M k e1.2
def rlx (later : AL) (whole : Nat) (e : Eg) : AL := upA later e.2 (whole + e.1)
def stepW1 (M : Mvs) (later : AL) (p : Wd × Nat) : AL := match look M p.1 with
  | none => later
  | some (e0, e1) => rlx (rlx later p.2 e0) p.2 e1
def stepW (M : Mvs) : AL → AL → AL
  | [], later => later
  | p :: r, later => stepW M r (stepW1 M later p)
/-- the lists of walks, the last one first -/
def wks (M : Mvs) : Nat → List AL → List AL
  | 0, l => l
  | k + 1, l => match l with
    | [] => []
    | a :: _ => wks M k (stepW M a [] :: l)
def ilt (i j : Int) : Bool := match i - j with
  | .ofNat _ => false
  | .negSucc _ => true
def lst1 (f v : Int × Int) : Int × Int := match ilt (v.1 * f.2) (f.1 * v.2) with
  | true => v
  | false => f
def leastOf : List (Int × Int) → Int × Int
  | [] => (0, 1)
  | f :: r => (f :: r).foldl lst1 f
/-- told: the lists for n - 1, n - 2, ..; the means for 0, 1, .. -/
def means (there : Wd) (whole : Nat) : List AL → Nat → List (Int × Int)
  | [], _ => []
  | a :: r, d => match getA a there with
    | none => means there whole r (d + 1)
    | some x => means there whole r (d + 1) ++ [((whole : Int) - (x : Int), (d : Int))]
def rt1 (told : List AL) (f : Int × Int) (p : Wd × Nat) : Int × Int := match leastOf (means p.1 p.2 told 1) with
  | v => (match ilt (f.1 * v.2) (v.1 * f.2) with
    | true => v
    | false => f)
def lw (p q : Int) : Int × Int := match (Int.gcd p q : Int) with
  | g => (p / g, q / g)
def rtp (M : Mvs) : Int × Int := match wks M M.length [[([], 0)]] with
  | [] => (0, 1)
  | a :: told => a.foldl (rt1 told) (0, 1)
def rt (M : Mvs) : Int × Int := match rtp M with
  | v => lw v.1 v.2
def relH (p q : Nat) (h : AL) (here : Wd) (e : Eg) : AL := upA h e.2 (((getA h here).getD 0 + e.1 * q) - p)
def roundH (p q : Nat) : Mvs → AL → AL
  | [], h => h
  | m :: r, h => roundH p q r (relH p q (relH p q h m.1 m.2.1) m.1 m.2.2)
def hts (M : Mvs) (p q : Nat) : Nat → AL → AL
  | 0, h => h
  | k + 1, h => hts M p q k (roundH p q M h)
def h0 (M : Mvs) : AL := M.map fun m => (m.1, 0)
def alEq : AL → AL → Bool
  | [], [] => true
  | (k, u) :: r, (l, v) :: s => match weq k l with
    | true => (match Nat.beq u v with
      | true => alEq r s
      | false => false)
    | false => false
  | _, _ => false
/-- heights that a round leaves as they are -/
def htF (M : Mvs) (p q : Nat) : Nat → AL → Option AL
  | 0, _ => none
  | k + 1, h => match roundH p q M h with
    | h' => (match alEq h' h with
      | true => some h
      | false => htF M p q k h')
/-! ### the check of one list of stuffs -/
def keys (M : Mvs) : List Wd := M.map (·.1)
def nodupW : List Wd → Bool
  | [] => true
  | x :: r => match mem x r with
    | true => false
    | false => nodupW r
def closedM (m : Nat) (M : Mvs) : Mvs → Bool
  | [] => true
  | x :: r => match look M x.2.1.2 with
    | none => false
    | some _ => (match look M x.2.2.2 with
      | none => false
      | some _ => (match Nat.ble x.1.length m with
        | false => false
        | true => closedM m M r))
def smallQ (v : Int × Int) : Bool := ilt 0 v.2 && ilt v.2 100
def hgt (q : Nat) (h : AL) (x : Wd) : Int × Int := lw ((getA h x).getD 0 : Nat) q
def nonneg (v : Int × Int) : Bool := !(ilt v.1 0)
def meansOk (told : List AL) : AL → Bool
  | [] => true
  | p :: r => match means p.1 p.2 told 1 with
    | [] => false
    | _ :: _ => meansOk told r
def rateOk (M : Mvs) : Bool := match wks M M.length [[([], 0)]] with
  | [] => false
  | a :: told => match meansOk told a with
    | false => false
    | true => (match rt M with
      | (.ofNat p, .ofNat q) => (match Nat.ble q 100, Nat.ble 1 q with
        | true, true => (match htF M p q 12 (h0 M) with
          | none => false
          | some _ => true)
        | _, _ => false)
      | _ => false)
def goodM (ss : List Stf) : Bool := match mvs ss (lng ss) 60 [] [[]] with
  | none => false
  | some M => match nodupW (keys M), look M [], closedM (lng ss) M M, Nat.ble 12 M.length || true, Nat.ble M.length 20 with
    | true, some _, true, true, true => rateOk M
    | _, _, _, _, _ => false
def apart1 : List Stf → List Stf → Bool
  | _, [] => true
  | pre, x :: r => (pre ++ r).all (fun y => !sfx y.1 x.1) && apart1 (pre ++ [x]) r
def apart (ss : List Stf) : Bool := apart1 [] ss
def good (ss : List Stf) : Bool := apart ss && goodM ss
/-! ### the law's own look -/
def stepL (ss : List Stf) (here : Wd) (b : Bool) (wt : List Wd) : Option (List Wd) := match pbh ss 40 (here ++ [b]) [] with
  | none => none
  | some more => match mem (tl 4 (here ++ [b] ++ more)) wt with
    | true => some wt
    | false => some (wt ++ [tl 4 (here ++ [b] ++ more)])
/-- _law_tails: none: no fuel -/
def ltl (ss : List Stf) : Nat → List Wd → Nat → Option Bool
  | 0, _, _ => none
  | f + 1, wt, i => match wt[i]? with
    | none => some true
    | some here => match stepL ss here false wt with
      | none => some false
      | some wt1 => match stepL ss here true wt1 with
        | none => some false
        | some wt2 => ltl ss f wt2 (i + 1)
def lawAre (ss : List Stf) : Bool := apart ss && (match ltl ss 40 [[]] 0 with | some true => true | _ => false)
/-! ### all lists of stuffs -/
def words : Nat → List Wd
  | 0 => [[]]
  | n + 1 => (words n).flatMap fun w => [w ++ [false], w ++ [true]]
def stfs (n : Nat) : List Stf := (List.range n).flatMap fun k => (words (k + 1)).flatMap fun w => [(w, false), (w, true)]
def dom : List (List Stf) := [] :: ((stfs 3).map fun a => [a]) ++ (stfs 3).flatMap fun a => (stfs 3).map fun b => [a, b]
/-- a before b in Python's order of pairs of texts -/
def wlt : Wd → Wd → Bool
  | [], [] => false
  | [], _ :: _ => true
  | _ :: _, [] => false
  | a :: x, b :: y => if a = b then wlt x y else (!a && b)
def slt' (a b : Stf) : Bool := if a.1 = b.1 then (!a.2 && b.2) else wlt a.1 b.1
def srt : List Stf → List Stf
  | [a, b] => if slt' b a then [b, a] else [a, b]
  | l => l
end UF
set_option maxHeartbeats 4000000
namespace UF
open PySem PySem.Spec PyProof.Rows L2
abbrev Sg := L2.St
local macro_rules | `(tactic| walk_at "q") => `(tactic| repeat (first | refine ⟨_, rfl, ?_⟩ | refine ⟨_, _, rfl, rfl, ?_⟩ | refine ⟨_, _, rfl, ?_⟩))
/-! ### words as texts -/
def cd (b : Bool) : Nat := match b with
  | true => 49
  | false => 48
def S (l : Wd) : Str := ⟨(l.map cd).toArray⟩
theorem S_tl (l : Wd) : TL.tl (S l) = l.map cd := by simp [S, TL.tl]
theorem cd_inj {a b : Bool} (h : cd a = cd b) : a = b := by cases a <;> cases b <;> simp [cd] at h ⊢
theorem mapcd_inj : ∀ {a b : Wd}, a.map cd = b.map cd → a = b
  | [], [], _ => rfl
  | [], _ :: _, h => by simp at h
  | _ :: _, [], h => by simp at h
  | x :: a, y :: b, h => by
    rw [List.map_cons, List.map_cons] at h
    injection h with h1 h2
    rw [cd_inj h1, mapcd_inj h2]
theorem S_inj {a b : Wd} (h : S a = S b) : a = b := mapcd_inj (by rw [← S_tl, ← S_tl, h])
theorem S_iff {a b : Wd} : S a = S b ↔ a = b := ⟨S_inj, fun h => by rw [h]⟩
theorem S_app (a b : Wd) : S a ++ S b = S (a ++ b) := TL.ext_tl (by rw [TL.tl_append, S_tl, S_tl, S_tl, List.map_append])
theorem S_len (l : Wd) : (S l).length = l.length := by rw [TL.len_tl, S_tl, List.length_map]
theorem S_nil : ("" : Str) = S [] := by decide +kernel
theorem S_emp : Str.empty = S [] := by decide +kernel
theorem S_0 : ("0" : Str) = S [false] := by decide +kernel
theorem S_1 : ("1" : Str) = S [true] := by decide +kernel
theorem S_01 : ("01" : Str) = S [false, true] := by decide +kernel
theorem S_sz {l : Wd} (h : l.length ≤ 100000) : (S l).length ≤ sizeLine := by rw [S_len]; exact Nat.le_trans h (by decide)
theorem S_sz2 {a b : Wd} (h : a.length + b.length ≤ 100000) : (S a).length + (S b).length ≤ sizeLine := by rw [S_len, S_len]; exact Nat.le_trans h (by decide)
theorem S_at {l : Wd} {i : Nat} {b : Bool} (h : l[i]? = some b) : (S l).cps.toList[i]? = some (cd b) := by
  rw [show (S l).cps.toList = l.map cd from S_tl l, List.getElem?_map, h]; rfl
theorem S_one (b : Bool) : (⟨#[cd b]⟩ : Str) = S [b] := by cases b <;> rfl
theorem S_cut (l : Wd) (n : Nat) : cutS (S l) (some (n : Int)) none = S (l.drop n) := by
  refine TL.ext_tl ?_
  unfold cutS
  rw [HT.sIx_nat, HT.sIx_none, S_len, S_tl]
  rw [show (S l).cps.toList = l.map cd from S_tl l]
  show List.take (l.length - min n l.length) (List.drop (min n l.length) (l.map cd)) = _
  rw [List.map_drop, List.take_of_length_le (by simp)]
  by_cases h : n ≤ l.length
  · rw [Nat.min_eq_left h]
  · rw [Nat.min_eq_right (by omega), List.drop_of_length_le (by simp), List.drop_of_length_le (by simp; omega)]
theorem S_cut2 (l : Wd) (n m : Nat) (hm : m ≤ l.length) (hn : n ≤ m) : cutS (S l) (some (n : Int)) (some (m : Int)) = S ((l.drop n).take (m - n)) := by
  refine TL.ext_tl ?_
  unfold cutS
  rw [HT.sIx_nat, HT.sIx_nat, S_len, S_tl]
  rw [show (S l).cps.toList = l.map cd from S_tl l, Nat.min_eq_left hm, Nat.min_eq_left (Nat.le_trans hn hm), List.map_take, List.map_drop]
theorem subAt_eqL (x y : Str) (i : Nat) : PySem.Builtin.Str.subAt x y i = (((TL.tl x).drop i).take (TL.tl y).length == TL.tl y) := by
  have h := PySem.StrLaws.subAt_eq x y i
  exact h
theorem S_ends (l p : Wd) : Txt.endswith (S l) (S p) = sfx p l := by
  have e : Txt.endswith (S l) (S p) = (decide (0 + p.length ≤ l.length) && PySem.Builtin.Str.subAt (S l) (S p) (l.length - p.length)) := by
    unfold Txt.endswith; rw [S_len, S_len]
  rw [e, subAt_eqL]
  rw [show TL.tl (S l) = l.map cd from S_tl l, show TL.tl (S p) = p.map cd from S_tl p]
  unfold sfx
  rw [Bool.eq_iff_iff, Bool.and_eq_true, decide_eq_true_eq, beq_iff_eq, weq_eq, ← List.map_drop, List.length_map, ← List.map_take]
  constructor
  · rintro ⟨h1, h2⟩
    have h3 := mapcd_inj h2
    rw [List.take_of_length_le (by simp; omega)] at h3
    exact h3
  · intro h
    have hl := congrArg List.length h
    rw [List.length_drop] at hl
    refine ⟨by omega, ?_⟩
    rw [List.take_of_length_le (by simp; omega), h]
/-- a bit as a value -/
abbrev Bt (b : Bool) : V := .str (S [b])
def opt (o : Option Bool) : V := match o with
  | none => .non
  | some b => Bt b
/-! ### heaps -/
theorem _root_.L2.Same.new {H : Hp} {p : Addr} {o : HO} (h : H p = none) : Same H (upd H p o) := fun b u e => by
  rw [upd_ne (ne_of_none e h)]; exact e
theorem _root_.L2.Same.mut {H H' : Hp} {p : Addr} {o : HO} (e : Same H H') (h : H p = none) : Same H (upd H' p o) := fun b u hb => by
  rw [upd_ne (ne_of_none hb h)]; exact e b u hb
/-- a new object -/
theorem nw {o : HO} {H : Hp} {Q : VK} (h : ∀ p H', H p = none → Same H H' → H' p = some o → Q (.ref p) H') : ∀ p, H p = none → Q (.ref p) (upd H p o) :=
  fun p hp => h p _ hp (.new hp) upd_same
theorem _root_.L2.Same.tup {K : PySem.W.Frag} {H H' : Hp} {a : Addr} {xs : List V} (e : Same H H') (h : SqT K H a xs) : SqT K H' a xs := by
  rcases h with (h | ⟨o, h⟩) | h
  · exact .inl (.inl (e _ _ h))
  · exact .inl (.inr ⟨o, e _ _ h⟩)
  · exact .inr h
theorem _root_.L2.Same.rd {H H' : Hp} {a : Addr} {u : HO} (e : Same H H') (h : Rd H a u) : Rd H' a u := by
  rcases h with h | ⟨o, h⟩
  · exact .inl (e _ _ h)
  · exact .inr ⟨o, e _ _ h⟩
theorem tq {K : PySem.W.Frag} {H : Hp} {a : Addr} {xs : List V} (h : H a = some (.tup xs)) : SqT K H a xs := .inl (.inl h)
theorem lq {K : PySem.W.Frag} {H : Hp} {a : Addr} {xs : List V} (h : H a = some (.lst xs)) : SqL K H a xs := .inl (.inl h)
/-- the heap without what stands at D -/
def off (H : Hp) (D : Addr) : Hp := fun b => if b = D then none else H b
theorem off_ne {H : Hp} {D b : Addr} (h : b ≠ D) : off H D b = H b := if_neg h
theorem off_at {H : Hp} {D : Addr} : off H D D = none := if_pos rfl
theorem off_same {H : Hp} {D : Addr} : Same (off H D) H := fun b o e => by
  by_cases h : b = D
  · rw [h, off_at] at e; cases e
  · rw [off_ne h] at e; exact e
theorem off_upd {H : Hp} {D : Addr} {o : HO} : off (upd H D o) D = off H D := by
  funext b
  by_cases h : b = D
  · rw [h, off_at, off_at]
  · rw [off_ne h, off_ne h, upd_ne h]
theorem off_new {H : Hp} {D : Addr} {o : HO} (h : H D = none) : off (upd H D o) D = H := by
  funext b
  by_cases e : b = D
  · rw [e, off_at, h]
  · rw [off_ne e, upd_ne e]
theorem off_mono {H H' : Hp} {D : Addr} (s : Same H H') : Same (off H D) (off H' D) := fun b o e => by
  by_cases h : b = D
  · rw [h, off_at] at e; cases e
  · rw [off_ne h] at e ⊢; exact s b o e
/-- new ahead, so not at D -/
theorem off_of {H H' : Hp} {D p : Addr} {o u : HO} (hD : H D = some u) (hp : H p = none) (e : H' p = some o) : off H' D p = some o := by
  rw [off_ne (fun z => by rw [z, hD] at hp; cases hp)]; exact e
theorem off_some {H : Hp} {D p : Addr} {o u : HO} (hD : H D = some u) (e : H p = some o) (d : o ≠ u) : off H D p = some o := by
  rw [off_ne (fun z => by rw [z, hD] at e; exact d (Option.some.inj e).symm)]; exact e
theorem same_off {H H' : Hp} {D : Addr} (s : Same H H') (h : H D = none) : Same H (off H' D) := fun b o e => by
  rw [off_ne (ne_of_none e h)]; exact s b o e
/-! ### what is walked -/
structure Sit (J : It) (n : Nat) (X : Nat → V → Prop) (G : Hp → Prop) : Prop where
  go : ∀ i H, G H → i < n → J.go i H
  st : ∀ i H, G H → n ≤ i → J.stop i H
  yl : ∀ i H x H', G H → i < n → J.yld i H x H' → H' = H ∧ X i x
theorem sit_word (l : Wd) : Sit (Its (S l)) l.length (fun i x => ∃ b, l[i]? = some b ∧ x = Bt b) (fun _ => True) where
  go := fun i H _ h => by
    show i < (S l).cps.size
    rw [show (S l).cps.size = l.length from S_len l]; exact h
  st := fun i H _ h => by
    show (S l).cps.size ≤ i
    rw [show (S l).cps.size = l.length from S_len l]; exact h
  yl := fun i H x H' _ h y => by
    obtain ⟨e, c, hc, ex⟩ := y
    refine ⟨e, l[i], by simp [h], ?_⟩
    have h2 := S_at (l := l) (i := i) (b := l[i]) (by simp [h])
    rw [Array.getElem?_toList, hc] at h2
    rw [ex, Option.some.inj h2, S_one]
theorem sit_list {K : PySem.W.Frag} {a : Addr} (xs : List V) : Sit (Itl K a) xs.length (fun i x => xs[i]? = some x) (fun H => SqL K H a xs) where
  go := fun i H g h => ⟨xs, xs[i], g, by simp [h]⟩
  st := fun i H g h => ⟨xs, g, h⟩
  yl := fun i H x H' g h y => ⟨y.1, y.2 xs g⟩
theorem sit_tup {K : PySem.W.Frag} {a : Addr} (xs : List V) : Sit (Itt K a) xs.length (fun i x => xs[i]? = some x) (fun H => SqT K H a xs) where
  go := fun i H g h => ⟨xs, xs[i], g, by simp [h]⟩
  st := fun i H g h => ⟨xs, g, h⟩
  yl := fun i H x H' g h y => ⟨y.1, y.2 xs g⟩
theorem sit_range (lo : Int) (n : Nat) : Sit (Itr lo n) n (fun i x => x = .int (lo + i)) (fun _ => True) where
  go := fun i H _ h => h
  st := fun i H _ h => h
  yl := fun i H x H' _ h y => y
theorem sit_keys {d : Addr} {o : Obj} (kvs : List (Key × V)) : Sit (Itk d o kvs) kvs.length (fun i x => ∃ k v, kvs[i]? = some (k, v) ∧ x = kV k) (fun H => H d = some (.frz o (.dK kvs))) where
  go := fun i H g h => ⟨g, h⟩
  st := fun i H g h => ⟨g, h⟩
  yl := fun i H x H' g h y => y
section
variable {J : It} {n : Nat} {X : Nat → V → Prop} {G : Hp → Prop}
theorem for_sit {g : TG} {tb : TS} {D : Ends} {σ : Sg} {H : Hp} (s : Sit J n X G) (Pv : Nat → Sg → Hp → Prop) (h0 : Pv 0 σ H) (hG : ∀ i σ H, i ≤ n → Pv i σ H → G H)
    (hs : ∀ i x σ H, i < n → X i x → Pv i σ H → g x σ H fun σ2 H2 => tb { D with nx := Pv (i + 1), ct := Pv (i + 1), bk := D.nx } σ2 H2) (hd : ∀ σ H, Pv n σ H → D.nx σ H) :
    ∃ W : Nat → Nat → Sg → Hp → Prop, (∃ m, W 0 m σ H) ∧ ∀ i m σ H, W i m σ H →
      (J.stop i H ∧ D.nx σ H) ∨ (J.go i H ∧ ∃ N : Sg → Hp → Prop, (∀ σ' H', N σ' H' → ∃ m', m' < m ∧ W (i + 1) m' σ' H') ∧ ∀ x H', J.yld i H x H' → g x σ H' fun σ2 H2 => tb { D with nx := N, ct := N, bk := D.nx } σ2 H2) := by
  refine ⟨fun i m σ H => m = n - i ∧ i ≤ n ∧ Pv i σ H, ⟨n, by simp, Nat.zero_le _, h0⟩, ?_⟩
  rintro i m σ H ⟨rfl, hi, p⟩
  have hg := hG i σ H hi p
  by_cases hlt : i < n
  · refine .inr ⟨s.go i H hg hlt, Pv (i + 1), fun σ' H' p' => ⟨n - (i + 1), by omega, rfl, hlt, p'⟩, fun x H' y => ?_⟩
    obtain ⟨e, hx⟩ := s.yl i H x H' hg hlt y
    subst e
    exact hs i x σ _ hlt hx p
  · have e : i = n := by omega
    subst e
    exact .inl ⟨s.st i H hg (Nat.le_refl _), hd σ H p⟩
/-- a list comprehension: Iv speaks of the heap without the new list -/
theorem lc_sit {B : V → Hp → (Hp → Prop) → Prop} {H1 : Hp} {D : Addr} {Qd : Hp → Prop} (s : Sit J n X G) (hm : ∀ H H', Same H H' → G H → G H') (hD : H1 D = none) (Iv : Nat → List V → Hp → Prop) (h0 : Iv 0 [] H1)
    (hG : ∀ i acc H, i ≤ n → Iv i acc H → G H)
    (hs : ∀ i x acc H, i < n → X i x → H D = some (.lst acc) → Iv i acc (off H D) → ∀ Nx : Hp → Prop, (∀ acc' H', H' D = some (.lst acc') → Iv (i + 1) acc' (off H' D) → Nx H') → B x H Nx)
    (hd : ∀ acc H, H D = some (.lst acc) → Iv n acc (off H D) → Qd H) :
    ∃ W : Nat → Nat → Hp → Prop, (∃ m, W 0 m (upd H1 D (.lst []))) ∧ ∀ i m H, W i m H →
      (J.stop i H ∧ Qd H) ∨ (J.go i H ∧ ∃ Nx : Hp → Prop, (∀ H', Nx H' → ∃ m', m' < m ∧ W (i + 1) m' H') ∧ ∀ x H', J.yld i H x H' → B x H' Nx) := by
  refine ⟨fun i m H => m = n - i ∧ i ≤ n ∧ ∃ acc, H D = some (.lst acc) ∧ Iv i acc (off H D), ⟨n, by simp, Nat.zero_le _, [], upd_same, by rw [off_new hD]; exact h0⟩, ?_⟩
  rintro i m H ⟨rfl, hi, acc, ha, p⟩
  have hg : G H := hm _ _ off_same (hG i acc _ hi p)
  by_cases hlt : i < n
  · refine .inr ⟨s.go i H hg hlt, fun H' => ∃ acc, H' D = some (.lst acc) ∧ Iv (i + 1) acc (off H' D), fun H' p' => ⟨n - (i + 1), by omega, rfl, hlt, p'⟩, fun x H' y => ?_⟩
    obtain ⟨e, hx⟩ := s.yl i H x H' hg hlt y
    subst e
    exact hs i x acc _ hlt hx ha p _ fun acc' H' q r => ⟨acc', q, r⟩
  · have e : i = n := by omega
    subst e
    exact .inl ⟨s.st i H hg (Nat.le_refl _), hd acc H ha p⟩
/-- the inner walk of a comprehension of two -/
theorem in_sit {B : V → Hp → (Hp → Prop) → Prop} {H1 : Hp} {D : Addr} {acc0 : List V} {Nx0 : Hp → Prop} (s : Sit J n X G) (hm : ∀ H H', Same H H' → G H → G H') (hD : H1 D = some (.lst acc0)) (Iv : Nat → List V → Hp → Prop) (h0 : Iv 0 acc0 (off H1 D))
    (hG : ∀ i acc H, i ≤ n → Iv i acc H → G H)
    (hs : ∀ i x acc H, i < n → X i x → H D = some (.lst acc) → Iv i acc (off H D) → ∀ Nx : Hp → Prop, (∀ acc' H', H' D = some (.lst acc') → Iv (i + 1) acc' (off H' D) → Nx H') → B x H Nx)
    (hd : ∀ acc H, H D = some (.lst acc) → Iv n acc (off H D) → Nx0 H) :
    ∃ W : Nat → Nat → Hp → Prop, (∃ m, W 0 m H1) ∧ ∀ i m H, W i m H →
      (J.stop i H ∧ Nx0 H) ∨ (J.go i H ∧ ∃ Nx : Hp → Prop, (∀ H', Nx H' → ∃ m', m' < m ∧ W (i + 1) m' H') ∧ ∀ x H', J.yld i H x H' → B x H' Nx) := by
  refine ⟨fun i m H => m = n - i ∧ i ≤ n ∧ ∃ acc, H D = some (.lst acc) ∧ Iv i acc (off H D), ⟨n, by simp, Nat.zero_le _, acc0, hD, h0⟩, ?_⟩
  rintro i m H ⟨rfl, hi, acc, ha, p⟩
  have hg : G H := hm _ _ off_same (hG i acc _ hi p)
  by_cases hlt : i < n
  · refine .inr ⟨s.go i H hg hlt, fun H' => ∃ acc, H' D = some (.lst acc) ∧ Iv (i + 1) acc (off H' D), fun H' p' => ⟨n - (i + 1), by omega, rfl, hlt, p'⟩, fun x H' y => ?_⟩
    obtain ⟨e, hx⟩ := s.yl i H x H' hg hlt y
    subst e
    exact hs i x acc _ hlt hx ha p _ fun acc' H' q r => ⟨acc', q, r⟩
  · have e : i = n := by omega
    subst e
    exact .inl ⟨s.st i H hg (Nat.le_refl _), hd acc H ha p⟩
/-- a dict comprehension -/
theorem dc_sit {B : V → Hp → (Hp → Prop) → Prop} {H1 : Hp} {D : Addr} {Qd : Hp → Prop} (s : Sit J n X G) (hm : ∀ H H', Same H H' → G H → G H') (hD : H1 D = none) (Iv : Nat → List (Key × V) → Hp → Prop) (h0 : Iv 0 [] H1)
    (hG : ∀ i acc H, i ≤ n → Iv i acc H → G H)
    (hs : ∀ i x acc H, i < n → X i x → H D = some (.dK acc) → Iv i acc (off H D) → ∀ Nx : Hp → Prop, (∀ acc' H', H' D = some (.dK acc') → Iv (i + 1) acc' (off H' D) → Nx H') → B x H Nx)
    (hd : ∀ acc H, H D = some (.dK acc) → Iv n acc (off H D) → Qd H) :
    ∃ W : Nat → Nat → Hp → Prop, (∃ m, W 0 m (upd H1 D (.dK []))) ∧ ∀ i m H, W i m H →
      (J.stop i H ∧ Qd H) ∨ (J.go i H ∧ ∃ Nx : Hp → Prop, (∀ H', Nx H' → ∃ m', m' < m ∧ W (i + 1) m' H') ∧ ∀ x H', J.yld i H x H' → B x H' Nx) := by
  refine ⟨fun i m H => m = n - i ∧ i ≤ n ∧ ∃ acc, H D = some (.dK acc) ∧ Iv i acc (off H D), ⟨n, by simp, Nat.zero_le _, [], upd_same, by rw [off_new hD]; exact h0⟩, ?_⟩
  rintro i m H ⟨rfl, hi, acc, ha, p⟩
  have hg : G H := hm _ _ off_same (hG i acc _ hi p)
  by_cases hlt : i < n
  · refine .inr ⟨s.go i H hg hlt, fun H' => ∃ acc, H' D = some (.dK acc) ∧ Iv (i + 1) acc (off H' D), fun H' p' => ⟨n - (i + 1), by omega, rfl, hlt, p'⟩, fun x H' y => ?_⟩
    obtain ⟨e, hx⟩ := s.yl i H x H' hg hlt y
    subst e
    exact hs i x acc _ hlt hx ha p _ fun acc' H' q r => ⟨acc', q, r⟩
  · have e : i = n := by omega
    subst e
    exact .inl ⟨s.st i H hg (Nat.le_refl _), hd acc H ha p⟩
end
end UF
set_option maxHeartbeats 4000000
namespace UF
open PySem PySem.Spec PyProof.Rows L2
abbrev Fg := PySem.W.Frag
/-! ### data -/
def StA (H : Hp) (a : Addr) (st : Stf) : Prop := H a = some (.tup [.str (S st.1), Bt st.2])
abbrev flds (fl : Wd) (t : Addr) : List (Str × V) := [("flag", .str (S fl)), ("stuffs", .ref t)]
structure Shr (fl : Wd) (ss : List Stf) : Prop where
  fl : fl.length ≤ 100
  n : ss.length ≤ 8
  st : ∀ st ∈ ss, 1 ≤ st.1.length ∧ st.1.length ≤ 100
def StsA (H : Hp) (ts : List Addr) (ss : List Stf) : Prop := Paired (StA H) ts ss
def RuleAt (C : Addr) (H : Hp) (r : Addr) (fl : Wd) (ss : List Stf) : Prop :=
  Shr fl ss ∧ ∃ dx t ts, H r = some (.ins C dx (flds fl t)) ∧ H t = some (.tup (ts.map V.ref)) ∧ StsA H ts ss
theorem StsA.same {H H' : Hp} {ts : List Addr} {ss : List Stf} (s : Same H H') (h : StsA H ts ss) : StsA H' ts ss := Paired.mapP h fun a st e => s _ _ e
theorem RuleAt.same {C : Addr} {H H' : Hp} {r : Addr} {fl : Wd} {ss : List Stf} (s : Same H H') (h : RuleAt C H r fl ss) : RuleAt C H' r fl ss := by
  obtain ⟨b, dx, t, ts, h1, h2, h3⟩ := h
  exact ⟨b, dx, t, ts, s _ _ h1, s _ _ h2, h3.same s⟩
theorem flds_flag (fl : Wd) (t : Addr) : (flds fl t).lookup ("flag" : Str) = some (.str (S fl)) := by
  have e : (("flag" : Str) == ("flag" : Str)) = true := by decide +kernel
  simp only [flds, List.lookup, e]
theorem flds_stuffs (fl : Wd) (t : Addr) : (flds fl t).lookup ("stuffs" : Str) = some (.ref t) := by
  have e : (("stuffs" : Str) == ("flag" : Str)) = false := by decide +kernel
  have e2 : (("stuffs" : Str) == ("stuffs" : Str)) = true := by decide +kernel
  simp only [flds, List.lookup, e, e2]
theorem flds_no (fl : Wd) (t : Addr) {m : Str} (h1 : (m == ("flag" : Str)) = false := by decide +kernel) (h2 : (m == ("stuffs" : Str)) = false := by decide +kernel) : (flds fl t).lookup m = none := by
  simp only [flds, List.lookup, h1, h2]
theorem paired_get {α β : Type} {R : α → β → Prop} : ∀ {l : List α} {m : List β} {i : Nat} {x : α}, Paired R l m → l[i]? = some x → ∃ y, m[i]? = some y ∧ R x y
  | _, _, _, _, .nil, e => by simp at e
  | _, _, 0, _, .cons r _, e => by simp at e; subst e; exact ⟨_, rfl, r⟩
  | _, _, i + 1, x, .cons _ t, e => by
    obtain ⟨y, h1, h2⟩ := paired_get (i := i) (x := x) t (by simpa using e)
    exact ⟨y, by simpa using h1, h2⟩
theorem paired_get' {α β : Type} {R : α → β → Prop} : ∀ {l : List α} {m : List β} {i : Nat} {y : β}, Paired R l m → m[i]? = some y → ∃ x, l[i]? = some x ∧ R x y
  | _, _, _, _, .nil, e => by simp at e
  | _, _, 0, _, .cons r _, e => by simp at e; subst e; exact ⟨_, rfl, r⟩
  | _, _, i + 1, y, .cons _ t, e => by
    obtain ⟨x, h1, h2⟩ := paired_get' (i := i) (y := y) t (by simpa using e)
    exact ⟨x, by simpa using h1, h2⟩
theorem paired_app {α β : Type} {R : α → β → Prop} : ∀ {l l' : List α} {m m' : List β}, Paired R l m → Paired R l' m' → Paired R (l ++ l') (m ++ m')
  | _, _, _, _, .nil, h => h
  | _, _, _, _, .cons r t, h => .cons r (paired_app t h)
theorem paired_one {α β : Type} {R : α → β → Prop} {x : α} {y : β} (h : R x y) : Paired R [x] [y] := .cons h .nil
theorem map_get {α β : Type} {f : α → β} {l : List α} {i : Nat} {y : β} (h : (l.map f)[i]? = some y) : ∃ x, l[i]? = some x ∧ y = f x := by
  rw [List.getElem?_map] at h
  cases e : l[i]? with
  | none => rw [e] at h; cases h
  | some x => rw [e] at h; exact ⟨x, rfl, (Option.some.inj h).symm⟩
/-- the stuff at a place of a walk over the stuffs -/
theorem sts_at {H : Hp} {ts : List Addr} {ss : List Stf} {i : Nat} {x : V} (h : StsA H ts ss) (e : (ts.map V.ref)[i]? = some x) : ∃ a st, x = .ref a ∧ ss[i]? = some st ∧ StA H a st := by
  obtain ⟨a, ha, rfl⟩ := map_get e
  obtain ⟨st, hs, r⟩ := paired_get h ha
  exact ⟨a, st, rfl, hs, r⟩
theorem lt_of_get {α : Type} {l : List α} {i : Nat} {x : α} (h : l[i]? = some x) : i < l.length := (List.getElem?_eq_some_iff.mp h).1
theorem sts_len {H : Hp} {ts : List Addr} {ss : List Stf} (h : StsA H ts ss) : ts.length = ss.length := Paired.length h
/-! ### the moves -/
def EgA (H : Hp) (a : Addr) (e : Eg) : Prop := H a = some (.tup [.int e.1, .str (S e.2)])
def MvE (H : Hp) (kv : Key × V) (m : Mv) : Prop := kv.1 = .inr (S m.1) ∧ ∃ l p0 p1, kv.2 = .ref l ∧ H l = some (.lst [.ref p0, .ref p1]) ∧ EgA H p0 m.2.1 ∧ EgA H p1 m.2.2
def MvsA (H : Hp) (d : Addr) (M : Mvs) : Prop := ∃ kvs, H d = some (.dK kvs) ∧ Paired (MvE H) kvs M
theorem MvE.same {H H' : Hp} {kv : Key × V} {m : Mv} (s : Same H H') (h : MvE H kv m) : MvE H' kv m := by
  obtain ⟨e, l, p0, p1, h1, h2, h3, h4⟩ := h
  exact ⟨e, l, p0, p1, h1, s _ _ h2, s _ _ h3, s _ _ h4⟩
theorem MvsA.same {H H' : Hp} {d : Addr} {M : Mvs} (s : Same H H') (h : MvsA H d M) : MvsA H' d M := by
  obtain ⟨kvs, h1, h2⟩ := h
  exact ⟨kvs, s _ _ h1, Paired.mapP h2 fun _ _ e => e.same s⟩
def kA (al : AL) : List (Key × V) := al.map fun p => (.inr (S p.1), .int p.2)
def AlA (H : Hp) (d : Addr) (al : AL) : Prop := H d = some (.dK (kA al))
/-! ### promises: words -/
def sp_tail (K : Fg) (C : Addr) : Sp := fun vs H Q _ => ∃ (l : Wd) (n : Nat), vs = [.str (S l), .int n] ∧ l.length ≤ 50000 ∧ Q (.str (S (tl n l))) H
def sp_last_bits (K : Fg) (C : Addr) : Sp := fun vs H Q _ => ∃ (l : Wd) (n : Nat), vs = [.str (S l), .int n] ∧ l.length ≤ 50000 ∧ Q (.str (S (tl n l))) H
def sp_is_word (K : Fg) (C : Addr) : Sp := fun vs H Q _ => ∃ l : Wd, vs = [.str (S l)] ∧ l.length ≤ 50000 ∧ ∀ H', Same H H' → Q (.bl true) H'
def sp_is_bit (K : Fg) (C : Addr) : Sp := fun vs H Q _ => ∃ b : Bool, vs = [Bt b] ∧ ∀ H', Same H H' → Q (.bl true) H'
def sp_is_sequence (K : Fg) (C : Addr) : Sp := fun vs H Q _ => ∃ a xs, vs = [.ref a] ∧ H a = some (.lst xs) ∧ ∀ H', Same H H' → Q (.bl true) H'
def sp_is_integer (K : Fg) (C : Addr) : Sp := fun vs H Q _ => ∃ i : Int, vs = [.int i] ∧ Q (.bl true) H
def sp_all_words (K : Fg) (C : Addr) : Sp := fun vs H Q _ => ∃ n : Nat, vs = [.int n] ∧ n ≤ 4 ∧ ∀ H' l, Same H H' → H' l = some (.lst ((words n).map fun w => .str (S w))) → Q (.ref l) H'
def sp_common (K : Fg) (C : Addr) : Sp := fun vs H Q _ => ∃ p q : Nat, vs = [.int p, .int q] ∧ Q (.int (Nat.gcd p q)) H
def sp_lowest (K : Fg) (C : Addr) : Sp := fun vs H Q _ => ∃ p q : Int, vs = [.int p, .int q] ∧ 0 < q ∧ q < 1000000 ∧ ∀ H' a, Same H H' → H' a = some (.tup [.int (lw p q).1, .int (lw p q).2]) → Q (.ref a) H'
def sp_is_value (K : Fg) (C : Addr) : Sp := fun vs H Q _ => ∃ (a : Addr) (p q : Int), vs = [.ref a] ∧ H a = some (.tup [.int p, .int q]) ∧ 0 < q ∧ q < 1000000 ∧ lw p q = (p, q) ∧ ∀ H', Same H H' → Q (.bl true) H'
/-! ### rules -/
def sp_is_stuff (K : Fg) (C : Addr) : Sp := fun vs H Q _ => ∃ (a : Addr) (st : Stf), vs = [.ref a] ∧ StA H a st ∧ 1 ≤ st.1.length ∧ st.1.length ≤ 100 ∧ ∀ H', Same H H' → Q (.bl true) H'
def sp_are_stuffs (K : Fg) (C : Addr) : Sp := fun vs H Q _ => ∃ (a : Addr) (ts : List Addr) (ss : List Stf), vs = [.ref a] ∧ H a = some (.lst (ts.map V.ref)) ∧ StsA H ts ss ∧ Shr [] ss ∧ apart ss = true ∧ ∀ H', Same H H' → Q (.bl true) H'
def sp_Rule_longest (K : Fg) (C : Addr) : Sp := fun vs H Q _ => ∃ (r : Addr) (fl : Wd) (ss : List Stf), vs = [.ref r] ∧ RuleAt C H r fl ss ∧ ∀ H', Same H H' → Q (.int (lng ss)) H'
def sp_Rule_put (K : Fg) (C : Addr) : Sp := fun vs H Q _ => ∃ (r : Addr) (fl : Wd) (ss : List Stf) (l : Wd), vs = [.ref r, .str (S l)] ∧ RuleAt C H r fl ss ∧ Q (opt (put ss l)) H
def optW (o : Option Wd) : V := match o with
  | none => .non
  | some w => .str (S w)
def sp_Rule_put_in (K : Fg) (C : Addr) : Sp := fun vs H Q _ => ∃ (r : Addr) (fl : Wd) (ss : List Stf) (l : Wd) (o : Option Wd), vs = [.ref r, .str (S l)] ∧ RuleAt C H r fl ss ∧ l.length ≤ 1000 ∧ pin ss (lng ss) 20 l [] [] = some o ∧ ∀ H', Same H H' → Q (optW o) H'
def sp_Rule_is_endless (K : Fg) (C : Addr) : Sp := fun vs H Q _ => ∃ (r : Addr) (fl : Wd) (ss : List Stf) (b : Bool), vs = [.ref r] ∧ RuleAt C H r fl ss ∧ edl ss (lng ss) 40 [[]] 0 = some b ∧ ∀ H', Same H H' → Q (.bl b) H'
def stx (st : Stf) : Str := S st.1 ++ ":" ++ S [st.2]
def rtx (fl : Wd) (ss : List Stf) : Str := Txt.join " " (([("flag" : Str), S fl] : List Str) ++ (if ss = [] then [] else ("put" : Str) :: ss.map stx : List Str))
def sp_Rule___str__ (K : Fg) (C : Addr) : Sp := fun vs H Q _ => ∃ (r : Addr) (fl : Wd) (ss : List Stf), vs = [.ref r] ∧ RuleAt C H r fl ss ∧ ∀ H', Same H H' → Q (.str (rtx fl ss)) H'
def sp_stuff_in (K : Fg) (C : Addr) : Sp := fun vs H Q _ => ∃ st : Stf, vs = [.str (stx st)] ∧ 1 ≤ st.1.length ∧ st.1.length ≤ 100 ∧ ∀ H' a, Same H H' → StA H' a st → Q (.ref a) H'
/-! ### lines -/
def sp_put_behind (K : Fg) (C : Addr) : Sp := fun vs H Q _ => ∃ (r : Addr) (fl : Wd) (ss : List Stf) (l x : Wd), vs = [.ref r, .str (S l)] ∧ RuleAt C H r fl ss ∧ l.length ≤ 10000 ∧ pbh ss 20 l [] = some x ∧ Q (.str (S x)) H
/-- the line for a message -/
def bod (ss : List Stf) : Wd → Wd → Option Wd
  | line, [] => some line
  | line, b :: r => match pbh ss 20 (line ++ [b]) [] with
    | none => none
    | some more => bod ss (line ++ [b] ++ more) r
def sp_body (K : Fg) (C : Addr) : Sp := fun vs H Q _ => ∃ (r : Addr) (fl : Wd) (ss : List Stf) (l x : Wd), vs = [.ref r, .str (S l)] ∧ RuleAt C H r fl ss ∧ l.length ≤ 100 ∧ bod ss [] l = some x ∧ Q (.str (S x)) H
/-! ### costs -/
def sp_move (K : Fg) (C : Addr) : Sp := fun vs H Q _ => ∃ (r : Addr) (fl : Wd) (ss : List Stf) (l : Wd) (b : Bool) (e : Eg), vs = [.ref r, .str (S l), Bt b] ∧ RuleAt C H r fl ss ∧ l.length ≤ 100 ∧ mv ss (lng ss) l b = some e ∧ ∀ H' a, H a = none → Same H H' → EgA H' a e → Q (.ref a) H'
def sp_moves_of (K : Fg) (C : Addr) : Sp := fun vs H Q _ => ∃ (r : Addr) (fl : Wd) (ss : List Stf) (M : Mvs), vs = [.ref r] ∧ RuleAt C H r fl ss ∧ mvs ss (lng ss) 60 [] [[]] = some M ∧ ∀ H' d, H d = none → Same H H' → MvsA H' d M → Q (.ref d) H'
/-- both bits lead to standings that are known -/
structure Clo (M : Mvs) : Prop where
  nd : (keys M).Nodup
  nil : (look M []).isSome = true
  e0 : ∀ x ∈ M, (look M x.2.1.2).isSome = true
  e1 : ∀ x ∈ M, (look M x.2.2.2).isSome = true
  len : M.length ≤ 20
  sm : ∀ x ∈ M, x.1.length ≤ 10 ∧ x.2.1.1 ≤ 100 ∧ x.2.2.1 ≤ 100
def LfA (M : Mvs) (H : Hp) (l : Addr) (n : Nat) : Prop := ∃ ds : List Addr, H l = some (.lst (ds.map V.ref)) ∧ ds.length = n + 1 ∧ ∀ k a, ds[k]? = some a → AlA H a (M.map fun m => (m.1, lf M k m.1))
def sp_best_left (K : Fg) (C : Addr) : Sp := fun vs H Q _ => ∃ (d : Addr) (M : Mvs) (n : Nat), vs = [.ref d, .int n] ∧ MvsA H d M ∧ Clo M ∧ n ≤ 100 ∧ ∀ H' l, Same H H' → LfA M H' l n → Q (.ref l) H'
def sp_most_put (K : Fg) (C : Addr) : Sp := fun vs H Q _ => ∃ (r : Addr) (fl : Wd) (ss : List Stf) (M : Mvs) (n : Nat), vs = [.ref r, .int n] ∧ RuleAt C H r fl ss ∧ mvs ss (lng ss) 60 [] [[]] = some M ∧ Clo M ∧ n ≤ 100 ∧ ∀ H', Same H H' → Q (.int (lf M n [])) H'
def sp_dearest (K : Fg) (C : Addr) : Sp := fun vs H Q _ => ∃ (r : Addr) (fl : Wd) (ss : List Stf) (M : Mvs) (n : Nat), vs = [.ref r, .int n] ∧ RuleAt C H r fl ss ∧ mvs ss (lng ss) 60 [] [[]] = some M ∧ Clo M ∧ n ≤ 100 ∧ ∀ H', Same H H' → Q (.str (S (dr M n []))) H'
def sp_walks (K : Fg) (C : Addr) : Sp := fun vs H Q _ => ∃ (d : Addr) (M : Mvs), vs = [.ref d] ∧ MvsA H d M ∧ Clo M ∧ ∀ H' l ds, Same H H' → H' l = some (.lst (ds.map V.ref)) → Paired (AlA H') ds (wks M M.length [[([], 0)]]).reverse → Q (.ref l) H'
def PrA (H : Hp) (a : Addr) (v : Int × Int) : Prop := H a = some (.tup [.int v.1, .int v.2])
def sp_least_of (K : Fg) (C : Addr) : Sp := fun vs H Q _ => ∃ (l : Addr) (as : List Addr) (ps : List (Int × Int)), vs = [.ref l] ∧ H l = some (.lst (as.map V.ref)) ∧ Paired (PrA H) as ps ∧ ps ≠ [] ∧ (∀ p ∈ ps, 0 < p.2 ∧ p.2 < 1000) ∧ ∀ H' a, Same H H' → PrA H' a (leastOf ps) → Q (.ref a) H'
def sp_rate (K : Fg) (C : Addr) : Sp := fun vs H Q _ => ∃ (r : Addr) (fl : Wd) (ss : List Stf) (M : Mvs), vs = [.ref r] ∧ RuleAt C H r fl ss ∧ mvs ss (lng ss) 60 [] [[]] = some M ∧ Clo M ∧ rateOk M = true ∧ ∀ H' a, Same H H' → PrA H' a (rt M) → Q (.ref a) H'
def sp_is_at_most (K : Fg) (C : Addr) : Sp := fun vs H Q _ => ∃ (a b : Addr) (u v : Int × Int), vs = [.ref a, .ref b] ∧ PrA H a u ∧ PrA H b v ∧ 0 < u.2 ∧ u.2 < 1000000 ∧ 0 < v.2 ∧ v.2 < 1000000 ∧ Q (.bl (decide (u.1 * v.2 ≤ v.1 * u.2))) H
/-- the paper: entries in some order -/
def PapA (H : Hp) (a : Addr) (M : Mvs) (q : Nat) (h : AL) : Prop := ∃ (ks : List Wd) (es : List Addr), ks.Perm (keys M) ∧ H a = some (.tup (es.map V.ref)) ∧ Paired (fun e k => ∃ b, H e = some (.tup [.str (S k), .ref b]) ∧ PrA H b (hgt q h k)) es ks
def sp_rate_paper (K : Fg) (C : Addr) : Sp := fun vs H Q _ => ∃ (r a : Addr) (fl : Wd) (ss : List Stf) (M : Mvs) (p q : Nat) (h : AL), vs = [.ref r, .ref a] ∧ RuleAt C H r fl ss ∧ mvs ss (lng ss) 60 [] [[]] = some M ∧ Clo M ∧ rateOk M = true ∧ PrA H a (p, q) ∧ rt M = ((p : Int), (q : Int)) ∧ 0 < q ∧ q ≤ 100 ∧ p ≤ 10000 ∧
  hts M p q M.length (h0 M) = h ∧ ∀ H' b, Same H H' → PapA H' b M q h → Q (.ref b) H'
/-- heights that are high enough -/
structure Keeps (M : Mvs) (p q : Nat) (h : AL) : Prop where
  q0 : 0 < q
  q1 : q ≤ 100
  p1 : p ≤ 10000
  sm : ∀ x ∈ M, 0 < (hgt q h x.1).2 ∧ (hgt q h x.1).2 ≤ 100 ∧ lw (hgt q h x.1).1 (hgt q h x.1).2 = hgt q h x.1
  k0 : ∀ x ∈ M, ((hgt q h x.1).1 * q + (x.2.1.1 * q - p) * (hgt q h x.1).2) * (hgt q h x.2.1.2).2 ≤ (hgt q h x.2.1.2).1 * ((hgt q h x.1).2 * q)
  k1 : ∀ x ∈ M, ((hgt q h x.1).1 * q + (x.2.2.1 * q - p) * (hgt q h x.1).2) * (hgt q h x.2.2.2).2 ≤ (hgt q h x.2.2.2).1 * ((hgt q h x.1).2 * q)
/-- the moves are what the rule does -/
def Mov (ss : List Stf) (M : Mvs) : Prop := ∀ x ∈ M, mv ss (lng ss) x.1 false = some x.2.1 ∧ mv ss (lng ss) x.1 true = some x.2.2 ∧ x.1.length ≤ lng ss
def sp_is_entry (K : Fg) (C : Addr) : Sp := fun vs H Q _ => ∃ (r e b : Addr) (fl : Wd) (ss : List Stf) (k : Wd) (v : Int × Int), vs = [.ref r, .ref e] ∧ RuleAt C H r fl ss ∧ H e = some (.tup [.str (S k), .ref b]) ∧ PrA H b v ∧ k.length ≤ lng ss ∧ k.length ≤ 100 ∧ 0 < v.2 ∧ v.2 < 1000000 ∧ lw v.1 v.2 = v ∧ ∀ H', Same H H' → Q (.bl true) H'
/-- the dict of heights: its keys ks -/
def HtsA (H : Hp) (d : Addr) (ks : List Wd) (q : Nat) (h : AL) : Prop := ∃ kvs, Rd H d (.dK kvs) ∧ Paired (fun (kv : Key × V) k => kv.1 = .inr (S k) ∧ ∃ b, kv.2 = .ref b ∧ PrA H b (hgt q h k)) kvs ks
def sp_is_kept (K : Fg) (C : Addr) : Sp := fun vs H Q _ => ∃ (r a d : Addr) (fl : Wd) (ss : List Stf) (M : Mvs) (p q : Nat) (h : AL) (ks : List Wd) (k : Wd), vs = [.ref r, .ref a, .ref d, .str (S k)] ∧ RuleAt C H r fl ss ∧ PrA H a (p, q) ∧ HtsA H d ks q h ∧ ks.Perm (keys M) ∧ k ∈ ks ∧ Clo M ∧ Mov ss M ∧ Keeps M p q h ∧ ∀ H', Same H H' → Q (.bl true) H'
def sp_rate_paper_holds (K : Fg) (C : Addr) : Sp := fun vs H Q _ => ∃ (r a b : Addr) (fl : Wd) (ss : List Stf) (M : Mvs) (p q : Nat) (h : AL), vs = [.ref r, .ref a, .ref b] ∧ RuleAt C H r fl ss ∧ PrA H a (p, q) ∧ PapA H b M q h ∧ Clo M ∧ Mov ss M ∧ Keeps M p q h ∧ ∀ H', Same H H' → Q (.bl true) H'
/-! ### comparing -/
def sp_parting (K : Fg) (C : Addr) : Sp := fun vs H Q _ => ∃ (r r' : Addr) (fl fl' : Wd) (ss : List Stf), vs = [.ref r, .ref r'] ∧ RuleAt C H r fl ss ∧ RuleAt C H r' fl' ss ∧ edl ss (lng ss) 40 [[]] 0 = some false ∧ ∀ H', Same H H' → Q .non H'
def sp_alike (K : Fg) (C : Addr) : Sp := fun vs H Q _ => ∃ (r r' : Addr) (fl fl' : Wd) (ss : List Stf), vs = [.ref r, .ref r'] ∧ RuleAt C H r fl ss ∧ RuleAt C H r' fl' ss ∧ edl ss (lng ss) 40 [[]] 0 = some false ∧ ∀ H', Same H H' → Q (.bl true) H'
end UF
set_option maxHeartbeats 4000000
namespace UF
open PySem PySem.Spec PyProof.Rows L2
local macro_rules | `(tactic| walk_at "q") => `(tactic| repeat (first | refine ⟨_, rfl, ?_⟩ | refine ⟨_, _, rfl, rfl, ?_⟩ | refine ⟨_, _, rfl, ?_⟩))
theorem sz5 {l : Wd} (h : l.length ≤ 50000) : (S l).length ≤ sizeLine := S_sz (by omega)
theorem tl_val (l : Wd) (n : Nat) : cutS (S l) (some (if (((S l).length : Int) - n) > 0 then (((S l).length : Int) - n) else 0)) none = S (tl n l) := by
  have e : (if (((S l).length : Int) - n) > 0 then (((S l).length : Int) - n) else 0) = ((l.length - n : Nat) : Int) := by
    rw [S_len]; split <;> omega
  rw [e, S_cut]; rfl
abbrev s_tail : Stmt := top 15
theorem sc_tail : FnScope ["line", "size"] ["line", "size"] (defScope s_tail) := ⟨rfl, rfl, rfl, by decide +kernel, rfl, by decide +kernel, by decide +kernel⟩
-- slots: 0 line, 1 size
theorem ok_tail {P : Program} {w : World} {K : PySem.W.Frag} {mg : Str → Option Value} {base : Heap} {f C : Addr} {fd : FuncData} (F : FnP K "tail" "tail" s_tail [] f fd) (T : TX K mg C)  : FnOk P w K mg base CX0 1 f fd ["line", "size"] (sp_tail K C) := by
  refine FunD.ok (k := 0) F sc_tail (fun vs H Q E h => ?_) (fun cdv A outer s H vs Q E hr h => ?_)
  · obtain ⟨l, n, rfl, _⟩ := h; rfl
  · obtain ⟨l, n, rfl, hl, q⟩ := h
    refine ⟨_, (PSs.nox (pss_one (ps_ret (pe_slice sl_str (pv 0) (po_some (pe_callB (call_max2 rfl) (by rfl) T.n_max (by decide +kernel) (pa_cons pe_int (pa_cons (pe_op op_sub (pe_callB (cln (K := K) rfl) (by rfl) T.n_len (by decide +kernel) (pa_cons (pv 0) pa_nil)) (pv 1)) pa_nil)))) po_none)))), ?_⟩
    refine ⟨_, rfl, _, rfl, _, _, rfl, ⟨sz5 hl, rfl⟩, _, rfl, _, _, rfl, rfl, _, _, rfl, _, rfl, _, rfl, sz5 hl, ?_⟩
    show Q (.str (cutS (S l) (some (if (((S l).length : Int) - n) > 0 then (((S l).length : Int) - n) else 0)) none)) H
    rw [tl_val]; exact q
abbrev s_last_bits : Stmt := top 21
theorem sc_last_bits : FnScope ["line", "many"] ["line", "many"] (defScope s_last_bits) := ⟨rfl, rfl, rfl, by decide +kernel, rfl, by decide +kernel, by decide +kernel⟩
-- slots: 0 line, 1 many
theorem ok_last_bits {P : Program} {w : World} {K : PySem.W.Frag} {mg : Str → Option Value} {base : Heap} {f C : Addr} {fd : FuncData} (F : FnP K "last_bits" "last_bits" s_last_bits [] f fd) (T : TX K mg C)  : FnOk P w K mg base CX0 1 f fd ["line", "many"] (sp_last_bits K C) := by
  refine FunD.ok (k := 0) F sc_last_bits (fun vs H Q E h => ?_) (fun cdv A outer s H vs Q E hr h => ?_)
  · obtain ⟨l, n, rfl, _⟩ := h; rfl
  · obtain ⟨l, n, rfl, hl, q⟩ := h
    refine ⟨_, (PSs.nox (pss_one (ps_ret (pe_slice sl_str (pv 0) (po_some (pe_callB (call_max2 rfl) (by rfl) T.n_max (by decide +kernel) (pa_cons pe_int (pa_cons (pe_op op_sub (pe_callB (cln (K := K) rfl) (by rfl) T.n_len (by decide +kernel) (pa_cons (pv 0) pa_nil)) (pv 1)) pa_nil)))) po_none)))), ?_⟩
    refine ⟨_, rfl, _, rfl, _, _, rfl, ⟨sz5 hl, rfl⟩, _, rfl, _, _, rfl, rfl, _, _, rfl, _, rfl, _, rfl, sz5 hl, ?_⟩
    show Q (.str (cutS (S l) (some (if (((S l).length : Int) - n) > 0 then (((S l).length : Int) - n) else 0)) none)) H
    rw [tl_val]; exact q
theorem k_one {K : PySem.W.Frag} (t : String) : PySem.W.kitOne K (.type t) (.type t) = some true := by unfold PySem.W.kitOne; simp
theorem k_ib {K : PySem.W.Frag} : PySem.W.kitOne K (.type "int") (.type "bool") = some false := kit_ty (by decide +kernel)
abbrev s_is_integer : Stmt := top 10
theorem sc_is_integer : FnScope ["value"] ["value"] (defScope s_is_integer) := ⟨rfl, rfl, rfl, by decide +kernel, rfl, by decide +kernel, by decide +kernel⟩
-- slots: 0 value
theorem ok_is_integer {P : Program} {w : World} {K : PySem.W.Frag} {mg : Str → Option Value} {base : Heap} {f C : Addr} {fd : FuncData} (F : FnP K "is_integer" "is_integer" s_is_integer [] f fd) (T : TX K mg C)  : FnOk P w K mg base CX0 1 f fd ["value"] (sp_is_integer K C) := by
  refine FunD.ok (k := 0) F sc_is_integer (fun vs H Q E h => ?_) (fun cdv A outer s H vs Q E hr h => ?_)
  · obtain ⟨i, rfl, _⟩ := h; rfl
  · obtain ⟨i, rfl, q⟩ := h
    refine ⟨_, (PSs.nox (pss_one (ps_ret (pe_and (pe_callB (cisi (K := K) rfl) (by rfl) T.n_isinstance (by decide +kernel) (pa_cons (pv 0) (pa_cons (pe_bltn (v := .ty "int") (u := .type "int") (by rfl) T.n_int (by decide +kernel) rfl) pa_nil))) (pe_one (pe_not (pe_callB (cisi (K := K) rfl) (by rfl) T.n_isinstance (by decide +kernel) (pa_cons (pv 0) (pa_cons (pe_bltn (v := .ty "bool") (u := .type "bool") (by rfl) T.n_bool (by decide +kernel) rfl) pa_nil))))))))), ?_⟩
    refine ⟨_, rfl, _, _, _, _, true, rfl, .ty _, .base (.int i), k_one _, _, rfl, iteT ?_⟩
    exact ⟨_, rfl, _, _, _, _, false, rfl, .ty _, .base (.int i), k_ib, _, rfl, q⟩
abbrev s_is_sequence : Stmt := top 11
theorem sc_is_sequence : FnScope ["value"] ["value"] (defScope s_is_sequence) := ⟨rfl, rfl, rfl, by decide +kernel, rfl, by decide +kernel, by decide +kernel⟩
-- slots: 0 value
theorem ok_is_sequence {P : Program} {w : World} {K : PySem.W.Frag} {mg : Str → Option Value} {base : Heap} {f C : Addr} {fd : FuncData} (F : FnP K "is_sequence" "is_sequence" s_is_sequence [] f fd) (T : TX K mg C)  : FnOk P w K mg base CX0 1 f fd ["value"] (sp_is_sequence K C) := by
  refine FunD.ok (k := 0) F sc_is_sequence (fun vs H Q E h => ?_) (fun cdv A outer s H vs Q E hr h => ?_)
  · obtain ⟨a, xs, rfl, _⟩ := h; rfl
  · obtain ⟨a, xs, rfl, ha, q⟩ := h
    refine ⟨_, (PSs.nox (pss_one (ps_ret (pe_callB (cisiT (K := K) rfl) (by rfl) T.n_isinstance (by decide +kernel) (pa_cons (pv 0) (pa_cons (pe_tup (pa_cons (pe_bltn (v := .ty "list") (u := .type "list") (by rfl) T.n_list (by decide +kernel) rfl) (pa_cons (pe_bltn (v := .ty "tuple") (u := .type "tuple") (by rfl) T.n_tuple (by decide +kernel) rfl) pa_nil))) pa_nil)))))), ?_⟩
    refine ⟨_, rfl, by decide, fun p hp => ?_⟩
    exact ⟨_, _, _, _, _, true, rfl, upd_same, .cons (.ty _) (.cons (.ty _) .nil), .base (.lst (Same.new hp _ _ ha)), by unfold PySem.W.kitAny; rw [k_one], q _ (.new hp)⟩
abbrev s_is_word : Stmt := top 12
theorem sc_is_word : FnScope ["value", "sign"] ["value"] (defScope s_is_word) := ⟨rfl, rfl, rfl, by decide +kernel, rfl, by decide +kernel, by decide +kernel⟩
-- slots: 0 value, 1 sign
theorem ok_is_word {P : Program} {w : World} {K : PySem.W.Frag} {mg : Str → Option Value} {base : Heap} {f C : Addr} {fd : FuncData} (F : FnP K "is_word" "is_word" s_is_word [] f fd) (T : TX K mg C)  : FnOk P w K mg base CX0 1 f fd ["value"] (sp_is_word K C) := by
  refine FunD.ok (k := 0) F sc_is_word (fun vs H Q E h => ?_) (fun cdv A outer s H vs Q E hr h => ?_)
  · obtain ⟨l, rfl, _⟩ := h; rfl
  · obtain ⟨l, rfl, hl, q⟩ := h
    refine ⟨_, (PSs.nox (pss_one (ps_ret (pe_and (pe_callB (cisi (K := K) rfl) (by rfl) T.n_isinstance (by decide +kernel) (pa_cons (pv 0) (pa_cons (pe_bltn (v := .ty "str") (u := .type "str") (by rfl) T.n_str (by decide +kernel) rfl) pa_nil))) (pe_one (pe_callB (call' (K := K) rfl rfl) (by rfl) T.n_all (by decide +kernel) (pa_cons (pe_lc (own := [("sign", 1)]) rfl sc_is_word.nd (pi_str (pv 0)) (blkOk_by (own := [("sign", 1)]) (by kernel_rfl)) (fun _ _ _ _ _ => (pg_name (i := 1) sc_is_word.nd rfl (by first | exact Or.inl rfl | exact Or.inr rfl))) (fun _ _ _ _ _ => pts_nil) (fun _ _ _ _ _ => (pe_cmpR op_in_sign (pv 1) T.bits rfl))) pa_nil))))))), ?_⟩
    refine ⟨_, rfl, _, _, _, _, true, rfl, .ty _, .base (.str _), k_one _, _, rfl, iteT ?_⟩
    refine ⟨_, rfl, _, rfl, fun D hD => ?_⟩
    refine lc_sit (sit_word l) (fun _ _ _ _ => trivial) hD (fun i acc H' => Same H H' ∧ acc = List.replicate i (V.bl true)) ⟨.refl _, rfl⟩ (fun _ _ _ _ _ => trivial) (fun i x acc H' hi hx hD' iv Nx nx => ?_) (fun acc H' hD' iv => ?_)
    · obtain ⟨b, hb, rfl⟩ := hx
      refine ⟨rfl, ?_⟩
      have e1 : (Bt b) = V.str ⟨#[cd b]⟩ := by rw [S_one]
      refine ⟨_, rfl, _, _, e1, rfl, ?_⟩
      have e2 : decide (cd b ∈ ("01" : Str).cps.toList) = true := by cases b <;> decide +kernel
      have hlen : acc.length < sizeLine := by rw [iv.2, List.length_replicate]; exact Nat.lt_of_lt_of_le (show i < 50001 by omega) (by decide)
      show ∃ acc, H' D = some (.lst acc) ∧ acc.length < sizeLine ∧ Nx (upd H' D (.lst (acc ++ [V.bl (decide (cd b ∈ ("01" : Str).cps.toList))])))
      rw [e2]
      exact ⟨acc, hD', hlen, nx _ _ upd_same ⟨by rw [off_upd]; exact iv.1, by rw [iv.2, List.replicate_succ']⟩⟩
    · refine ⟨_, List.replicate l.length true, rfl, lq (by rw [hD', iv.2, List.map_replicate]), ?_⟩
      have e : (List.replicate l.length true).all id = true := by rw [List.all_eq_true]; intro x hx; rw [List.eq_of_mem_replicate hx]; rfl
      rw [e]; exact q _ (iv.1.trans off_same)
abbrev s_is_bit : Stmt := top 13
theorem sc_is_bit : FnScope ["value"] ["value"] (defScope s_is_bit) := ⟨rfl, rfl, rfl, by decide +kernel, rfl, by decide +kernel, by decide +kernel⟩
-- slots: 0 value
theorem ok_is_bit {P : Program} {w : World} {K : PySem.W.Frag} {mg : Str → Option Value} {base : Heap} {f C : Addr} {fd : FuncData} (F : FnP K "is_bit" "is_bit" s_is_bit [] f fd) (T : TX K mg C) (c_is_word : Cal P w K mg base 1 "is_word" ["value"] (sp_is_word K C)) : FnOk P w K mg base CX0 2 f fd ["value"] (sp_is_bit K C) := by
  refine FunD.ok (k := 1) F sc_is_bit (fun vs H Q E h => ?_) (fun cdv A outer s H vs Q E hr h => ?_)
  · obtain ⟨b, rfl, _⟩ := h; rfl
  · obtain ⟨b, rfl, q⟩ := h
    refine ⟨_, (PSs.nox (pss_one (ps_ret (pe_and (c_is_word.pe hr (by rfl) (pa_cons (pv 0) pa_nil)) (pe_one (pe_cmpR op_eq (pe_callB (cln (K := K) rfl) (by rfl) T.n_len (by decide +kernel) (pa_cons (pv 0) pa_nil)) pe_int (nomark _))))))), ?_⟩
    exact ⟨_, rfl, [b], rfl, by simp, fun H' s => ⟨_, rfl, _, rfl, _, _, rfl, ⟨S_sz (by simp), rfl⟩, rfl, q _ s⟩⟩
theorem gcd_step (p q : Nat) (h : 0 < q) : Nat.gcd q (p % q) = Nat.gcd p q := by rw [Nat.gcd_comm p q, Nat.gcd_rec q p, Nat.gcd_comm]
abbrev s_common : Stmt := top 16
theorem sc_common : FnScope ["p", "q"] ["p", "q"] (defScope s_common) := ⟨rfl, rfl, rfl, by decide +kernel, rfl, by decide +kernel, by decide +kernel⟩
-- slots: 0 p, 1 q
theorem ok_common {P : Program} {w : World} {K : PySem.W.Frag} {mg : Str → Option Value} {base : Heap} {f C : Addr} {fd : FuncData} (F : FnP K "common" "common" s_common [] f fd) (T : TX K mg C)  : FnOk P w K mg base CX0 1 f fd ["p", "q"] (sp_common K C) := by
  refine FunD.ok (k := 0) F sc_common (fun vs H Q E h => ?_) (fun cdv A outer s H vs Q E hr h => ?_)
  · obtain ⟨p, q, rfl, _⟩ := h; rfl
  · obtain ⟨p, q, rfl, k⟩ := h
    refine ⟨_, (PSs.nox (pss_cons (ps_while PassesOwn.never (pt_cmpR op_gt (pv 1) pe_int (nomark _)) (pss_one (ps_par (i := 0) (j := 1) rfl sc_common.nd rfl rfl (by decide) rfl rfl (pa_cons (pv 1) (pa_cons (pe_op op_mod (pv 0) (pv 1)) pa_nil)) (by rfl))))
      (pss_one (ps_ret (pv 0))))), ?_⟩
    refine ⟨fun m σ H' => ∃ p' : Nat, H' = H ∧ σ = [some (.int p'), some (.int m)] ∧ Nat.gcd p' m = Nat.gcd p q, ⟨q, p, rfl, rfl, rfl⟩, ?_⟩
    rintro m σ H' ⟨p', eH, rfl, e⟩
    subst eH
    refine ⟨_, rfl, _, _, rfl, rfl, _, rfl, ?_⟩
    by_cases hm : 0 < m
    · rw [show decide ((0 : Int) < (m : Int)) = true by rw [decide_eq_true_eq]; omega]
      refine ⟨fun σ' H2 => ∃ m', m' < m ∧ ∃ p' : Nat, H2 = H' ∧ σ' = [some (.int p'), some (.int m')] ∧ Nat.gcd p' m' = Nat.gcd p q, fun σ' H' n => n, ?_⟩
      refine ⟨_, rfl, _, rfl, _, rfl, _, _, rfl, rfl, by show (0 : Int) < (m : Int); omega, _, _, rfl, p' % m, Nat.mod_lt _ hm, m, rfl, ?_, ?_⟩
      · show [some (V.int m), some (V.int ((p' : Int) % (m : Int)))] = [some (V.int m), some (V.int ((p' % m : Nat) : Int))]
        rw [Int.natCast_emod]
      · rw [gcd_step p' m hm, e]
    · have h0 : m = 0 := by omega
      subst h0
      rw [show decide ((0 : Int) < ((0 : Nat) : Int)) = false by decide]
      refine ⟨_, rfl, ?_⟩
      rw [Nat.gcd_zero_right] at e
      show Q (.int (p' : Int)) H'
      rw [e]; exact k
theorem gcd_abs (p q : Int) (h : 0 < q) : (Nat.gcd (if p < 0 then -p else p).toNat q.toNat : Int) = (Int.gcd p q : Int) := by
  unfold Int.gcd
  have e1 : (if p < 0 then -p else p).toNat = p.natAbs := by split <;> omega
  have e2 : q.toNat = q.natAbs := by omega
  rw [e1, e2]
abbrev s_lowest : Stmt := top 17
theorem sc_lowest : FnScope ["p", "q", "part"] ["p", "q"] (defScope s_lowest) := ⟨rfl, rfl, rfl, by decide +kernel, rfl, by decide +kernel, by decide +kernel⟩
-- slots: 0 p, 1 q, 2 part
theorem ok_lowest {P : Program} {w : World} {K : PySem.W.Frag} {mg : Str → Option Value} {base : Heap} {f C : Addr} {fd : FuncData} (F : FnP K "lowest" "lowest" s_lowest [] f fd) (T : TX K mg C) (c_common : Cal P w K mg base 1 "common" ["p", "q"] (sp_common K C)) : FnOk P w K mg base CX0 2 f fd ["p", "q"] (sp_lowest K C) := by
  refine FunD.ok (k := 1) F sc_lowest (fun vs H Q E h => ?_) (fun cdv A outer s H vs Q E hr h => ?_)
  · obtain ⟨p, q, rfl, _⟩ := h; rfl
  · obtain ⟨p, q, rfl, q0, q1, k⟩ := h
    refine ⟨_, (PSs.nox (pss_cons (ps_set (i := 2) sc_lowest.nd rfl (by first | exact Or.inl rfl | exact Or.inr rfl) (c_common.pe hr (by rfl) (pa_cons (pe_callB call_abs (by rfl) T.n_abs (by decide +kernel) (pa_cons (pv 0) pa_nil)) (pa_cons (pv 1) pa_nil))))
      (pss_one (ps_ret (pe_tup (pa_cons (pe_op op_fdivW (pv 0) (pv 2)) (pa_cons (pe_op op_fdivW (pv 1) (pv 2)) pa_nil))))))), ?_⟩
    have e1 : (if p < 0 then -p else p) = (((if p < 0 then -p else p).toNat : Nat) : Int) := by split <;> omega
    have e2 : q = ((q.toNat : Nat) : Int) := by omega
    have gp : 0 < (Int.gcd p q : Int) := by
      have : Int.gcd p q ≠ 0 := by intro z; rw [Int.gcd_eq_zero_iff] at z; omega
      omega
    have gl : (Int.gcd p q : Int) ≤ q := Int.le_of_dvd q0 (Int.gcd_dvd_right p q)
    have g2 : (Int.gcd p q : Int).natAbs.log2 < 9000 := by
      have : (Int.gcd p q : Int).natAbs < 2 ^ 20 := by omega
      exact Nat.lt_trans ((Nat.log2_lt (by omega)).mpr this) (by decide)
    refine ⟨_, rfl, _, rfl, ?_⟩
    refine ⟨_, rfl, (if p < 0 then -p else p).toNat, q.toNat, by rw [← e1, ← e2]; rfl, ?_⟩
    rw [gcd_abs p q q0]
    refine ⟨_, rfl, _, rfl, _, _, rfl, rfl, ⟨gp, g2⟩, _, rfl, _, rfl, _, _, rfl, rfl, ⟨gp, g2⟩, by show 2 ≤ sizeLine; decide, fun a ha => ?_⟩
    exact k _ a (.new ha) upd_same
theorem eqv_pair (p q : Int) : PyData.eqv (.tuple [.int p, .int q]) (.tuple [.int p, .int q]) = true := SeqAt.eqv_refl _ rfl
abbrev s_is_value : Stmt := top 18
theorem sc_is_value : FnScope ["value"] ["value"] (defScope s_is_value) := ⟨rfl, rfl, rfl, by decide +kernel, rfl, by decide +kernel, by decide +kernel⟩
-- slots: 0 value
theorem ok_is_value {P : Program} {w : World} {K : PySem.W.Frag} {mg : Str → Option Value} {base : Heap} {f C : Addr} {fd : FuncData} (F : FnP K "is_value" "is_value" s_is_value [] f fd) (T : TX K mg C) (c_is_integer : Cal P w K mg base 1 "is_integer" ["value"] (sp_is_integer K C)) (c_lowest : Cal P w K mg base 2 "lowest" ["p", "q"] (sp_lowest K C)) : FnOk P w K mg base CX0 3 f fd ["value"] (sp_is_value K C) := by
  refine FunD.ok (k := 2) F sc_is_value (fun vs H Q E h => ?_) (fun cdv A outer s H vs Q E hr h => ?_)
  · obtain ⟨a, p, q, rfl, _⟩ := h; rfl
  · obtain ⟨a, p, q, rfl, ha, q0, q1, el, k⟩ := h
    refine ⟨_, (PSs.nox (pss_cons (ps_if (PW.pt (pw_or (pt_not (pt_val (pe_callB (cisi (K := K) rfl) (by rfl) T.n_isinstance (by decide +kernel) (pa_cons (pv 0) (pa_cons (pe_bltn (v := .ty "tuple") (u := .type "tuple") (by rfl) T.n_tuple (by decide +kernel) rfl) pa_nil))))) (pw_or (pt_cmpR op_ne (pe_callB (cln (K := K) rfl) (by rfl) T.n_len (by decide +kernel) (pa_cons (pv 0) pa_nil)) pe_int (nomark _)) (pw_or (pt_not (pt_val (c_is_integer.pe hr (by rfl) (pa_cons (pe_ix (ixt (K := K) rfl) (pv 0) pe_int (fun _ _ => rfl)) pa_nil)))) (pw_or1 (pt_not (pt_val (c_is_integer.pe hr (by rfl) (pa_cons (pe_ix (ixt (K := K) rfl) (pv 0) pe_int (fun _ _ => rfl)) pa_nil))))))))) (pss_one (ps_ret pe_bl)) pss_nil)
      (pss_one (ps_ret (pe_and (pe_cmpR op_gt (pe_ix (ixt (K := K) rfl) (pv 0) pe_int (fun _ _ => rfl)) pe_int (nomark _)) (pe_one (pe_cmpR (oeqD (K := K) rfl hr.units) (c_lowest.pe hr (by rfl) (pa_cons (pe_ix (ixt (K := K) rfl) (pv 0) pe_int (fun _ _ => rfl)) (pa_cons (pe_ix (ixt (K := K) rfl) (pv 0) pe_int (fun _ _ => rfl)) pa_nil))) (pv 0) (nomark _)))))))), ?_⟩
    refine ⟨_, rfl, _, _, _, _, true, rfl, .ty _, .base (.tup ha), k_one _, _, rfl, ?_⟩
    refine ⟨_, rfl, _, _, rfl, .inr ⟨_, tq ha, rfl⟩, rfl, _, rfl, ?_⟩
    refine ⟨_, rfl, _, _, _, _, rfl, rfl, tq ha, atI_nat (j := 0) rfl, p, rfl, _, rfl, ?_⟩
    refine ⟨_, rfl, _, _, _, _, rfl, rfl, tq ha, atI_nat (j := 1) rfl, q, rfl, _, rfl, ?_⟩
    refine ⟨_, rfl, _, _, _, _, rfl, rfl, tq ha, atI_nat (j := 1) rfl, _, _, rfl, rfl, _, rfl, ?_⟩
    rw [show decide ((0 : Int) < q) = true by rw [decide_eq_true_eq]; exact q0]
    refine ⟨_, rfl, _, _, _, _, rfl, rfl, tq ha, atI_nat (j := 0) rfl, _, rfl, _, _, _, _, rfl, rfl, tq ha, atI_nat (j := 1) rfl, p, q, rfl, q0, q1, fun H' b s hb => ?_⟩
    rw [el] at hb
    refine ⟨_, rfl, .tuple [.int p, .int q], .tuple [.int p, .int q], .tup (tq hb) (.cons (.int _) (.cons (.int _) .nil)), .tup (tq (s _ _ ha)) (.cons (.int _) (.cons (.int _) .nil)), rfl, rfl, ?_⟩
    rw [eqv_pair]
    exact k _ s
theorem take_snoc {α : Type} {l : List α} {i : Nat} {x : α} (h : l[i]? = some x) : l.take (i + 1) = l.take i ++ [x] := by
  rw [List.take_add_one, h]; rfl
theorem words_len : ∀ (n : Nat) (w : Wd), w ∈ words n → w.length = n
  | 0, w, h => by simp [words] at h; simp [h]
  | n + 1, w, h => by
    simp only [words, List.mem_flatMap] at h
    obtain ⟨v, hv, h⟩ := h
    have := words_len n v hv
    simp at h
    rcases h with rfl | rfl <;> simp [this]
theorem flat_len (l : List Wd) (k : Nat) : ((l.take k).flatMap fun w => [w ++ [false], w ++ [true]]).length ≤ 2 * l.length := by
  rw [List.length_flatMap]
  have : ∀ m : List Wd, (m.map fun w => [w ++ [false], w ++ [true]].length).sum = 2 * m.length := by
    intro m; induction m with
    | nil => rfl
    | cons a m ih => rw [List.map_cons, List.sum_cons, ih]; simp; omega
  rw [this, List.length_take]
  have : min k l.length ≤ l.length := Nat.min_le_right _ _
  omega
theorem words_num : ∀ (n : Nat), n ≤ 4 → (words n).length ≤ 16
  | 0, _ => by decide
  | 1, _ => by decide
  | 2, _ => by decide
  | 3, _ => by decide
  | 4, _ => by decide
  | n + 5, h => by omega
abbrev s_all_words : Stmt := top 14
theorem sc_all_words : FnScope ["size", "found", "turn", "word", "bit"] ["size"] (defScope s_all_words) := ⟨rfl, rfl, rfl, by decide +kernel, rfl, by decide +kernel, by decide +kernel⟩
-- slots: 0 size, 1 found, 2 turn, 3 word, 4 bit
theorem ok_all_words {P : Program} {w : World} {K : PySem.W.Frag} {mg : Str → Option Value} {base : Heap} {f C : Addr} {fd : FuncData} (F : FnP K "all_words" "all_words" s_all_words [] f fd) (T : TX K mg C)  : FnOk P w K mg base CX0 1 f fd ["size"] (sp_all_words K C) := by
  refine FunD.ok (k := 0) F sc_all_words (fun vs H Q E h => ?_) (fun cdv A outer s H vs Q E hr h => ?_)
  · obtain ⟨n, rfl, _⟩ := h; rfl
  · obtain ⟨n, rfl, hn, k⟩ := h
    refine ⟨_, (PSs.nox (pss_cons (ps_set (i := 1) sc_all_words.nd rfl (by first | exact Or.inl rfl | exact Or.inr rfl) (pe_lst (pa_cons pe_str pa_nil)))
      (pss_cons (ps_for PassesOwn.never rfl (pi_range1 rfl T.n_range (pa_cons (pv 0) pa_nil)) (pg_name (i := 2) sc_all_words.nd rfl (by first | exact Or.inl rfl | exact Or.inr rfl)) (pss_one (ps_setLc2 (own := [("word", 3), ("bit", 4)]) (vs1 := [4]) (i := 1) rfl sc_all_words.nd rfl rfl (sw_true rfl rfl rfl (by decide +kernel)) (pil (K := K) rfl (pv 1)) (blkOk_by (own := [("word", 3), ("bit", 4)]) (by kernel_rfl)) (by decide) (fun _ _ _ _ _ => (pg_name (i := 3) sc_all_words.nd rfl (by first | exact Or.inl rfl | exact Or.inr rfl))) (fun _ _ _ _ _ => pts_nil) (fun _ _ _ _ _ => (pi_str T.bits)) (fun _ _ _ _ _ => (pg_name (i := 4) sc_all_words.nd rfl (by first | exact Or.inl rfl | exact Or.inr rfl))) (fun _ _ _ _ _ => pts_nil) (fun _ _ _ _ _ => (pe_op op_add_str (pv 3) (pv 4))))))
      (pss_one (ps_ret (pv 1)))))), ?_⟩
    refine ⟨by decide, fun p hp => ?_⟩
    refine ⟨_, rfl, (n : Int), rfl, by omega, by omega, ?_⟩
    refine for_sit (sit_range 0 n) (fun i σ H' => ∃ l t, σ = [some (.int n), some (.ref l), t, none, none] ∧ Same H H' ∧ H' l = some (.lst ((words i).map fun w => .str (S w)))) ⟨p, none, rfl, .new hp, by rw [upd_same, S_nil]; rfl⟩ (fun _ _ _ _ _ => trivial) ?_ ?_
    · rintro i x σ H' hi rfl ⟨l, t, rfl, s, hl⟩
      refine ⟨_, rfl, l, rfl, ⟨_, lq hl⟩, fun D hD => ?_⟩
      refine lc_sit (sit_list ((words i).map fun w => V.str (S w))) (fun _ _ s h => s.seq h) hD (fun j acc H2 => Same H H2 ∧ SqL K H2 l ((words i).map fun w => V.str (S w)) ∧ acc = (((words i).take j).flatMap fun w => [w ++ [false], w ++ [true]]).map fun w => V.str (S w)) ⟨s, lq hl, rfl⟩ (fun _ _ _ _ h => h.2.1) ?_ ?_
      · intro j x acc H2 hj hx hD2 iv Nx nx
        obtain ⟨w, hw, rfl⟩ := map_get hx
        have hw5 : w.length ≤ 10 := by rw [words_len _ _ (List.mem_of_getElem? hw)]; omega
        have hacc : acc.length ≤ 10000 := by
          rw [iv.2.2, List.length_map]
          exact Nat.le_trans (flat_len _ _) (by have := words_num i (by omega); simp; omega)
        refine ⟨rfl, ?_⟩
        refine ⟨_, rfl, ?_⟩
        rw [S_01]
        refine in_sit (sit_word [false, true]) (fun _ _ _ h => trivial) hD2 (fun k acc' H3 => Same (off H2 D) H3 ∧ acc' = acc ++ (([false, true].take k).map fun b => V.str (S (w ++ [b])))) ⟨.refl _, by simp⟩ (fun _ _ _ _ _ => trivial) ?_ ?_
        · rintro k x acc' H3 hk ⟨b, hb, rfl⟩ hD3 iv3 Nx1 nx1
          refine ⟨rfl, ?_⟩
          refine ⟨_, rfl, _, rfl, _, _, rfl, rfl, S_sz2 (by simp; omega), acc', hD3, ?_, nx1 _ _ upd_same ⟨?_, ?_⟩⟩
          · refine Nat.lt_of_lt_of_le (show acc'.length < 50000 from ?_) (by decide)
            rw [iv3.2, List.length_append, List.length_map, List.length_take]
            have : min k [false, true].length ≤ 2 := Nat.min_le_right _ _
            omega
          · rw [off_upd]; exact iv3.1
          · rw [iv3.2, S_app, List.append_assoc, take_snoc hb, List.map_append]; rfl
        · intro acc' H3 hD3 iv3
          refine nx _ _ hD3 ⟨iv.1.trans iv3.1, iv3.1.seq iv.2.1, ?_⟩
          rw [iv3.2, iv.2.2, take_snoc hw, List.flatMap_append, List.map_append]; rfl
      · intro acc H2 hD2 iv
        refine ⟨D, _, rfl, iv.1.trans off_same, ?_⟩
        rw [hD2, iv.2.2, List.length_map, List.take_length]; rfl
    · rintro σ H' ⟨l, t, rfl, s, hl⟩
      exact ⟨_, rfl, k _ _ s (by rw [hl])⟩
end UF
set_option maxHeartbeats 4000000
namespace UF
open PySem PySem.Spec PyProof.Rows L2
/-! ### help -/
theorem cutV_take (xs : List V) (n : Nat) : cutV xs none (some (n : Int)) = xs.take n := by
  unfold cutV
  rw [HT.sIx_none, HT.sIx_nat, List.drop_zero, Nat.sub_zero]
  by_cases h : n ≤ xs.length
  · rw [Nat.min_eq_left h]
  · rw [Nat.min_eq_right (by omega), List.take_of_length_le (Nat.le_refl _), List.take_of_length_le (by omega)]
theorem cutV_drop (xs : List V) (n : Nat) : cutV xs (some (n : Int)) none = xs.drop n := by
  unfold cutV
  rw [HT.sIx_none, HT.sIx_nat]
  by_cases h : n ≤ xs.length
  · rw [Nat.min_eq_left h, List.take_of_length_le (by simp)]
  · rw [Nat.min_eq_right (by omega), List.drop_of_length_le (by omega), List.drop_of_length_le (by omega)]; simp
theorem for_enum {K : PySem.W.Frag} {a : Addr} {xs : List V} {g : TG} {tb : TS} {D : Ends} {σ : Sg} {H : Hp} (Pv : Nat → Sg → Hp → Prop) (h0 : Pv 0 σ H) (hl : ∀ i σ H, i ≤ xs.length → Pv i σ H → SqL K H a xs)
    (hs : ∀ i x σ H T, xs[i]? = some x → Pv i σ H → H T = none → g (.ref T) σ (upd H T (.tup [.int (i : Nat), x])) fun σ2 H2 => tb { D with nx := Pv (i + 1), ct := Pv (i + 1), bk := D.nx } σ2 H2) (hd : ∀ σ H, Pv xs.length σ H → D.nx σ H) :
    ∃ W : Nat → Nat → Sg → Hp → Prop, (∃ m, W 0 m σ H) ∧ ∀ i m σ H, W i m σ H →
      ((Ite K a).stop i H ∧ D.nx σ H) ∨ ((Ite K a).go i H ∧ ∃ N : Sg → Hp → Prop, (∀ σ' H', N σ' H' → ∃ m', m' < m ∧ W (i + 1) m' σ' H') ∧ ∀ x H', (Ite K a).yld i H x H' → g x σ H' fun σ2 H2 => tb { D with nx := N, ct := N, bk := D.nx } σ2 H2) := by
  refine ⟨fun i m σ H => m = xs.length - i ∧ i ≤ xs.length ∧ Pv i σ H, ⟨xs.length, by simp, Nat.zero_le _, h0⟩, ?_⟩
  rintro i m σ H ⟨rfl, hi, p⟩
  have q := hl i σ H hi p
  by_cases hlt : i < xs.length
  · refine .inr ⟨⟨xs, xs[i], q, by simp [hlt]⟩, Pv (i + 1), fun σ' H' p' => ⟨xs.length - (i + 1), by omega, rfl, hlt, p'⟩, fun x H' y => ?_⟩
    obtain ⟨T, x, rfl, hT, rfl, hx⟩ := y
    exact hs i x σ _ T (hx xs q) p hT
  · have e : i = xs.length := by omega
    subst e
    exact .inl ⟨⟨xs, q, Nat.le_refl _⟩, hd σ H p⟩
def kvK (ws : List Wd) : List (Key × V) := ws.map fun w => (.inr (S w), .bl true)
theorem kvK_get (x : Wd) : ∀ ws : List Wd, (valV (kvK ws) (.inr (S x))).isSome = mem x ws
  | [] => rfl
  | y :: r => by
    unfold mem
    show (valV ((.inr (S y), .bl true) :: kvK r) (.inr (S x))).isSome = _
    cases h : weq x y with
    | true =>
      have e := weq_eq.mp h
      subst e
      rw [valV_pos rfl]; rfl
    | false =>
      have hn : ¬ ((Sum.inr (S y) : Key) = .inr (S x)) := fun e => by
        have := S_inj (Sum.inr.inj e)
        rw [this, weq_self] at h; cases h
      rw [valV_neg hn]
      exact kvK_get x r
theorem putK_new {kvs : List (Key × V)} {k : Key} {v : V} (h : (valV kvs k).isSome = false) : putK kvs k v = kvs ++ [(k, v)] := by
  unfold putK
  rw [valV_any, h]; rfl
theorem kvK_put {x : Wd} {ws : List Wd} (h : mem x ws = false) : putK (kvK ws) (.inr (S x)) (.bl true) = kvK (ws ++ [x]) := by
  rw [putK_new (by rw [kvK_get]; exact h)]
  unfold kvK; rw [List.map_append]; rfl
theorem kvK_len (ws : List Wd) : (kvK ws).length = ws.length := by unfold kvK; rw [List.length_map]
theorem lng_le : ∀ {ss : List Stf} {n : Nat}, (∀ st ∈ ss, st.1.length ≤ n) → lng ss ≤ n
  | [], n, _ => Nat.zero_le _
  | (p, b) :: r, n, h => by
    unfold lng
    exact Nat.max_le.mpr ⟨h _ (List.mem_cons_self ..), lng_le fun st hs => h st (List.mem_cons_of_mem _ hs)⟩
theorem Shr.lng {fl : Wd} {ss : List Stf} (h : Shr fl ss) : lng ss ≤ 100 := lng_le fun st hs => (h.st st hs).2
theorem tl_len (n : Nat) (l : Wd) : (tl n l).length ≤ n := by unfold tl; rw [List.length_drop]; omega
theorem apart1_get : ∀ (r pre : List Stf), apart1 pre r = true → ∀ (i : Nat) (x : Stf), r[i]? = some x → ∀ y ∈ pre ++ r.take i ++ r.drop (i + 1), sfx y.1 x.1 = false
  | [], _, _, i, x, h => by simp at h
  | a :: r, pre, h, 0, x, hx => by
    unfold apart1 at h
    rw [Bool.and_eq_true] at h
    simp at hx; subst hx
    intro y hy
    have := List.all_eq_true.mp h.1 y (by simpa using hy)
    simpa using this
  | a :: r, pre, h, i + 1, x, hx => by
    unfold apart1 at h
    rw [Bool.and_eq_true] at h
    intro y hy
    exact apart1_get r (pre ++ [a]) h.2 i x (by simpa using hx) y (by simpa using hy)
theorem lng_max : ∀ {ss : List Stf} {m : Int}, m ∈ (0 : Int) :: ss.map (fun st => (st.1.length : Int)) → (∀ y, y ∈ (0 : Int) :: ss.map (fun st => (st.1.length : Int)) → y ≤ m) → m = (lng ss : Nat) := by
  intro ss m h1 h2
  have a : ∀ ss : List Stf, (lng ss : Int) ∈ (0 : Int) :: ss.map (fun st => (st.1.length : Int)) := by
    intro ss; induction ss with
    | nil => simp [lng]
    | cons st r ih =>
      unfold lng
      by_cases h : st.1.length ≤ lng r
      · rw [Nat.max_eq_right h]
        rcases List.mem_cons.mp ih with e | e
        · rw [e]; simp
        · exact List.mem_cons_of_mem _ (List.mem_cons_of_mem _ e)
      · rw [Nat.max_eq_left (by omega)]; simp
  have b : ∀ (ss : List Stf), ∀ y ∈ (0 : Int) :: ss.map (fun st => (st.1.length : Int)), y ≤ (lng ss : Int) := by
    intro ss; induction ss with
    | nil => intro y hy; simp at hy; subst hy; exact Int.natCast_nonneg _
    | cons st r ih =>
      intro y hy
      unfold lng
      have h3 : (lng r : Int) ≤ ((max st.1.length (lng r) : Nat) : Int) := by omega
      rcases List.mem_cons.mp hy with e | hy
      · subst e; omega
      · rcases List.mem_cons.mp hy with e | hy
        · have e' : y = (st.1.length : Int) := e
          omega
        · exact Int.le_trans (ih y (List.mem_cons_of_mem _ hy)) h3
  have := b ss m h1
  have := h2 _ (a ss)
  omega
abbrev s_is_stuff : Stmt := top 28
theorem sc_is_stuff : FnScope ["value"] ["value"] (defScope s_is_stuff) := ⟨rfl, rfl, rfl, by decide +kernel, rfl, by decide +kernel, by decide +kernel⟩
-- slots: 0 value
theorem ok_is_stuff {P : Program} {w : World} {K : PySem.W.Frag} {mg : Str → Option Value} {base : Heap} {f C : Addr} {fd : FuncData} (F : FnP K "is_stuff" "is_stuff" s_is_stuff [] f fd) (T : TX K mg C) (c_is_bit : Cal P w K mg base 2 "is_bit" ["value"] (sp_is_bit K C)) (c_is_word : Cal P w K mg base 1 "is_word" ["value"] (sp_is_word K C)) : FnOk P w K mg base CX0 3 f fd ["value"] (sp_is_stuff K C) := by
  refine FunD.ok (k := 2) F sc_is_stuff (fun vs H Q E h => ?_) (fun cdv A outer s H vs Q E hr h => ?_)
  · obtain ⟨a, st, rfl, _⟩ := h; rfl
  · obtain ⟨a, st, rfl, ha, h1, h2, q⟩ := h
    have hl : (S st.1).length ≤ sizeLine := S_sz (by omega)
    refine ⟨_, (PSs.nox (pss_cons (ps_if (PW.pt (pw_or (pt_not (pt_val (pe_callB (cisi (K := K) rfl) (by rfl) T.n_isinstance (by decide +kernel) (pa_cons (pv 0) (pa_cons (pe_bltn (v := .ty "tuple") (u := .type "tuple") (by rfl) T.n_tuple (by decide +kernel) rfl) pa_nil))))) (pw_or1 (pt_cmpR op_ne (pe_callB (cln (K := K) rfl) (by rfl) T.n_len (by decide +kernel) (pa_cons (pv 0) pa_nil)) pe_int (nomark _))))) (pss_one (ps_ret pe_bl)) pss_nil)
      (pss_one (ps_ret (pe_and (c_is_word.pe hr (by rfl) (pa_cons (pe_ix (ixt (K := K) rfl) (pv 0) pe_int (fun _ _ => rfl)) pa_nil)) (pe_and (pe_cmpR op_gt (pe_callB (cln (K := K) rfl) (by rfl) T.n_len (by decide +kernel) (pa_cons (pe_ix (ixt (K := K) rfl) (pv 0) pe_int (fun _ _ => rfl)) pa_nil)) pe_int (nomark _)) (pe_one (c_is_bit.pe hr (by rfl) (pa_cons (pe_ix (ixt (K := K) rfl) (pv 0) pe_int (fun _ _ => rfl)) pa_nil))))))))), ?_⟩
    refine ⟨_, rfl, _, _, _, _, true, rfl, .ty _, .base (.tup ha), k_one _, _, rfl, ?_⟩
    refine ⟨_, rfl, _, _, rfl, .inr ⟨_, tq ha, rfl⟩, rfl, _, rfl, ?_⟩
    refine ⟨_, rfl, _, _, _, _, rfl, rfl, tq ha, atI_nat (j := 0) rfl, st.1, rfl, by omega, fun H' s => ⟨_, rfl, ?_⟩⟩
    refine ⟨_, rfl, _, _, _, _, rfl, rfl, tq (s _ _ ha), atI_nat (j := 0) rfl, _, _, rfl, ⟨hl, rfl⟩, _, _, rfl, rfl, _, rfl, ?_⟩
    rw [show decide ((0 : Int) < (((S st.1).length : Nat) : Int)) = true by rw [decide_eq_true_eq, S_len]; omega]
    exact ⟨_, rfl, _, _, _, _, rfl, rfl, tq (s _ _ ha), atI_nat (j := 1) rfl, st.2, rfl, fun H2 s2 => q _ (s.trans s2)⟩
abbrev s_Rule_longest : Stmt := inClass (top 31) 2
theorem sc_Rule_longest : FnScope ["self", "pattern", "bit"] ["self"] (defScope s_Rule_longest) := ⟨rfl, rfl, rfl, by decide +kernel, rfl, by decide +kernel, by decide +kernel⟩
-- slots: 0 self, 1 pattern, 2 bit
theorem ok_Rule_longest {P : Program} {w : World} {K : PySem.W.Frag} {mg : Str → Option Value} {base : Heap} {f C : Addr} {fd : FuncData} (F : FnP K "longest" "Rule.longest" s_Rule_longest [] f fd) (T : TX K mg C)  : FnOk P w K mg base CX0 1 f fd ["self"] (sp_Rule_longest K C) := by
  refine FunD.ok (k := 0) F sc_Rule_longest (fun vs H Q E h => ?_) (fun cdv A outer s H vs Q E hr h => ?_)
  · obtain ⟨r, fl, ss, rfl, _⟩ := h; rfl
  · obtain ⟨r, fl, ss, rfl, ⟨sh, dx, t, ts, hr', ht, hts⟩, q⟩ := h
    refine ⟨_, (PSs.nox (pss_one (ps_ret (pe_callB (cmx (K := K) rfl rfl) (by rfl) T.n_max (by decide +kernel) (pa_cons (pe_lst (pa_cons pe_int (past (K := K) rfl (pe_lc (own := [("pattern", 1), ("bit", 2)]) rfl sc_Rule_longest.nd (pit (K := K) rfl (pef (K := K) rfl (pv 0))) (blkOk_by (own := [("pattern", 1), ("bit", 2)]) (by kernel_rfl)) (fun _ _ _ _ _ => (pgt (K := K) (n := 2) rfl rfl (pgs_cons (pg_name (i := 1) sc_Rule_longest.nd rfl (by first | exact Or.inl rfl | exact Or.inr rfl)) (pgs_cons (pg_name (i := 2) sc_Rule_longest.nd rfl (by first | exact Or.inl rfl | exact Or.inr rfl)) pgs_nil)))) (fun _ _ _ _ _ => pts_nil) (fun _ _ _ _ _ => (pe_callB (cln (K := K) rfl) (by rfl) T.n_len (by decide +kernel) (pa_cons (pv 1) pa_nil)))) pa_nil))) pa_nil))))), ?_⟩
    refine ⟨_, rfl, r, C, dx, _, _, rfl, hr', T.cl, T.nS, flds_stuffs _ _, t, rfl, ⟨_, tq ht⟩, fun D hD => ?_⟩
    refine lc_sit (sit_tup (ts.map V.ref)) (fun _ _ s h => s.tup h) hD (fun i acc H' => Same H H' ∧ acc = ((ss.take i).map fun st => V.int st.1.length)) ⟨.refl _, rfl⟩ (fun _ _ _ _ h => h.1.tup (tq ht)) ?_ ?_
    · intro i x acc H' hi hx hD' iv Nx nx
      obtain ⟨a, st, rfl, hs, ha⟩ := sts_at hts hx
      have s : Same H H' := iv.1.trans off_same
      have hl : (S st.1).length ≤ sizeLine := S_sz (by have := (sh.st st (List.mem_of_getElem? hs)).2; omega)
      refine ⟨a, _, rfl, tq (s _ _ ha), rfl, _, _, rfl, _, _, rfl, rfl, rfl, ?_⟩
      refine ⟨_, rfl, _, _, rfl, ⟨hl, rfl⟩, acc, hD', ?_, nx _ _ upd_same ⟨?_, ?_⟩⟩
      · rw [iv.2, List.length_map, List.length_take]
        have := Nat.min_le_right i ss.length
        exact Nat.lt_of_le_of_lt (Nat.le_trans this sh.n) (by decide)
      · rw [off_upd]; exact iv.1
      · rw [iv.2, S_len, take_snoc hs, List.map_append]; rfl
    · intro acc H' hD' iv
      have s : Same H H' := iv.1.trans off_same
      refine ⟨D, _, rfl, .inr (lq hD'), ?_⟩
      have ea : acc = ss.map fun st => V.int st.1.length := by rw [iv.2, List.length_map, sts_len hts, List.take_length]
      refine ⟨?_, fun p hp => ?_⟩
      · rw [ea]
        show (V.int 0 :: (ss.map _ ++ [])).length ≤ sizeLine
        rw [List.length_cons, List.append_nil, List.length_map]
        exact Nat.le_trans (Nat.succ_le_succ sh.n) (by decide)
      · refine ⟨p, (0 : Int) :: ss.map (fun st => (st.1.length : Int)), rfl, lq ?_, Nat.succ_pos _, fun m h1 h2 => ?_⟩
        · rw [upd_same, ea, List.append_nil]
          show some (HO.lst (V.int 0 :: ss.map _)) = some (HO.lst (V.int 0 :: ((ss.map _).map V.int)))
          rw [List.map_map]; rfl
        · rw [lng_max h1 h2]
          exact q _ (s.trans (.new hp))
abbrev s_Rule_put : Stmt := inClass (top 31) 4
theorem sc_Rule_put : FnScope ["self", "line", "pattern", "bit"] ["self", "line"] (defScope s_Rule_put) := ⟨rfl, rfl, rfl, by decide +kernel, rfl, by decide +kernel, by decide +kernel⟩
-- slots: 0 self, 1 line, 2 pattern, 3 bit
theorem ok_Rule_put {P : Program} {w : World} {K : PySem.W.Frag} {mg : Str → Option Value} {base : Heap} {f C : Addr} {fd : FuncData} (F : FnP K "put" "Rule.put" s_Rule_put [] f fd) (T : TX K mg C)  : FnOk P w K mg base CX0 1 f fd ["self", "line"] (sp_Rule_put K C) := by
  refine FunD.ok (k := 0) F sc_Rule_put (fun vs H Q E h => ?_) (fun cdv A outer s H vs Q E hr h => ?_)
  · obtain ⟨r, fl, ss, l, rfl, _⟩ := h; rfl
  · obtain ⟨r, fl, ss, l, rfl, ⟨sh, dx, t, ts, hr', ht, hts⟩, q⟩ := h
    refine ⟨_, (PSs.nox (pss_cons (ps_for PassesOwn.never rfl (pit (K := K) rfl (pef (K := K) rfl (pv 0))) (pgt (K := K) (n := 2) rfl rfl (pgs_cons (pg_name (i := 2) sc_Rule_put.nd rfl (by first | exact Or.inl rfl | exact Or.inr rfl)) (pgs_cons (pg_name (i := 3) sc_Rule_put.nd rfl (by first | exact Or.inl rfl | exact Or.inr rfl)) pgs_nil))) (pss_one (ps_if (pt_val (pe_m1 PySem.F.slot_str_endswith PySem.F.type_str_endswith mt_endswith (pv 1) (pv 2))) (pss_one (ps_ret (pv 3))) pss_nil)))
      (pss_one (ps_ret pe_non)))), ?_⟩
    refine ⟨_, rfl, r, C, dx, _, _, rfl, hr', T.cl, T.nS, flds_stuffs _ _, t, rfl, ⟨_, tq ht⟩, ?_⟩
    refine for_sit (sit_tup (ts.map V.ref)) (fun i σ H' => H' = H ∧ ∃ a b, σ = [some (.ref r), some (.str (S l)), a, b] ∧ put ss l = put (ss.drop i) l) ⟨rfl, none, none, rfl, rfl⟩ (fun i σ H' _ h => by rw [h.1]; exact tq ht) ?_ ?_
    · rintro i x σ H' hi hx ⟨eH, a0, b0, rfl, ep⟩
      subst eH
      obtain ⟨a, st, rfl, hs, ha⟩ := sts_at hts hx
      refine ⟨a, _, rfl, tq ha, rfl, _, _, rfl, _, _, rfl, rfl, ?_⟩
      refine ⟨_, rfl, ⟨_, rfl⟩, _, rfl, _, _, rfl, rfl, _, rfl, ?_⟩
      rw [S_ends]
      have ed : ss.drop i = st :: ss.drop (i + 1) := by
        obtain ⟨h1, h2⟩ := List.getElem?_eq_some_iff.mp hs
        rw [← h2]; exact List.drop_eq_getElem_cons h1
      rw [ed] at ep
      have e2 : put (st :: ss.drop (i + 1)) l = (match sfx st.1 l with | true => some st.2 | false => put (ss.drop (i + 1)) l) := rfl
      rw [e2] at ep
      cases hb : sfx st.1 l with
      | true =>
        rw [hb] at ep
        refine ⟨_, rfl, ?_⟩
        rw [ep] at q; exact q
      | false =>
        rw [hb] at ep
        exact ⟨rfl, _, _, rfl, ep⟩
    · rintro σ H' ⟨eH, a0, b0, rfl, ep⟩
      subst eH
      rw [List.length_map, sts_len hts, List.drop_length] at ep
      rw [ep] at q; exact q
end UF
set_option maxHeartbeats 4000000
namespace UF
open PySem PySem.Spec PyProof.Rows L2
theorem map_at {α β : Type} {f : α → β} {l : List α} {i : Nat} {x : α} (h : l[i]? = some x) : (l.map f)[i]? = some (f x) := by rw [List.getElem?_map, h]; rfl
abbrev s_are_stuffs : Stmt := top 29
theorem sc_are_stuffs : FnScope ["value", "at", "stuff", "rest", "one", "pattern", "bit"] ["value"] (defScope s_are_stuffs) := ⟨rfl, rfl, rfl, by decide +kernel, rfl, by decide +kernel, by decide +kernel⟩
-- slots: 0 value, 1 at, 2 stuff, 3 rest, 4 one, 5 pattern, 6 bit
theorem ok_are_stuffs {P : Program} {w : World} {K : PySem.W.Frag} {mg : Str → Option Value} {base : Heap} {f C : Addr} {fd : FuncData} (F : FnP K "are_stuffs" "are_stuffs" s_are_stuffs [] f fd) (T : TX K mg C) (c_is_sequence : Cal P w K mg base 1 "is_sequence" ["value"] (sp_is_sequence K C)) (c_is_stuff : Cal P w K mg base 3 "is_stuff" ["value"] (sp_is_stuff K C)) : FnOk P w K mg base CX0 4 f fd ["value"] (sp_are_stuffs K C) := by
  refine FunD.ok (k := 3) F sc_are_stuffs (fun vs H Q E h => ?_) (fun cdv A outer s H vs Q E hr h => ?_)
  · obtain ⟨a, ts, ss, rfl, _⟩ := h; rfl
  · obtain ⟨a, ts, ss, rfl, ha, hts, sh, ap, q⟩ := h
    have hn := sts_len hts
    refine ⟨_, (PSs.nox (pss_cons (ps_if (PW.pt (pw_or (pt_not (pt_val (c_is_sequence.pe hr (by rfl) (pa_cons (pv 0) pa_nil)))) (pw_or1 (pt_not (pt_val (pe_callB (call' (K := K) rfl rfl) (by rfl) T.n_all (by decide +kernel) (pa_cons (pe_lc (own := [("one", 4)]) rfl sc_are_stuffs.nd (pil (K := K) rfl (pv 0)) (blkOk_by (own := [("one", 4)]) (by kernel_rfl)) (fun _ _ _ _ _ => (pg_name (i := 4) sc_are_stuffs.nd rfl (by first | exact Or.inl rfl | exact Or.inr rfl))) (fun _ _ _ _ _ => pts_nil) (fun _ _ _ _ _ => (c_is_stuff.pe hr (by rfl) (pa_cons (pv 4) pa_nil)))) pa_nil))))))) (pss_one (ps_ret pe_bl)) pss_nil)
      (pss_cons (ps_for PassesOwn.never rfl (pien (K := K) rfl rfl T.n_enumerate (pa_cons (pv 0) pa_nil)) (pgt (K := K) (n := 2) rfl rfl (pgs_cons (pg_name (i := 1) sc_are_stuffs.nd rfl (by first | exact Or.inl rfl | exact Or.inr rfl)) (pgs_cons (pg_name (i := 2) sc_are_stuffs.nd rfl (by first | exact Or.inl rfl | exact Or.inr rfl)) pgs_nil))) (pss_cons (ps_set (i := 3) sc_are_stuffs.nd rfl (by first | exact Or.inl rfl | exact Or.inr rfl) (pe_lst (past (K := K) rfl (pe_slice (sll (K := K) rfl) (pv 0) po_none (po_some (pv 1))) (past (K := K) rfl (pe_slice (sll (K := K) rfl) (pv 0) (po_some (pe_op op_add (pv 1) pe_int)) po_none) pa_nil))))
      (pss_one (ps_if (pt_val (pe_callB (cany (K := K) rfl rfl) (by rfl) T.n_any (by decide +kernel) (pa_cons (pe_lc (own := [("pattern", 5), ("bit", 6)]) rfl sc_are_stuffs.nd (pil (K := K) rfl (pv 3)) (blkOk_by (own := [("pattern", 5), ("bit", 6)]) (by kernel_rfl)) (fun _ _ _ _ _ => (pgt (K := K) (n := 2) rfl rfl (pgs_cons (pg_name (i := 5) sc_are_stuffs.nd rfl (by first | exact Or.inl rfl | exact Or.inr rfl)) (pgs_cons (pg_name (i := 6) sc_are_stuffs.nd rfl (by first | exact Or.inl rfl | exact Or.inr rfl)) pgs_nil)))) (fun _ _ _ _ _ => pts_nil) (fun _ _ _ _ _ => (pe_m1 PySem.F.slot_str_endswith PySem.F.type_str_endswith mt_endswith (pe_ix (ixt (K := K) rfl) (pv 2) pe_int (fun _ _ => rfl)) (pv 5)))) pa_nil))) (pss_one (ps_ret pe_bl)) pss_nil))))
      (pss_one (ps_ret pe_bl))))), ?_⟩
    refine ⟨_, rfl, a, _, rfl, ha, fun H1 s1 => ⟨_, rfl, ?_⟩⟩
    refine ⟨_, rfl, a, rfl, ⟨_, lq (s1 _ _ ha)⟩, fun D hD => ?_⟩
    refine lc_sit (sit_list (ts.map V.ref)) (fun _ _ s h => s.seq h) hD (fun i acc H' => Same H H' ∧ acc = List.replicate i (V.bl true)) ⟨s1, rfl⟩ (fun _ _ _ _ h => h.1.seq (lq ha)) ?_ ?_
    · intro i x acc H' hi hx hD' iv Nx nx
      obtain ⟨b, st, rfl, hs, hb⟩ := sts_at hts hx
      have s : Same H H' := iv.1.trans off_same
      have hst := sh.st st (List.mem_of_getElem? hs)
      refine ⟨rfl, ?_⟩
      refine ⟨_, rfl, b, st, rfl, s _ _ hb, hst.1, hst.2, fun H2 s2 => ⟨acc, s2 _ _ hD', ?_, nx _ _ upd_same ⟨?_, ?_⟩⟩⟩
      · rw [iv.2, List.length_replicate]; rw [List.length_map, hn] at hi
        exact Nat.lt_of_lt_of_le hi (Nat.le_trans sh.n (by decide))
      · rw [off_upd]; exact iv.1.trans (off_mono s2)
      · rw [iv.2, List.replicate_succ']
    · intro acc H1' hD' iv
      have s : Same H H1' := iv.1.trans off_same
      refine ⟨_, List.replicate (ts.map V.ref).length true, rfl, lq (by rw [hD', iv.2, List.map_replicate]), ?_⟩
      rw [show (List.replicate (ts.map V.ref).length true).all id = true by rw [List.all_eq_true]; intro x hx; rw [List.eq_of_mem_replicate hx]; rfl]
      refine ⟨_, rfl, ?_⟩
      refine ⟨_, rfl, a, _, rfl, lq (s _ _ ha), ?_⟩
      refine for_enum (xs := ts.map V.ref) (fun i σ H' => Same H H' ∧ ∃ u0 u1 u2, σ = [some (.ref a), u0, u1, u2, none, none, none]) ⟨s, none, none, none, rfl⟩ (fun i σ H' _ h => h.1.seq (lq ha)) ?_ ?_
      · rintro i x σ H' T' hx ⟨s2, u0, u1, u2, rfl⟩ hT
        obtain ⟨b, st, rfl, hs, hb⟩ := sts_at hts hx
        have hi : i < ss.length := lt_of_get hs
        have s3 : Same H (upd H' T' (.tup [.int (i : Nat), .ref b])) := s2.trans (.new hT)
        refine ⟨T', _, rfl, tq upd_same, rfl, _, _, rfl, _, _, rfl, rfl, ?_⟩
        -- rest = [*value[:at], *value[at + 1:]]
        refine ⟨_, rfl, _, rfl, _, rfl, a, _, rfl, lq (s3 _ _ ha), fun p hp => ?_⟩
        refine ⟨p, _, rfl, .inr (lq upd_same), ?_⟩
        have s4 := s3.trans (.new (o := .lst (cutV (ts.map V.ref) none (some ((i : Nat) : Int)))) hp)
        refine ⟨_, rfl, _, rfl, _, _, rfl, rfl, _, rfl, a, _, rfl, lq (s4 _ _ ha), fun p2 hp2 => ?_⟩
        have e1 : ((i : Nat) : Int) + 1 = ((i + 1 : Nat) : Int) := by omega
        refine ⟨p2, _, rfl, .inr (lq upd_same), ?_⟩
        have s5 := s4.trans (.new (o := .lst (cutV (ts.map V.ref) (some (((i : Nat) : Int) + 1)) none)) hp2)
        have er : cutV (ts.map V.ref) none (some ((i : Nat) : Int)) ++ (cutV (ts.map V.ref) (some (((i : Nat) : Int) + 1)) none ++ []) = ((ts.take i ++ ts.drop (i + 1)).map V.ref) := by
          rw [e1, cutV_take, cutV_drop, List.append_nil, List.map_append, List.map_take, List.map_drop]
        refine ⟨?_, fun p3 hp3 => ?_⟩
        · show (cutV (ts.map V.ref) none (some ((i : Nat) : Int)) ++ (cutV (ts.map V.ref) (some (((i : Nat) : Int) + 1)) none ++ [])).length ≤ sizeLine
          rw [er, List.length_map, List.length_append, List.length_take, List.length_drop]
          have := sh.n
          have h8 : min i ts.length + (ts.length - (i + 1)) ≤ 8 := by omega
          exact Nat.le_trans h8 (by decide)
        have s6 := s5.trans (.new (o := .lst (cutV (ts.map V.ref) none (some ((i : Nat) : Int)) ++ (cutV (ts.map V.ref) (some (((i : Nat) : Int) + 1)) none ++ []))) hp3)
        rw [er] at s6 ⊢
        have hr3 : StsA H (ts.take i ++ ts.drop (i + 1)) (ss.take i ++ ss.drop (i + 1)) := by
          have tk : ∀ {l : List Addr} {m : List Stf} (n : Nat), Paired (StA H) l m → Paired (StA H) (l.take n) (m.take n) ∧ Paired (StA H) (l.drop n) (m.drop n) := by
            intro l m n h
            induction h generalizing n with
            | nil => rw [List.take_nil, List.take_nil, List.drop_nil, List.drop_nil]; exact ⟨.nil, .nil⟩
            | cons r t ih =>
              cases n with
              | zero => exact ⟨.nil, .cons r t⟩
              | succ n => exact ⟨.cons r (ih n).1, (ih n).2⟩
          exact paired_app (tk i hts).1 (tk (i + 1) hts).2
        refine ⟨_, rfl, p3, rfl, ⟨_, lq upd_same⟩, fun D2 hD2 => ?_⟩
        refine lc_sit (sit_list ((ts.take i ++ ts.drop (i + 1)).map V.ref)) (fun _ _ s h => s.seq h) hD2 (fun j acc H2 => Same H H2 ∧ SqL K H2 p3 ((ts.take i ++ ts.drop (i + 1)).map V.ref) ∧ acc = List.replicate j (V.bl false)) ⟨s6, lq upd_same, rfl⟩ (fun _ _ _ _ h => h.2.1) ?_ ?_
        · intro j x acc H2 hj hx hD2' iv Nx nx
          obtain ⟨c, sc, rfl, hsc, hc⟩ := sts_at hr3 hx
          have s : Same H H2 := iv.1.trans off_same
          have hf : sfx sc.1 st.1 = false := apart1_get ss [] ap i st hs sc (List.mem_of_getElem? (by simpa using hsc))
          refine ⟨c, _, rfl, tq (s _ _ hc), rfl, _, _, rfl, _, _, rfl, rfl, rfl, ?_⟩
          refine ⟨_, rfl, _, _, _, _, rfl, rfl, tq (s _ _ hb), atI_nat (j := 0) rfl, ⟨_, rfl⟩, _, rfl, _, _, rfl, rfl, acc, hD2', ?_, nx _ _ upd_same ⟨?_, ?_, ?_⟩⟩
          · rw [iv.2.2, List.length_replicate]
            rw [List.length_map, List.length_append, List.length_take, List.length_drop] at hj
            have := sh.n
            exact Nat.lt_of_lt_of_le (show j < 8 by omega) (by decide)
          · rw [off_upd]; exact iv.1
          · rw [off_upd]; exact iv.2.1
          · rw [iv.2.2, S_ends, hf, List.replicate_succ']
        · intro acc H2 hD2' iv
          refine ⟨_, List.replicate ((ts.take i ++ ts.drop (i + 1)).map V.ref).length false, rfl, lq (by rw [hD2', iv.2.2, List.map_replicate]), ?_⟩
          rw [show (List.replicate ((ts.take i ++ ts.drop (i + 1)).map V.ref).length false).any id = false by rw [List.any_eq_false]; intro x hx; rw [List.eq_of_mem_replicate hx]; simp]
          exact ⟨_, rfl, iv.1.trans off_same, _, _, _, rfl⟩
      · rintro σ H' ⟨s2, u0, u1, u2, rfl⟩
        exact q _ s2
theorem pin_len (ss : List Stf) (m : Nat) : ∀ (f : Nat) (l found : Wd) (kn : List Wd) (x : Wd), pin ss m f l found kn = some (some x) → x.length ≤ found.length + f
  | 0, _, _, _, _, h => by cases h
  | f + 1, l, found, kn, x, h => by
    unfold pin at h
    cases e : put ss (l ++ found) with
    | none => rw [e] at h; simp at h; subst h; omega
    | some b =>
      rw [e] at h
      cases e2 : mem (tl m (l ++ found)) kn with
      | true => rw [e2] at h; simp at h
      | false =>
        rw [e2] at h
        have := pin_len ss m f l (found ++ [b]) _ x h
        rw [List.length_append] at this
        simp at this; omega
abbrev s_Rule_put_in : Stmt := inClass (top 31) 5
theorem sc_Rule_put_in : FnScope ["self", "line", "bit", "found", "known", "standing"] ["self", "line"] (defScope s_Rule_put_in) := ⟨rfl, rfl, rfl, by decide +kernel, rfl, by decide +kernel, by decide +kernel⟩
-- slots: 0 self, 1 line, 2 bit, 3 found, 4 known, 5 standing
theorem ok_Rule_put_in {P : Program} {w : World} {K : PySem.W.Frag} {mg : Str → Option Value} {base : Heap} {f C : Addr} {fd : FuncData} (F : FnP K "put_in" "Rule.put_in" s_Rule_put_in [] f fd) (T : TX K mg C) (c_longest : Prp P w K mg base 1 C "longest" ["self"] (sp_Rule_longest K C)) (c_put : Mth P w K mg base 1 C "put" ["self", "line"] (sp_Rule_put K C)) (c_tail : Cal P w K mg base 1 "tail" ["line", "size"] (sp_tail K C)) : FnOk P w K mg base CX0 3 f fd ["self", "line"] (sp_Rule_put_in K C) := by
  refine FunD.ok (k := 2) F sc_Rule_put_in (fun vs H Q E h => ?_) (fun cdv A outer s H vs Q E hr h => ?_)
  · obtain ⟨r, fl, ss, l, o, rfl, _⟩ := h; rfl
  · obtain ⟨r, fl, ss, l, o, rfl, hR, hl, hp, q⟩ := h
    obtain ⟨sh, dx, t, ts, hr', ht, hts⟩ := id hR
    refine ⟨_, (PSs.nox (pss_cons (ps_par (i := 3) (j := 4) rfl sc_Rule_put_in.nd rfl rfl (by decide) rfl rfl (pa_cons pe_str (pa_cons pe_dnewK pa_nil)) (by rfl))
      (pss_cons (ps_set (i := 2) sc_Rule_put_in.nd rfl (by first | exact Or.inl rfl | exact Or.inr rfl) (c_put.pe hr (pv 0) (pa_cons (pv 1) pa_nil)))
      (pss_cons (ps_while PassesOwn.never (pt_cmpR op_notN (pv 2) pe_non (nomark _)) (pss_cons (ps_set (i := 5) sc_Rule_put_in.nd rfl (by first | exact Or.inl rfl | exact Or.inr rfl) (c_tail.pe hr (by rfl) (pa_cons (pe_op op_add_str (pv 1) (pv 3)) (pa_cons (c_longest.pe hr (pv 0)) pa_nil))))
      (pss_cons (ps_if (pt_cmp (pc_din (hu_of hr) (pv 5) (pv 4))) (pss_one (ps_ret pe_non)) pss_nil)
      (pss_cons (ps_dput (hu_of hr) (pv 4) (pv 5) pe_bl rfl)
      (pss_cons (ps_aug (i := 3) sc_Rule_put_in.nd rfl (by first | exact Or.inl rfl | exact Or.inr rfl) (pv 2) ip_addS)
      (pss_one (ps_set (i := 2) sc_Rule_put_in.nd rfl (by first | exact Or.inl rfl | exact Or.inr rfl) (c_put.pe hr (pv 0) (pa_cons (pe_op op_add_str (pv 1) (pv 3)) pa_nil)))))))))
      (pss_one (ps_ret (pv 3))))))), ?_⟩
    refine fun d hd => ⟨_, _, rfl, ?_⟩
    have hrd := Same.new (o := .dK []) hd _ _ hr'
    refine ⟨_, rfl, r, dx, _, rfl, hrd, flds_no _ _, _, rfl, r, fl, ss, l, rfl, hR.same (.new hd), ?_⟩
    refine ⟨fun m σ H' => ∃ found kn t5, σ = [some (.ref r), some (.str (S l)), some (opt (put ss (l ++ found))), some (.str (S found)), some (.ref d), t5] ∧ Same H H' ∧ H' d = some (.dK (kvK kn)) ∧ pin ss (lng ss) m l found kn = some o ∧ found.length + m ≤ 20 ∧ kn.length = found.length,
      ⟨20, [], [], none, by rw [S_nil, List.append_nil]; rfl, .new hd, upd_same, hp, by simp, rfl⟩, ?_⟩
    rintro m σ H' ⟨found, kn, t5, rfl, s, hd', hp', hb, hk⟩
    cases m with
    | zero => cases hp'
    | succ m =>
    refine ⟨_, rfl, rfl, _, rfl, ?_⟩
    have hpn : pin ss (lng ss) (m + 1) l found kn = (match put ss (l ++ found) with
      | none => some (some found)
      | some b => match mem (tl (lng ss) (l ++ found)) kn with
        | true => some none
        | false => pin ss (lng ss) m l (found ++ [b]) (kn ++ [tl (lng ss) (l ++ found)])) := rfl
    rw [hpn] at hp'
    cases e : put ss (l ++ found) with
    | none =>
      rw [e] at hp'
      cases hp'
      exact ⟨_, rfl, q _ s⟩
    | some b =>
      rw [e] at hp'
      have hz : (S l).length + (S found).length ≤ sizeLine := S_sz2 (by omega)
      refine ⟨fun σ' H2 => ∃ m', m' < m + 1 ∧ ∃ found kn t5, σ' = [some (.ref r), some (.str (S l)), some (opt (put ss (l ++ found))), some (.str (S found)), some (.ref d), t5] ∧ Same H H2 ∧ H2 d = some (.dK (kvK kn)) ∧ pin ss (lng ss) m' l found kn = some o ∧ found.length + m' ≤ 20 ∧ kn.length = found.length, fun σ' H' n => n, ?_⟩
      refine ⟨_, rfl, _, rfl, _, _, rfl, rfl, hz, _, rfl, r, dx, _, rfl, s _ _ hr', r, fl, ss, rfl, hR.same s, fun H2 s2 => ?_⟩
      refine ⟨l ++ found, lng ss, by rw [S_app]; rfl, by rw [List.length_append]; omega, ?_⟩
      refine ⟨_, rfl, _, rfl, d, _, rfl, DGet.k (k := .inr (S (tl (lng ss) (l ++ found)))) (s2 _ _ hd'), _, rfl, ?_⟩
      rw [kvK_get]
      cases e2 : mem (tl (lng ss) (l ++ found)) kn with
      | true =>
        rw [e2] at hp'
        cases hp'
        exact q _ (s.trans s2)
      | false =>
        rw [e2] at hp'
        have hk2 : (kvK kn).length < sizeLine := by rw [kvK_len]; exact Nat.lt_of_lt_of_le (show kn.length < 21 by omega) (by decide)
        refine ⟨_, rfl, _, rfl, d, _, rfl, DPut.k (k := .inr (S (tl (lng ss) (l ++ found)))) (s2 _ _ hd') hk2, ?_⟩
        rw [kvK_put e2]
        have s3 : Same H (upd H2 d (.dK (kvK (kn ++ [tl (lng ss) (l ++ found)])))) := (s.trans s2).mut hd
        refine ⟨_, rfl, _, rfl, _, _, rfl, rfl, S_sz2 (by simp; omega), ?_⟩
        refine ⟨_, rfl, r, dx, _, rfl, s3 _ _ hr', flds_no _ _, _, rfl, _, rfl, _, _, rfl, rfl, ?_, r, fl, ss, l ++ (found ++ [b]), ?_, hR.same s3, ?_⟩
        · rw [S_app]; exact S_sz2 (by simp; omega)
        · rw [S_app, S_app]; rfl
        · refine ⟨m, Nat.lt_succ_self _, found ++ [b], kn ++ [tl (lng ss) (l ++ found)], some (.str (S (tl (lng ss) (l ++ found)))), ?_, s3, upd_same, hp', by rw [List.length_append]; simp; omega, by rw [List.length_append, List.length_append, hk]; rfl⟩
          rw [S_app]; rfl
/-- a step for each of some bits -/
def ebs (ss : List Stf) (m : Nat) (here : Wd) : List Bool → List Wd → (List Wd → Option Bool) → Option Bool
  | [], wt, k => k wt
  | b :: r, wt, k => match stepE ss m here b wt with
    | none => none
    | some none => some true
    | some (some wt') => ebs ss m here r wt' k
theorem edl_eq (ss : List Stf) (m f : Nat) (wt : List Wd) (i : Nat) : edl ss m (f + 1) wt i = (match wt[i]? with
    | none => some false
    | some here => ebs ss m here [false, true] wt fun wt' => edl ss m f wt' (i + 1)) := rfl
abbrev s_Rule_is_endless : Stmt := inClass (top 31) 6
theorem sc_Rule_is_endless : FnScope ["self", "waiting", "known", "at", "bit", "line", "more", "standing"] ["self"] (defScope s_Rule_is_endless) := ⟨rfl, rfl, rfl, by decide +kernel, rfl, by decide +kernel, by decide +kernel⟩
-- slots: 0 self, 1 waiting, 2 known, 3 at, 4 bit, 5 line, 6 more, 7 standing
theorem ok_Rule_is_endless {P : Program} {w : World} {K : PySem.W.Frag} {mg : Str → Option Value} {base : Heap} {f C : Addr} {fd : FuncData} (F : FnP K "is_endless" "Rule.is_endless" s_Rule_is_endless [] f fd) (T : TX K mg C) (c_longest : Prp P w K mg base 1 C "longest" ["self"] (sp_Rule_longest K C)) (c_put_in : Mth P w K mg base 3 C "put_in" ["self", "line"] (sp_Rule_put_in K C)) (c_tail : Cal P w K mg base 1 "tail" ["line", "size"] (sp_tail K C)) : FnOk P w K mg base CX0 4 f fd ["self"] (sp_Rule_is_endless K C) := by
  refine FunD.ok (k := 3) F sc_Rule_is_endless (fun vs H Q E h => ?_) (fun cdv A outer s H vs Q E hr h => ?_)
  · obtain ⟨r, fl, ss, b, rfl, _⟩ := h; rfl
  · obtain ⟨r, fl, ss, b, rfl, hR, hb, q⟩ := h
    obtain ⟨sh, dx, t, ts, hr', ht, hts⟩ := id hR
    refine ⟨_, (PSs.nox (pss_cons (ps_par3 (i := 1) (j := 2) (l := 3) rfl sc_Rule_is_endless.nd rfl rfl rfl (by decide) (by decide) (by decide) rfl rfl rfl (pa_cons (pe_lst (pa_cons pe_str pa_nil)) (pa_cons (pe_disp (pps_cons pe_str pe_bl pps_nil) (by rfl) (by rfl) (fun z => by cases z) (by decide)) (pa_cons pe_int pa_nil))) (by rfl))
      (pss_cons (ps_while PassesOwn.never (pt_cmpR op_lt (pv 3) (pe_callB (cln (K := K) rfl) (by rfl) T.n_len (by decide +kernel) (pa_cons (pv 1) pa_nil)) (nomark _)) (pss_cons (ps_for PassesOwn.never rfl (pi_str T.bits) (pg_name (i := 4) sc_Rule_is_endless.nd rfl (by first | exact Or.inl rfl | exact Or.inr rfl)) (pss_cons (ps_set (i := 5) sc_Rule_is_endless.nd rfl (by first | exact Or.inl rfl | exact Or.inr rfl) (pe_op op_add_str (pe_ix (ixl (K := K) rfl) (pv 1) (pv 3) (fun _ _ => rfl)) (pv 4)))
      (pss_cons (ps_set (i := 6) sc_Rule_is_endless.nd rfl (by first | exact Or.inl rfl | exact Or.inr rfl) (c_put_in.pe hr (pv 0) (pa_cons (pv 5) pa_nil)))
      (pss_cons (ps_if (pt_cmpR op_isN (pv 6) pe_non (nomark _)) (pss_one (ps_ret pe_bl)) pss_nil)
      (pss_cons (ps_set (i := 7) sc_Rule_is_endless.nd rfl (by first | exact Or.inl rfl | exact Or.inr rfl) (c_tail.pe hr (by rfl) (pa_cons (pe_op op_add_str (pv 5) (pv 6)) (pa_cons (c_longest.pe hr (pv 0)) pa_nil))))
      (pss_one (ps_if (pt_cmp (pc_dnotin (hu_of hr) (pv 7) (pv 2))) (pss_cons (ps_dput (hu_of hr) (pv 2) (pv 7) pe_bl rfl)
      (pss_one (ps_expr (papp (K := K) rfl (pv 1) (pa_cons (pv 7) pa_nil))))) pss_nil)))))))
      (pss_one (ps_aug (i := 3) sc_Rule_is_endless.nd rfl (by first | exact Or.inl rfl | exact Or.inr rfl) pe_int ip_add))))
      (pss_one (ps_ret pe_bl))))), ?_⟩
    have hlg := sh.lng
    refine ⟨by show 1 ≤ sizeLine; decide, fun lw hlw => fun d hd => ?_⟩
    have nld : lw ≠ d := fun e => by rw [← e, upd_same] at hd; cases hd
    have hd0 : H d = none := by rw [upd_ne (Ne.symm nld)] at hd; exact hd
    refine ⟨by rw [upd_same], [((.inr (S []) : Key), V.bl true)], by rw [S_nil]; rfl, by simp, ?_⟩
    refine ⟨_, _, _, rfl, ?_⟩
    refine ⟨fun m σ H' => ∃ wt i t4 t5 t6 t7, σ = [some (.ref r), some (.ref lw), some (.ref d), some (.int (i : Nat)), t4, t5, t6, t7] ∧ Same H H' ∧ H' lw = some (.lst (wt.map fun w => .str (S w))) ∧ H' d = some (.dK (kvK wt)) ∧ edl ss (lng ss) m wt i = some b ∧ wt.length + 2 * m ≤ 100 ∧ ∀ w ∈ wt, w.length ≤ 100,
      ⟨40, [[]], 0, none, none, none, none, rfl, ((Same.new hlw).trans (.new hd)).mut hd0, ?_, ?_, hb, by simp, by simp⟩, ?_⟩
    · rw [upd_ne nld, upd_ne nld, upd_same, S_nil]; rfl
    · rw [upd_same]; rfl
    rintro m σ H' ⟨wt, i, t4, t5, t6, t7, rfl, s, hl', hd', he, hn, hw⟩
    cases m with
    | zero => cases he
    | succ m =>
    have hz : (wt.map fun w => V.str (S w)).length ≤ sizeLine := by rw [List.length_map]; exact Nat.le_trans (show wt.length ≤ 100 by omega) (by decide)
    refine ⟨_, rfl, _, rfl, _, _, rfl, .inl ⟨_, lq hl', rfl⟩, _, _, rfl, rfl, _, rfl, ?_⟩
    rw [edl_eq] at he
    cases e : wt[i]? with
    | none =>
      rw [e] at he
      cases he
      have hlt : wt.length ≤ i := List.getElem?_eq_none_iff.mp e
      rw [show decide ((i : Int) < (((wt.map fun w => V.str (S w)).length : Nat) : Int)) = false by rw [decide_eq_false_iff_not, List.length_map]; omega]
      exact q _ s
    | some here =>
      rw [e] at he
      have hlt := lt_of_get e
      rw [show decide ((i : Int) < (((wt.map fun w => V.str (S w)).length : Nat) : Int)) = true by rw [decide_eq_true_eq, List.length_map]; omega]
      refine ⟨fun σ' H2 => ∃ m', m' < m + 1 ∧ ∃ wt i t4 t5 t6 t7, σ' = [some (.ref r), some (.ref lw), some (.ref d), some (.int (i : Nat)), t4, t5, t6, t7] ∧ Same H H2 ∧ H2 lw = some (.lst (wt.map fun w => .str (S w))) ∧ H2 d = some (.dK (kvK wt)) ∧ edl ss (lng ss) m' wt i = some b ∧ wt.length + 2 * m' ≤ 100 ∧ ∀ w ∈ wt, w.length ≤ 100, fun σ' H' n => n, ?_⟩
      refine ⟨_, rfl, ?_⟩
      rw [S_01]
      refine for_sit (sit_word [false, true]) (fun j σ' H2 => ∃ wt' t4 t5 t6 t7, σ' = [some (.ref r), some (.ref lw), some (.ref d), some (.int (i : Nat)), t4, t5, t6, t7] ∧ Same H H2 ∧ H2 lw = some (.lst (wt'.map fun w => .str (S w))) ∧ H2 d = some (.dK (kvK wt')) ∧ ebs ss (lng ss) here ([false, true].drop j) wt' (fun wt' => edl ss (lng ss) m wt' (i + 1)) = some b ∧ wt'.length + 2 * m + 2 ≤ 100 + j ∧ wt'[i]? = some here ∧ ∀ w ∈ wt', w.length ≤ 100)
        ⟨wt, t4, t5, t6, t7, rfl, s, hl', hd', he, by omega, e, hw⟩ (fun _ _ _ _ _ => trivial) ?_ ?_
      · rintro j x σ' H2 hj ⟨bb, hbb, rfl⟩ ⟨wt', t4, t5, t6, t7, rfl, s2, hl2, hd2, he2, hn2, e2, hw2⟩
        have hdr : [false, true].drop j = bb :: [false, true].drop (j + 1) := by
          obtain ⟨h1, h2⟩ := List.getElem?_eq_some_iff.mp hbb
          rw [← h2]; exact List.drop_eq_getElem_cons h1
        rw [hdr] at he2
        have hstep : ebs ss (lng ss) here (bb :: [false, true].drop (j + 1)) wt' (fun wt' => edl ss (lng ss) m wt' (i + 1)) = (match stepE ss (lng ss) here bb wt' with
          | none => none
          | some none => some true
          | some (some wt2) => ebs ss (lng ss) here ([false, true].drop (j + 1)) wt2 (fun wt' => edl ss (lng ss) m wt' (i + 1))) := rfl
        rw [hstep] at he2
        have hh : here.length ≤ 100 := hw2 here (List.mem_of_getElem? e2)
        have hj2 : j < 2 := hj
        refine ⟨_, rfl, _, rfl, _, _, _, _, rfl, rfl, lq hl2, atI_nat (j := i) (map_at e2), _, rfl, _, _, rfl, rfl, S_sz2 (by simp; omega), ?_⟩
        cases ep : pin ss (lng ss) 20 (here ++ [bb]) [] [] with
        | none =>
          have : stepE ss (lng ss) here bb wt' = none := by unfold stepE; rw [ep]
          rw [this] at he2; cases he2
        | some o =>
        refine ⟨_, rfl, r, dx, _, rfl, s2 _ _ hr', flds_no _ _, _, rfl, r, fl, ss, here ++ [bb], o, by rw [S_app]; rfl, hR.same s2, by simp; omega, ep, fun H3 s3 => ?_⟩
        cases o with
        | none =>
          have : stepE ss (lng ss) here bb wt' = some none := by unfold stepE; rw [ep]
          rw [this] at he2; cases he2
          exact ⟨_, rfl, rfl, _, rfl, q _ (s2.trans s3)⟩
        | some more =>
          have hm := pin_len ss (lng ss) 20 _ _ _ _ ep
          have hml : more.length ≤ 20 := by simpa using hm
          refine ⟨_, rfl, rfl, _, rfl, ?_⟩
          refine ⟨_, rfl, _, rfl, _, _, rfl, rfl, ?_, ?_⟩
          · rw [S_app]; exact S_sz2 (by simp; omega)
          refine ⟨_, rfl, r, dx, _, rfl, s3 _ _ (s2 _ _ hr'), r, fl, ss, rfl, (hR.same s2).same s3, fun H4 s4 => ?_⟩
          have s24 := s3.trans s4
          refine ⟨here ++ [bb] ++ more, lng ss, by rw [S_app, S_app]; rfl, by simp; omega, ?_⟩
          have htl := tl_len (lng ss) (here ++ [bb] ++ more)
          refine ⟨_, rfl, _, rfl, d, _, rfl, DGet.k (k := .inr (S (tl (lng ss) (here ++ [bb] ++ more)))) (s24 _ _ hd2), _, rfl, ?_⟩
          rw [kvK_get]
          cases em : mem (tl (lng ss) (here ++ [bb] ++ more)) wt' with
          | true =>
            have : stepE ss (lng ss) here bb wt' = some (some wt') := by unfold stepE; rw [ep]; simp only; rw [em]
            rw [this] at he2
            exact ⟨wt', _, _, _, _, rfl, s2.trans s24, s24 _ _ hl2, s24 _ _ hd2, he2, by omega, e2, hw2⟩
          | false =>
            have : stepE ss (lng ss) here bb wt' = some (some (wt' ++ [tl (lng ss) (here ++ [bb] ++ more)])) := by unfold stepE; rw [ep]; simp only; rw [em]
            rw [this] at he2
            have hnl : lw ≠ d := nld
            have hlw0 : H lw = none := hlw
            have hk2 : (kvK wt').length < sizeLine := by rw [kvK_len]; exact Nat.lt_of_lt_of_le (show wt'.length < 103 by omega) (by decide)
            refine ⟨_, rfl, _, rfl, d, _, rfl, DPut.k (k := .inr (S (tl (lng ss) (here ++ [bb] ++ more)))) (s24 _ _ hd2) hk2, ?_⟩
            rw [kvK_put em]
            have hl4 : upd H4 d (.dK (kvK (wt' ++ [tl (lng ss) (here ++ [bb] ++ more)]))) lw = some (.lst (wt'.map fun w => .str (S w))) := by rw [upd_ne hnl]; exact s24 _ _ hl2
            refine ⟨_, rfl, .inl ⟨rfl, _, lq hl4⟩, _, rfl, lw, _, _, rfl, rfl, hl4, by rw [List.length_map]; exact Nat.lt_of_lt_of_le (show wt'.length < 103 by omega) (by decide), ?_⟩
            refine ⟨wt' ++ [tl (lng ss) (here ++ [bb] ++ more)], _, _, _, _, rfl, ((s2.trans s24).mut hd0).mut hlw0, ?_, ?_, he2, ?_, ?_, ?_⟩
            · rw [upd_same, List.map_append]; rfl
            · rw [upd_ne (Ne.symm hnl), upd_same]
            · rw [List.length_append]; simp; omega
            · rw [List.getElem?_append_left (lt_of_get e2)]; exact e2
            · intro w hw'
              rcases List.mem_append.mp hw' with h | h
              · exact hw2 w h
              · rw [List.mem_singleton.mp h]; omega
      · rintro σ' H2 ⟨wt', t4, t5, t6, t7, rfl, s2, hl2, hd2, he2, hn2, e2, hw2⟩
        refine ⟨_, rfl, _, _, rfl, rfl, ?_⟩
        refine ⟨m, Nat.lt_succ_self _, wt', i + 1, _, _, _, _, rfl, s2, hl2, hd2, he2, by have h2 : ([false, true] : List Bool).length = 2 := rfl; omega, hw2⟩
end UF
set_option maxHeartbeats 4000000
namespace UF
open PySem PySem.Spec PyProof.Rows L2
theorem emp_app (x : Str) : Str.empty ++ x = x := TL.ext_tl (by rw [TL.tl_append]; rfl)
theorem app_assoc (x y z : Str) : x ++ y ++ z = x ++ (y ++ z) := TL.ext_tl (by rw [TL.tl_append, TL.tl_append, TL.tl_append, TL.tl_append, List.append_assoc])
theorem len_app (x y : Str) : (x ++ y).length = x.length + y.length := by rw [TL.len_tl, TL.tl_append, List.length_append, ← TL.len_tl, ← TL.len_tl]
theorem colon_len : (":" : Str).length = 1 := by decide +kernel
theorem stx_len (st : Stf) : (stx st).length = st.1.length + 2 := by
  unfold stx
  rw [len_app, len_app, S_len, S_len, colon_len]; rfl
theorem le_sz {n : Nat} (h : n ≤ 50000) : n ≤ sizeLine := Nat.le_trans h (by decide)
theorem lt_sz {n : Nat} (h : n ≤ 50000) : n < sizeLine := Nat.lt_of_le_of_lt h (by decide)
abbrev s_Rule___str__ : Stmt := inClass (top 31) 10
theorem sc_Rule___str__ : FnScope ["self", "told", "pattern", "bit"] ["self"] (defScope s_Rule___str__) := ⟨rfl, rfl, rfl, by decide +kernel, rfl, by decide +kernel, by decide +kernel⟩
-- slots: 0 self, 1 told, 2 pattern, 3 bit
theorem ok_Rule___str__ {P : Program} {w : World} {K : PySem.W.Frag} {mg : Str → Option Value} {base : Heap} {f C : Addr} {fd : FuncData} (F : FnP K "__str__" "Rule.__str__" s_Rule___str__ [] f fd) (T : TX K mg C)  : FnOk P w K mg base CX0 1 f fd ["self"] (sp_Rule___str__ K C) := by
  refine FunD.ok (k := 0) F sc_Rule___str__ (fun vs H Q E h => ?_) (fun cdv A outer s H vs Q E hr h => ?_)
  · obtain ⟨r, fl, ss, rfl, _⟩ := h; rfl
  · obtain ⟨r, fl, ss, rfl, ⟨sh, dx, t, ts, hr', ht, hts⟩, q⟩ := h
    refine ⟨_, (PSs.nox (pss_cons (ps_setLc (own := [("pattern", 2), ("bit", 3)]) (i := 1) rfl sc_Rule___str__.nd rfl rfl (sw_true rfl rfl rfl (by decide +kernel)) (pit (K := K) rfl (pef (K := K) rfl (pv 0))) (blkOk_by (own := [("pattern", 2), ("bit", 3)]) (by kernel_rfl)) (fun _ _ _ _ _ => (pgt (K := K) (n := 2) rfl rfl (pgs_cons (pg_name (i := 2) sc_Rule___str__.nd rfl (by first | exact Or.inl rfl | exact Or.inr rfl)) (pgs_cons (pg_name (i := 3) sc_Rule___str__.nd rfl (by first | exact Or.inl rfl | exact Or.inr rfl)) pgs_nil)))) (fun _ _ _ _ _ => pts_nil) (fun _ _ _ _ _ => (pe_joined (.cons (pe_fmt (pv 2)) (.cons pe_str (.cons (pe_fmt (pv 3)) .nil))))))
      (pss_one (ps_ret (pej (K := K) rfl pe_str (pe_lst (pa_cons pe_str (pa_cons (pef (K := K) rfl (pv 0)) (past (K := K) rfl (pe_ifExp (pt_cmpR op_gt (pe_callB (cln (K := K) rfl) (by rfl) T.n_len (by decide +kernel) (pa_cons (pv 1) pa_nil)) pe_int (nomark _)) (pe_lst (pa_cons pe_str (past (K := K) rfl (pv 1) pa_nil))) (pe_lst pa_nil)) pa_nil))))))))), ?_⟩
    refine ⟨_, rfl, r, C, dx, _, _, rfl, hr', T.cl, T.nS, flds_stuffs _ _, t, rfl, ⟨_, tq ht⟩, fun D hD => ?_⟩
    refine lc_sit (sit_tup (ts.map V.ref)) (fun _ _ s h => s.tup h) hD (fun i acc H' => Same H H' ∧ acc = ((ss.take i).map fun st => V.str (stx st))) ⟨.refl _, rfl⟩ (fun _ _ _ _ h => h.1.tup (tq ht)) ?_ ?_
    · intro i x acc H' hi hx hD' iv Nx nx
      obtain ⟨a, st, rfl, hs, ha⟩ := sts_at hts hx
      have s : Same H H' := iv.1.trans off_same
      have h2 := (sh.st st (List.mem_of_getElem? hs)).2
      refine ⟨a, _, rfl, tq (s _ _ ha), rfl, _, _, rfl, _, _, rfl, rfl, rfl, ?_⟩
      refine ⟨_, rfl, .inl ⟨_, rfl, S_sz (by omega), _, rfl, ?_, _, rfl, ?_, _, rfl, .inl ⟨_, rfl, S_sz (by simp), _, rfl, ?_, acc, hD', ?_, nx _ _ upd_same ⟨?_, ?_⟩⟩⟩⟩
      · rw [emp_app, S_len]; exact le_sz (by omega)
      · rw [emp_app, len_app, S_len, colon_len]; exact le_sz (by omega)
      · rw [emp_app, len_app, len_app, S_len, S_len, colon_len]; exact le_sz (by simp; omega)
      · rw [iv.2, List.length_map, List.length_take]
        have := Nat.min_le_right i ss.length
        have := sh.n
        exact lt_sz (by omega)
      · rw [off_upd]; exact iv.1
      · rw [iv.2, emp_app, take_snoc hs, List.map_append]; rfl
    · intro acc H' hD' iv
      have s : Same H H' := iv.1.trans off_same
      have ea : acc = ss.map fun st => V.str (stx st) := by rw [iv.2, List.length_map, sts_len hts, List.take_length]
      refine ⟨⟨_, rfl⟩, ?_⟩
      refine ⟨_, rfl, r, C, dx, _, _, rfl, s _ _ hr', T.cl, T.nF, flds_flag _ _, ?_⟩
      refine ⟨_, rfl, _, _, rfl, .inl ⟨_, lq hD', rfl⟩, _, _, rfl, rfl, _, rfl, ?_⟩
      by_cases he : ss = []
      · subst he
        have e0 : acc = [] := ea
        subst e0
        refine ⟨Nat.zero_le _, fun p hp => ⟨p, [], rfl, .inr (lq upd_same), by show 2 ≤ sizeLine; decide, fun p2 hp2 => ?_⟩⟩
        refine ⟨_, p2, [("flag" : Str), S fl], rfl, rfl, .inl (lq upd_same), ?_, ?_⟩
        · show ("flag" : Str).length + ((S fl).length + 0) + 2 * (" " : Str).length ≤ 16777216
          have h1 : ("flag" : Str).length = 4 := by decide +kernel
          have h2 : (" " : Str).length = 1 := by decide +kernel
          have := sh.fl
          rw [h1, h2, S_len]; omega
        · exact q _ ((s.trans (.new hp)).trans (.new hp2))
      · have hpos : 0 < ss.length := List.length_pos_iff.mpr he
        rw [show decide ((0 : Int) < ((acc.length : Nat) : Int)) = true by rw [decide_eq_true_eq, ea, List.length_map]; omega]
        refine ⟨_, rfl, D, _, rfl, .inr (lq hD'), ?_⟩
        have hle : (ss.map fun st => V.str (stx st)).length ≤ 8 := by rw [List.length_map]; exact sh.n
        refine ⟨?_, fun p hp => ⟨p, _, rfl, .inr (lq upd_same), ?_⟩⟩
        · rw [ea]
          show (V.str "put" :: ((ss.map fun st => V.str (stx st)) ++ [])).length ≤ sizeLine
          rw [List.length_cons, List.append_nil]; exact le_sz (by omega)
        · refine ⟨?_, fun p2 hp2 => ?_⟩
          · rw [ea]
            show (V.str "flag" :: V.str (S fl) :: ((V.str "put" :: ((ss.map fun st => V.str (stx st)) ++ [])) ++ [])).length ≤ sizeLine
            rw [List.append_nil, List.append_nil, List.length_cons, List.length_cons, List.length_cons]; exact le_sz (by omega)
          · refine ⟨_, p2, [("flag" : Str), S fl] ++ (("put" : Str) :: ss.map stx), rfl, rfl, .inl (lq ?_), ?_, ?_⟩
            · rw [upd_same, ea, List.append_nil, List.append_nil]
              show some (HO.lst (V.str "flag" :: V.str (S fl) :: V.str "put" :: (ss.map fun st => V.str (stx st)))) = some (HO.lst (V.str "flag" :: V.str (S fl) :: V.str "put" :: ((ss.map stx).map V.str)))
              rw [List.map_map]; rfl
            · have h1 : ("flag" : Str).length = 4 := by decide +kernel
              have h2 : (" " : Str).length = 1 := by decide +kernel
              have h3 : ("put" : Str).length = 3 := by decide +kernel
              have hsum : ∀ m : List Stf, (∀ st ∈ m, st.1.length ≤ 100) → ((m.map stx).map (·.length)).sum ≤ m.length * 102 := by
                intro m; induction m with
                | nil => intro _; exact Nat.le_refl _
                | cons a m ih =>
                  intro hm
                  have := ih fun st h => hm st (List.mem_cons_of_mem _ h)
                  have h5 := hm a (List.mem_cons_self ..)
                  rw [List.map_cons, List.map_cons, List.sum_cons, List.length_cons]
                  show (stx a).length + _ ≤ _
                  rw [stx_len]; omega
              have h6 := hsum ss fun st h => (sh.st st h).2
              have h7 := sh.n
              have h8 := sh.fl
              show ("flag" : Str).length + ((S fl).length + (("put" : Str).length + ((ss.map stx).map (·.length)).sum)) + ([("flag" : Str), S fl] ++ (("put" : Str) :: ss.map stx)).length * (" " : Str).length ≤ 16777216
              have h9 : ([("flag" : Str), S fl] ++ (("put" : Str) :: ss.map stx)).length = ss.length + 3 := by simp
              rw [h1, h2, h3, S_len, h9]; omega
            · have e : rtx fl ss = Txt.join " " ([("flag" : Str), S fl] ++ (("put" : Str) :: ss.map stx)) := by unfold rtx; rw [if_neg he]
              rw [← e]
              exact q _ ((s.trans (.new hp)).trans (.new hp2))
theorem no58 (l : Wd) : 58 ∉ TL.tl (S l) := by
  rw [S_tl]; intro h
  obtain ⟨b, _, e⟩ := List.mem_map.mp h
  cases b <;> simp [cd] at e
theorem part_stx (st : Stf) : Txt.partition (stx st) ":" = (S st.1, (":" : Str), S [st.2]) :=
  TL.partition_app (s := 58) (S := []) (by decide +kernel) (no58 _)
abbrev s_stuff_in : Stmt := top 30
theorem sc_stuff_in : FnScope ["word", "pattern", "sign", "bit"] ["word"] (defScope s_stuff_in) := ⟨rfl, rfl, rfl, by decide +kernel, rfl, by decide +kernel, by decide +kernel⟩
-- slots: 0 word, 1 pattern, 2 sign, 3 bit
theorem ok_stuff_in {P : Program} {w : World} {K : PySem.W.Frag} {mg : Str → Option Value} {base : Heap} {f C : Addr} {fd : FuncData} (F : FnP K "stuff_in" "stuff_in" s_stuff_in [] f fd) (T : TX K mg C) (c_is_stuff : Cal P w K mg base 3 "is_stuff" ["value"] (sp_is_stuff K C)) : FnOk P w K mg base CX0 4 f fd ["word"] (sp_stuff_in K C) := by
  refine FunD.ok (k := 3) F sc_stuff_in (fun vs H Q E h => ?_) (fun cdv A outer s H vs Q E hr h => ?_)
  · obtain ⟨st, rfl, _⟩ := h; rfl
  · obtain ⟨st, rfl, h1, h2, q⟩ := h
    refine ⟨_, (PSs.nox (pss_cons (ps_asg (pe_partition (pv 0) pe_str) (pgt (K := K) (n := 3) rfl rfl (pgs_cons (pg_name (i := 1) sc_stuff_in.nd rfl (by first | exact Or.inl rfl | exact Or.inr rfl)) (pgs_cons (pg_name (i := 2) sc_stuff_in.nd rfl (by first | exact Or.inl rfl | exact Or.inr rfl)) (pgs_cons (pg_name (i := 3) sc_stuff_in.nd rfl (by first | exact Or.inl rfl | exact Or.inr rfl)) pgs_nil)))))
      (pss_one (ps_ret (pe_ifExp (PW.pt (pw_and (pt_cmpR op_eq (pv 2) pe_str (nomark _)) (pw_and1 (pt_val (c_is_stuff.pe hr (by rfl) (pa_cons (pe_tup (pa_cons (pv 1) (pa_cons (pv 3) pa_nil))) pa_nil)))))) (pe_tup (pa_cons (pv 1) (pa_cons (pv 3) pa_nil))) pe_non))))), ?_⟩
    refine ⟨_, rfl, ⟨_, rfl⟩, _, _, rfl, rfl, by decide +kernel, by rw [stx_len]; exact le_sz (by omega), fun p hp => ?_⟩
    rw [part_stx]
    refine ⟨p, _, rfl, tq upd_same, rfl, _, _, rfl, _, _, rfl, _, _, rfl, rfl, ?_⟩
    refine ⟨_, rfl, rfl, _, rfl, ?_⟩
    rw [show decide (V.str (Str.ofString ":") = V.str (Str.ofString ":")) = true from decide_eq_true rfl]
    refine ⟨_, rfl, _, rfl, by show 2 ≤ sizeLine; decide, fun p2 hp2 => ?_⟩
    refine ⟨p2, st, rfl, upd_same, h1, h2, fun H' s => ⟨_, rfl, ?_⟩⟩
    have s2 := ((Same.new (o := .tup [.str (S st.1), .str ":", .str (S [st.2])]) hp).trans (.new (o := .tup [.str (S st.1), .str (S [st.2])]) hp2)).trans s
    exact ⟨_, rfl, _, rfl, by show 2 ≤ sizeLine; decide, fun p3 hp3 => q _ p3 (s2.trans (.new hp3)) upd_same⟩
theorem pbh_len (ss : List Stf) : ∀ (f : Nat) (l found x : Wd), pbh ss f l found = some x → x.length ≤ found.length + f
  | 0, _, _, _, h => by cases h
  | f + 1, l, found, x, h => by
    unfold pbh at h
    cases e : put ss (l ++ found) with
    | none => rw [e] at h; simp at h; subst h; omega
    | some b =>
      rw [e] at h
      have := pbh_len ss f l (found ++ [b]) x h
      rw [List.length_append] at this
      simp at this; omega
abbrev s_put_behind : Stmt := top 2
theorem sc_put_behind : FnScope ["rule", "line", "found", "bit"] ["rule", "line"] (defScope s_put_behind) := ⟨rfl, rfl, rfl, by decide +kernel, rfl, by decide +kernel, by decide +kernel⟩
-- slots: 0 rule, 1 line, 2 found, 3 bit
theorem ok_put_behind {P : Program} {w : World} {K : PySem.W.Frag} {mg : Str → Option Value} {base : Heap} {f C : Addr} {fd : FuncData} (F : FnP K "put_behind" "put_behind" s_put_behind [] f fd) (T : TX K mg C) (c_put : Mth P w K mg base 1 C "put" ["self", "line"] (sp_Rule_put K C)) : FnOk P w K mg base CX0 2 f fd ["rule", "line"] (sp_put_behind K C) := by
  refine FunD.ok (k := 1) F sc_put_behind (fun vs H Q E h => ?_) (fun cdv A outer s H vs Q E hr h => ?_)
  · obtain ⟨r, fl, ss, l, x, rfl, _⟩ := h; rfl
  · obtain ⟨r, fl, ss, l, x, rfl, hR, hl, hp, q⟩ := h
    obtain ⟨sh, dx, t, ts, hr', ht, hts⟩ := id hR
    refine ⟨_, (PSs.nox (pss_cons (ps_par (i := 2) (j := 3) rfl sc_put_behind.nd rfl rfl (by decide) rfl rfl (pa_cons pe_str (pa_cons (c_put.pe hr (pv 0) (pa_cons (pv 1) pa_nil)) pa_nil)) (by rfl))
      (pss_cons (ps_while PassesOwn.never (pt_cmpR op_notN (pv 3) pe_non (nomark _)) (pss_cons (ps_set (i := 2) sc_put_behind.nd rfl (by first | exact Or.inl rfl | exact Or.inr rfl) (pe_op op_add_str (pv 2) (pv 3)))
      (pss_one (ps_set (i := 3) sc_put_behind.nd rfl (by first | exact Or.inl rfl | exact Or.inr rfl) (c_put.pe hr (pv 0) (pa_cons (pe_op op_add_str (pv 1) (pv 2)) pa_nil))))))
      (pss_one (ps_ret (pv 2)))))), ?_⟩
    refine ⟨_, rfl, r, dx, _, rfl, hr', flds_no _ _, _, rfl, r, fl, ss, l, rfl, hR, _, _, rfl, ?_⟩
    refine ⟨fun m σ H' => H' = H ∧ ∃ found, σ = [some (.ref r), some (.str (S l)), some (.str (S found)), some (opt (put ss (l ++ found)))] ∧ pbh ss m l found = some x ∧ found.length + m ≤ 20,
      ⟨20, rfl, [], by rw [S_nil, List.append_nil]; rfl, hp, by simp⟩, ?_⟩
    rintro m σ H' ⟨eH, found, rfl, hp', hb⟩
    subst eH
    cases m with
    | zero => cases hp'
    | succ m =>
    refine ⟨_, rfl, rfl, _, rfl, ?_⟩
    have hpn : pbh ss (m + 1) l found = (match put ss (l ++ found) with
      | none => some found
      | some b => pbh ss m l (found ++ [b])) := rfl
    rw [hpn] at hp'
    cases e : put ss (l ++ found) with
    | none =>
      rw [e] at hp'
      cases hp'
      exact ⟨_, rfl, q⟩
    | some b =>
      rw [e] at hp'
      refine ⟨fun σ' H2 => ∃ m', m' < m + 1 ∧ H2 = H' ∧ ∃ found, σ' = [some (.ref r), some (.str (S l)), some (.str (S found)), some (opt (put ss (l ++ found)))] ∧ pbh ss m' l found = some x ∧ found.length + m' ≤ 20, fun σ' H' n => n, ?_⟩
      refine ⟨_, rfl, _, rfl, _, _, rfl, rfl, S_sz2 (by simp; omega), ?_⟩
      refine ⟨_, rfl, r, dx, _, rfl, hr', flds_no _ _, _, rfl, _, rfl, _, _, rfl, rfl, ?_, r, fl, ss, l ++ (found ++ [b]), ?_, hR, ?_⟩
      · rw [S_app]; exact S_sz2 (by simp; omega)
      · rw [S_app, S_app]; rfl
      · refine ⟨m, Nat.lt_succ_self _, rfl, found ++ [b], ?_, hp', by simp; omega⟩
        rw [S_app]; rfl
abbrev s_body : Stmt := top 3
theorem sc_body : FnScope ["rule", "message", "line", "bit"] ["rule", "message"] (defScope s_body) := ⟨rfl, rfl, rfl, by decide +kernel, rfl, by decide +kernel, by decide +kernel⟩
-- slots: 0 rule, 1 message, 2 line, 3 bit
theorem ok_body {P : Program} {w : World} {K : PySem.W.Frag} {mg : Str → Option Value} {base : Heap} {f C : Addr} {fd : FuncData} (F : FnP K "body" "body" s_body [] f fd) (T : TX K mg C) (c_put_behind : Cal P w K mg base 2 "put_behind" ["rule", "line"] (sp_put_behind K C)) : FnOk P w K mg base CX0 3 f fd ["rule", "message"] (sp_body K C) := by
  refine FunD.ok (k := 2) F sc_body (fun vs H Q E h => ?_) (fun cdv A outer s H vs Q E hr h => ?_)
  · obtain ⟨r, fl, ss, l, x, rfl, _⟩ := h; rfl
  · obtain ⟨r, fl, ss, l, x, rfl, hR, hl, hp, q⟩ := h
    refine ⟨_, (PSs.nox (pss_cons (ps_set (i := 2) sc_body.nd rfl (by first | exact Or.inl rfl | exact Or.inr rfl) pe_str)
      (pss_cons (ps_for PassesOwn.never rfl (pi_str (pv 1)) (pg_name (i := 3) sc_body.nd rfl (by first | exact Or.inl rfl | exact Or.inr rfl)) (pss_cons (ps_set (i := 2) sc_body.nd rfl (by first | exact Or.inl rfl | exact Or.inr rfl) (pe_op op_add_str (pv 2) (pv 3)))
      (pss_one (ps_set (i := 2) sc_body.nd rfl (by first | exact Or.inl rfl | exact Or.inr rfl) (pe_op op_add_str (pv 2) (c_put_behind.pe hr (by rfl) (pa_cons (pv 0) (pa_cons (pv 2) pa_nil))))))))
      (pss_one (ps_ret (pv 2)))))), ?_⟩
    refine ⟨_, rfl, _, rfl, ?_⟩
    refine for_sit (sit_word l) (fun i σ H' => H' = H ∧ ∃ line t3, σ = [some (.ref r), some (.str (S l)), some (.str (S line)), t3] ∧ bod ss line (l.drop i) = some x ∧ line.length ≤ 21 * i) ?_ (fun _ _ _ _ _ => trivial) ?_ ?_
    · exact ⟨rfl, [], none, by rw [S_nil]; rfl, hp, by simp⟩
    · rintro i v σ H' hi ⟨b, hb, rfl⟩ ⟨eH, line, t3, rfl, hbo, hn⟩
      subst eH
      have hdr : l.drop i = b :: l.drop (i + 1) := by
        obtain ⟨h1, h2⟩ := List.getElem?_eq_some_iff.mp hb
        rw [← h2]; exact List.drop_eq_getElem_cons h1
      rw [hdr] at hbo
      unfold bod at hbo
      cases ep : pbh ss 20 (line ++ [b]) [] with
      | none => rw [ep] at hbo; cases hbo
      | some more =>
        rw [ep] at hbo
        have hml := pbh_len ss 20 _ _ _ ep
        simp at hml
        refine ⟨_, rfl, _, rfl, _, _, rfl, rfl, S_sz2 (by simp; omega), ?_⟩
        refine ⟨_, rfl, _, rfl, _, rfl, r, fl, ss, line ++ [b], more, by rw [S_app]; rfl, hR, by simp; omega, ep, ?_⟩
        refine ⟨_, _, rfl, rfl, ?_, ?_⟩
        · rw [S_app]; exact S_sz2 (by simp; omega)
        · exact ⟨rfl, line ++ [b] ++ more, _, by rw [S_app, S_app]; rfl, hbo, by simp; omega⟩
    · rintro σ H' ⟨eH, line, t3, rfl, hbo, hn⟩
      subst eH
      rw [List.drop_length] at hbo
      cases hbo
      exact ⟨_, rfl, q⟩
end UF
set_option maxHeartbeats 4000000
namespace UF
open PySem PySem.Spec PyProof.Rows L2
theorem off_upd2 {H : Hp} {d l : Addr} {o : HO} (h : l ≠ d) : off (off (upd H l o) d) l = off (off H d) l := by
  funext b
  by_cases e : b = l
  · rw [e, off_at, off_at]
  · rw [off_ne e, off_ne e]
    by_cases e2 : b = d
    · rw [e2, off_at, off_at]
    · rw [off_ne e2, off_ne e2, upd_ne e]
theorem off_updd {H : Hp} {d l : Addr} {o : HO} : off (off (upd H d o) d) l = off (off H d) l := by rw [off_upd]
theorem mv_some {ss : List Stf} {m : Nat} {here : Wd} {b : Bool} {e : Eg} (h : mv ss m here b = some e) : ∃ more, pin ss m 20 (here ++ [b]) [] [] = some (some more) ∧ e = (more.length, tl m (here ++ [b] ++ more)) := by
  unfold mv at h
  split at h
  · rename_i more hm; cases h; exact ⟨more, hm, rfl⟩
  · cases h
theorem mv_len {ss : List Stf} {m : Nat} {here : Wd} {b : Bool} {e : Eg} (h : mv ss m here b = some e) : e.1 ≤ 20 ∧ e.2.length ≤ m := by
  obtain ⟨more, hm, rfl⟩ := mv_some h
  have := pin_len _ _ _ _ _ _ _ hm
  exact ⟨by simpa using this, tl_len _ _⟩
abbrev s_move : Stmt := top 39
theorem sc_move : FnScope ["rule", "standing", "bit", "more"] ["rule", "standing", "bit"] (defScope s_move) := ⟨rfl, rfl, rfl, by decide +kernel, rfl, by decide +kernel, by decide +kernel⟩
-- slots: 0 rule, 1 standing, 2 bit, 3 more
theorem ok_move {P : Program} {w : World} {K : PySem.W.Frag} {mg : Str → Option Value} {base : Heap} {f C : Addr} {fd : FuncData} (F : FnP K "move" "move" s_move [] f fd) (T : TX K mg C) (c_longest : Prp P w K mg base 1 C "longest" ["self"] (sp_Rule_longest K C)) (c_put_in : Mth P w K mg base 3 C "put_in" ["self", "line"] (sp_Rule_put_in K C)) (c_tail : Cal P w K mg base 1 "tail" ["line", "size"] (sp_tail K C)) : FnOk P w K mg base CX0 4 f fd ["rule", "standing", "bit"] (sp_move K C) := by
  refine FunD.ok (k := 3) F sc_move (fun vs H Q E h => ?_) (fun cdv A outer s H vs Q E hr h => ?_)
  · obtain ⟨r, fl, ss, l, b, e, rfl, _⟩ := h; rfl
  · obtain ⟨r, fl, ss, l, b, e, rfl, hR, hl, hm, q⟩ := h
    obtain ⟨more, hp, rfl⟩ := mv_some hm
    obtain ⟨sh, dx, t, ts, hr', ht, hts⟩ := id hR
    have hlg := sh.lng
    have hml := (mv_len hm).1
    simp only at hml
    refine ⟨_, (PSs.nox (pss_cons (ps_set (i := 3) sc_move.nd rfl (by first | exact Or.inl rfl | exact Or.inr rfl) (c_put_in.pe hr (pv 0) (pa_cons (pe_op op_add_str (pv 1) (pv 2)) pa_nil)))
      (pss_cons (ps_if (pt_cmpR op_isN (pv 3) pe_non (nomark _)) (pss_one (ps_ret pe_non)) pss_nil)
      (pss_one (ps_ret (pe_tup (pa_cons (pe_callB (cln (K := K) rfl) (by rfl) T.n_len (by decide +kernel) (pa_cons (pv 3) pa_nil)) (pa_cons (c_tail.pe hr (by rfl) (pa_cons (pe_op op_add_str (pe_op op_add_str (pv 1) (pv 2)) (pv 3)) (pa_cons (c_longest.pe hr (pv 0)) pa_nil))) pa_nil)))))))), ?_⟩
    refine ⟨_, rfl, r, dx, _, rfl, hr', flds_no _ _, _, rfl, _, rfl, _, _, rfl, rfl, S_sz2 (by simp; omega), r, fl, ss, l ++ [b], some more, by rw [S_app]; rfl, hR, by simp; omega, hp, fun H2 s2 => ?_⟩
    refine ⟨_, rfl, rfl, _, rfl, ?_⟩
    refine ⟨_, rfl, _, _, rfl, ⟨S_sz (by omega), rfl⟩, ?_⟩
    refine ⟨_, rfl, _, rfl, _, _, rfl, rfl, S_sz2 (by simp; omega), _, rfl, _, _, rfl, rfl, ?_, ?_⟩
    · rw [S_app]; exact S_sz2 (by simp; omega)
    refine ⟨_, rfl, r, dx, _, rfl, s2 _ _ hr', r, fl, ss, rfl, hR.same s2, fun H3 s3 => ?_⟩
    refine ⟨l ++ [b] ++ more, lng ss, by rw [S_app, S_app]; rfl, by simp; omega, ?_⟩
    refine ⟨by show 2 ≤ sizeLine; decide, fun p hp => ?_⟩
    refine q _ p ((s2.trans s3).free hp) ((s2.trans s3).trans (.new hp)) ?_
    show upd H3 p _ p = _
    rw [upd_same, S_len]
theorem mvs_val {H : Hp} : ∀ {kvs : List (Key × V)} {M : Mvs}, Paired (MvE H) kvs M → ∀ x, match look M x with
    | none => valV kvs (.inr (S x)) = none
    | some e => ∃ l p0 p1, valV kvs (.inr (S x)) = some (.ref l) ∧ H l = some (.lst [.ref p0, .ref p1]) ∧ EgA H p0 e.1 ∧ EgA H p1 e.2
  | _, _, .nil, x => rfl
  | kv :: kvs, m :: M, .cons r t, x => by
    obtain ⟨k, e⟩ := m
    obtain ⟨e1, l, p0, p1, h1, h2, h3, h4⟩ := r
    unfold look
    cases h : weq k x with
    | true =>
      have ek := weq_eq.mp h
      exact ⟨l, p0, p1, by rw [valV_pos (by rw [e1, ek]), h1], h2, h3, h4⟩
    | false =>
      have hn : ¬ kv.1 = (.inr (S x) : Key) := fun z => by
        rw [e1] at z
        have : k = x := S_inj (Sum.inr.inj z)
        rw [this, weq_self] at h; cases h
      have ih := mvs_val t x
      simp only
      rw [valV_neg hn]; exact ih
theorem look_none {H : Hp} {kvs : List (Key × V)} {M : Mvs} (h : Paired (MvE H) kvs M) {x : Wd} (e : look M x = none) : valV kvs (.inr (S x)) = none := by
  have := mvs_val h x; rw [e] at this; exact this
theorem look_some {H : Hp} {kvs : List (Key × V)} {M : Mvs} (h : Paired (MvE H) kvs M) {x : Wd} {e : Eg × Eg} (el : look M x = some e) : ∃ l p0 p1, valV kvs (.inr (S x)) = some (.ref l) ∧ H l = some (.lst [.ref p0, .ref p1]) ∧ EgA H p0 e.1 ∧ EgA H p1 e.2 := by
  have := mvs_val h x; rw [el] at this; exact this
abbrev s_moves_of : Stmt := top 40
theorem sc_moves_of : FnScope ["rule", "found", "waiting", "at", "here", "bit", "many", "there"] ["rule"] (defScope s_moves_of) := ⟨rfl, rfl, rfl, by decide +kernel, rfl, by decide +kernel, by decide +kernel⟩
-- slots: 0 rule, 1 found, 2 waiting, 3 at, 4 here, 5 bit, 6 many, 7 there
theorem ok_moves_of {P : Program} {w : World} {K : PySem.W.Frag} {mg : Str → Option Value} {base : Heap} {f C : Addr} {fd : FuncData} (F : FnP K "moves_of" "moves_of" s_moves_of [] f fd) (T : TX K mg C) (c_move : Cal P w K mg base 4 "move" ["rule", "standing", "bit"] (sp_move K C)) : FnOk P w K mg base CX0 5 f fd ["rule"] (sp_moves_of K C) := by
  refine FunD.ok (k := 4) F sc_moves_of (fun vs H Q E h => ?_) (fun cdv A outer s H vs Q E hr h => ?_)
  · obtain ⟨r, fl, ss, M, rfl, _⟩ := h; rfl
  · obtain ⟨r, fl, ss, M, rfl, hR, hm, q⟩ := h
    obtain ⟨sh, dx, t, ts, hr', ht, hts⟩ := id hR
    have hlg := sh.lng
    refine ⟨_, (PSs.nox (pss_cons (ps_par3 (i := 1) (j := 2) (l := 3) rfl sc_moves_of.nd rfl rfl rfl (by decide) (by decide) (by decide) rfl rfl rfl (pa_cons pe_dnewK (pa_cons (pe_lst (pa_cons pe_str pa_nil)) (pa_cons pe_int pa_nil))) (by rfl))
      (pss_cons (ps_while PassesOwn.never (pt_cmpR op_lt (pv 3) (pe_callB (cln (K := K) rfl) (by rfl) T.n_len (by decide +kernel) (pa_cons (pv 2) pa_nil)) (nomark _)) (pss_cons (ps_set (i := 4) sc_moves_of.nd rfl (by first | exact Or.inl rfl | exact Or.inr rfl) (pe_ix (ixl (K := K) rfl) (pv 2) (pv 3) (fun _ _ => rfl)))
      (pss_cons (ps_aug (i := 3) sc_moves_of.nd rfl (by first | exact Or.inl rfl | exact Or.inr rfl) pe_int ip_add)
      (pss_one (ps_if (pt_cmp (pc_dnotin (hu_of hr) (pv 4) (pv 1))) (pss_cons (ps_dput (hu_of hr) (pv 1) (pv 4) (pe_lc (own := [("bit", 5)]) rfl sc_moves_of.nd (pi_str T.bits) (blkOk_by (own := [("bit", 5)]) (by kernel_rfl)) (fun _ _ _ _ _ => (pg_name (i := 5) sc_moves_of.nd rfl (by first | exact Or.inl rfl | exact Or.inr rfl))) (fun _ _ _ _ _ => pts_nil) (fun _ _ _ _ _ => (c_move.pe hr (by rfl) (pa_cons (pv 0) (pa_cons (pv 4) (pa_cons (pv 5) pa_nil)))))) rfl)
      (pss_one (ps_expr (pext (K := K) rfl (pv 2) (pa_cons (pe_lc (own := [("many", 6), ("there", 7)]) rfl sc_moves_of.nd (pil (K := K) rfl (pe_dget (hu_of hr) (pv 1) (pv 4) (fun _ _ => rfl))) (blkOk_by (own := [("many", 6), ("there", 7)]) (by kernel_rfl)) (fun _ _ _ _ _ => (pgt (K := K) (n := 2) rfl rfl (pgs_cons (pg_name (i := 6) sc_moves_of.nd rfl (by first | exact Or.inl rfl | exact Or.inr rfl)) (pgs_cons (pg_name (i := 7) sc_moves_of.nd rfl (by first | exact Or.inl rfl | exact Or.inr rfl)) pgs_nil)))) (fun _ _ _ _ _ => pts_nil) (fun _ _ _ _ _ => (pv 7))) pa_nil))))) pss_nil)))))
      (pss_one (ps_ret (pv 1)))))), ?_⟩
    refine fun d hd => ⟨by show 1 ≤ sizeLine; decide, fun lw hlw => ?_⟩
    have ndl : d ≠ lw := fun e => by rw [← e, upd_same] at hlw; cases hlw
    have hl0 : H lw = none := by rw [upd_ne (Ne.symm ndl)] at hlw; exact hlw
    refine ⟨_, _, _, rfl, ?_⟩
    refine ⟨fun m σ H' => ∃ (wt : List Wd) (i : Nat) (Mf : Mvs) (kvs : List (Key × V)) (t4 t5 t6 t7 : Option V), σ = [some (.ref r), some (.ref d), some (.ref lw), some (.int (i : Nat)), t4, t5, t6, t7] ∧ Same H H' ∧ H' lw = some (.lst (wt.map fun w => .str (S w))) ∧ H' d = some (.dK kvs) ∧ Paired (MvE (off (off H' d) lw)) kvs Mf ∧ mvs ss (lng ss) m Mf (wt.drop i) = some M ∧ i ≤ wt.length ∧ wt.length + 2 * m ≤ 200 ∧ Mf.length + m ≤ 60 ∧ ∀ w ∈ wt, w.length ≤ 100,
      ⟨60, [[]], 0, [], [], none, none, none, none, rfl, (Same.new hd).trans (.new hlw), by rw [upd_same, S_nil]; rfl, by rw [upd_ne ndl, upd_same], .nil, hm, by simp, by simp, by simp, by simp⟩, ?_⟩
    rintro m σ H' ⟨wt, i, Mf, kvs, t4, t5, t6, t7, rfl, s, hl', hd', hP, he, hi, hn, hmf, hw⟩
    cases m with
    | zero => cases he
    | succ m =>
    refine ⟨_, rfl, _, rfl, _, _, rfl, .inl ⟨_, lq hl', rfl⟩, _, _, rfl, rfl, _, rfl, ?_⟩
    cases e : wt[i]? with
    | none =>
      have hlt : wt.length ≤ i := List.getElem?_eq_none_iff.mp e
      rw [List.drop_of_length_le hlt] at he
      cases he
      rw [show decide ((i : Int) < (((wt.map fun w => V.str (S w)).length : Nat) : Int)) = false by rw [decide_eq_false_iff_not, List.length_map]; omega]
      exact ⟨_, rfl, q _ d hd s ⟨kvs, hd', Paired.mapP hP fun _ _ e => (e.same off_same).same off_same⟩⟩
    | some here =>
      have hlt := lt_of_get e
      have hdr : wt.drop i = here :: wt.drop (i + 1) := by
        obtain ⟨h1, h2⟩ := List.getElem?_eq_some_iff.mp e
        rw [← h2]; exact List.drop_eq_getElem_cons h1
      rw [hdr] at he
      have hstep : mvs ss (lng ss) (m + 1) Mf (here :: wt.drop (i + 1)) = (match look Mf here with
        | some _ => mvs ss (lng ss) m Mf (wt.drop (i + 1))
        | none => match mv ss (lng ss) here false with
          | none => none
          | some e0 => match mv ss (lng ss) here true with
            | none => none
            | some e1 => mvs ss (lng ss) m (Mf ++ [(here, e0, e1)]) (wt.drop (i + 1) ++ [e0.2, e1.2])) := rfl
      rw [hstep] at he
      have hh : here.length ≤ 100 := hw here (List.mem_of_getElem? e)
      rw [show decide ((i : Int) < (((wt.map fun w => V.str (S w)).length : Nat) : Int)) = true by rw [decide_eq_true_eq, List.length_map]; omega]
      refine ⟨fun σ' H2 => ∃ m', m' < m + 1 ∧ ∃ (wt : List Wd) (i : Nat) (Mf : Mvs) (kvs : List (Key × V)) (t4 t5 t6 t7 : Option V), σ' = [some (.ref r), some (.ref d), some (.ref lw), some (.int (i : Nat)), t4, t5, t6, t7] ∧ Same H H2 ∧ H2 lw = some (.lst (wt.map fun w => .str (S w))) ∧ H2 d = some (.dK kvs) ∧ Paired (MvE (off (off H2 d) lw)) kvs Mf ∧ mvs ss (lng ss) m' Mf (wt.drop i) = some M ∧ i ≤ wt.length ∧ wt.length + 2 * m' ≤ 200 ∧ Mf.length + m' ≤ 60 ∧ ∀ w ∈ wt, w.length ≤ 100, fun σ' H' n => n, ?_⟩
      refine ⟨_, rfl, _, rfl, _, _, _, _, rfl, rfl, lq hl', atI_nat (j := i) (map_at e), ?_⟩
      refine ⟨_, rfl, _, _, rfl, rfl, ?_⟩
      refine ⟨_, rfl, _, rfl, d, _, rfl, DGet.k (k := .inr (S here)) hd', _, rfl, ?_⟩
      cases elk : look Mf here with
      | some e2 =>
        rw [elk] at he
        obtain ⟨l, p0, p1, hv, _⟩ := look_some hP elk
        rw [hv]
        exact ⟨m, Nat.lt_succ_self _, wt, i + 1, Mf, kvs, _, _, _, _, rfl, s, hl', hd', hP, he, hlt, by omega, by omega, hw⟩
      | none =>
        rw [elk] at he
        rw [look_none hP elk]
        cases em0 : mv ss (lng ss) here false with
        | none => rw [em0] at he; cases he
        | some e0 =>
        cases em1 : mv ss (lng ss) here true with
        | none => rw [em0, em1] at he; cases he
        | some e1 =>
        rw [em0, em1] at he
        -- found[here] = [move(rule, here, bit) for bit in BITS]
        refine ⟨_, rfl, fun D hD => ?_⟩
        rw [S_01]
        refine lc_sit (sit_word [false, true]) (fun _ _ _ h => trivial) hD (fun j acc H2 => Same H' H2 ∧ ∃ ps : List Addr, acc = ps.map V.ref ∧ Paired (EgA (off (off H2 d) lw)) ps ([e0, e1].take j)) ⟨.refl _, [], rfl, .nil⟩ (fun _ _ _ _ _ => trivial) ?_ ?_
        · rintro j x acc H2 hj ⟨bb, hbb, rfl⟩ hD2 ⟨s2, ps, rfl, hps⟩ Nx nx
          have hj2 : j < 2 := hj
          have s2' : Same H' H2 := s2.trans off_same
          obtain ⟨eb, heb, hgb⟩ : ∃ eb, mv ss (lng ss) here bb = some eb ∧ [e0, e1][j]? = some eb := by
            match j, hj2 with
            | 0, _ => simp at hbb; subst hbb; exact ⟨e0, em0, rfl⟩
            | 1, _ => simp at hbb; subst hbb; exact ⟨e1, em1, rfl⟩
          refine ⟨rfl, ?_⟩
          refine ⟨_, rfl, _, rfl, _, rfl, r, fl, ss, here, bb, eb, rfl, hR.same (s.trans s2'), hh, heb, fun H3 p hp s3 hE => ?_⟩
          refine ⟨_, s3 _ _ hD2, ?_, nx _ _ upd_same ⟨?_, ps ++ [p], ?_, ?_⟩⟩
          · rw [List.length_map, Paired.length hps, List.length_take]
            have := Nat.min_le_left j [e0, e1].length
            exact lt_sz (by omega)
          · rw [off_upd]; exact s2.trans (off_mono s3)
          · rw [List.map_append]; rfl
          · rw [take_snoc hgb, off_upd]
            refine paired_app (Paired.mapP hps fun _ _ e => off_mono (off_mono (off_mono s3)) _ _ e) (paired_one ?_)
            have h1 : off H3 D p = some _ := off_of hD2 hp hE
            have h2 : off (off H3 D) d p = some (.tup [.int eb.1, .str (S eb.2)]) := by
              rw [off_ne (fun z => by rw [z, s2' _ _ hd'] at hp; cases hp)]; exact h1
            show off (off (off H3 D) d) lw p = _
            rw [off_ne (fun z => by rw [z, s2' _ _ hl'] at hp; cases hp)]; exact h2
        · rintro acc H2 hD2 ⟨s2, ps, rfl, hps⟩
          have s2' : Same H' H2 := s2.trans off_same
          obtain ⟨p0, p1, rfl⟩ : ∃ p0 p1, ps = [p0, p1] := by
            have h2 := Paired.length hps
            match ps, h2 with
            | [p0, p1], _ => exact ⟨p0, p1, rfl⟩
          have nDd : D ≠ d := fun z => by rw [z, hd'] at hD; cases hD
          have nDl : D ≠ lw := fun z => by rw [z, hl'] at hD; cases hD
          have hkl : kvs.length < sizeLine := by rw [Paired.length hP]; exact lt_sz (by omega)
          refine ⟨_, rfl, _, rfl, d, _, rfl, DPut.k (k := .inr (S here)) (s2' _ _ hd') hkl, ?_⟩
          rw [putK_new (by rw [look_none hP elk]; rfl)]
          -- waiting.extend([there for many, there in found[here]])
          refine ⟨_, rfl, .inl ⟨rfl, _, lq (by rw [upd_ne (Ne.symm ndl)]; exact s2' _ _ hl')⟩, ?_⟩
          refine ⟨_, rfl, _, rfl, d, .ref D, rfl, ?_, D, rfl, ⟨_, lq (by rw [upd_ne nDd]; exact hD2)⟩, fun D2 hD2' => ?_⟩
          · have hg := DGet.k (k := (.inr (S here) : Key)) (a := d) (H := upd H2 d (.dK (kvs ++ [(.inr (S here), .ref D)]))) upd_same
            rw [valV_snoc _ _ _ _ (look_none hP elk), if_pos rfl] at hg
            exact hg
          have hPs : Paired (EgA H2) [p0, p1] [e0, e1] := Paired.mapP hps fun _ _ e => off_same _ _ (off_same _ _ (off_same _ _ e))
          obtain ⟨hp0, hp1⟩ : EgA H2 p0 e0 ∧ EgA H2 p1 e1 := by
            cases hPs with | cons a t => cases t with | cons b t => exact ⟨a, b⟩
          obtain ⟨hq0, hq1⟩ : EgA (off (off H2 d) lw) p0 e0 ∧ EgA (off (off H2 d) lw) p1 e1 := by
            have hps' : Paired (EgA (off (off H2 d) lw)) [p0, p1] [e0, e1] := Paired.mapP hps fun _ _ e => off_mono (off_mono off_same) _ _ e
            cases hps' with | cons a t => cases t with | cons b t => exact ⟨a, b⟩
          have n0 : p0 ≠ d := fun z => by rw [z] at hp0; exact absurd (hp0.symm.trans (s2' _ _ hd')) (by intro q; cases q)
          have n1 : p1 ≠ d := fun z => by rw [z] at hp1; exact absurd (hp1.symm.trans (s2' _ _ hd')) (by intro q; cases q)
          have sb : Same (off H2 d) (upd H2 d (.dK (kvs ++ [(.inr (S here), .ref D)]))) := fun b o e => by
            by_cases z : b = d
            · rw [z, off_at] at e; cases e
            · rw [off_ne z] at e; rw [upd_ne z]; exact e
          refine lc_sit (sit_list [V.ref p0, V.ref p1]) (fun _ _ s h => s.seq h) hD2' (fun j acc H3 => Same (upd H2 d (.dK (kvs ++ [(.inr (S here), .ref D)]))) H3 ∧ acc = ([e0.2, e1.2].take j).map fun w => V.str (S w)) ⟨.refl _, rfl⟩ (fun _ _ _ _ h => h.1.seq (lq (by rw [upd_ne nDd]; exact hD2))) ?_ ?_
          · rintro j x acc H3 hj hx hD3 ⟨s3, rfl⟩ Nx nx
            have hj2 : j < 2 := hj
            have s3' := s3.trans (off_same (H := H3) (D := D2))
            have key : ∃ pj ej, x = V.ref pj ∧ EgA H3 pj ej ∧ [e0.2, e1.2][j]? = some ej.2 := by
              match j, hj2 with
              | 0, _ => simp at hx; exact ⟨p0, e0, hx.symm, s3' _ _ (by rw [upd_ne n0]; exact hp0), rfl⟩
              | 1, _ => simp at hx; exact ⟨p1, e1, hx.symm, s3' _ _ (by rw [upd_ne n1]; exact hp1), rfl⟩
            obtain ⟨pj, ej, rfl, hej, hgj⟩ := key
            refine ⟨pj, _, rfl, tq hej, rfl, _, _, rfl, _, _, rfl, rfl, rfl, ?_⟩
            refine ⟨_, rfl, _, hD3, ?_, nx _ _ upd_same ⟨?_, ?_⟩⟩
            · rw [List.length_map, List.length_take]
              have := Nat.min_le_left j [e0.2, e1.2].length
              exact lt_sz (by omega)
            · rw [off_upd]; exact s3
            · rw [take_snoc hgj, List.map_append]; rfl
          · rintro acc H3 hD3 ⟨s3, rfl⟩
            have s3' := s3.trans (off_same (H := H3) (D := D2))
            have hl3 : H3 lw = some (.lst (wt.map fun w => .str (S w))) := s3' _ _ (by rw [upd_ne (Ne.symm ndl)]; exact s2' _ _ hl')
            have hd3 : H3 d = some (.dK (kvs ++ [(.inr (S here), .ref D)])) := s3' _ _ upd_same
            refine ⟨lw, D2, _, _, rfl, rfl, hl3, hD3, by rw [List.length_map, List.length_map]; exact le_sz (by simp; omega), ?_⟩
            have hm0 := (mv_len em0).2
            have hm1 := (mv_len em1).2
            have sT : Same H H3 := fun b o e => by
              refine s3' _ _ ?_
              rw [upd_ne (ne_of_none e hd)]
              exact s2' _ _ (s _ _ e)
            have sO : Same (off (off H2 d) lw) (off (off H3 d) lw) := by
              refine off_mono fun b o e => ?_
              have hb : b ≠ d := fun z => by rw [z, off_at] at e; cases e
              rw [off_ne hb] at e ⊢
              exact s3' _ _ (by rw [upd_ne hb]; exact e)
            refine ⟨m, Nat.lt_succ_self _, wt ++ [e0.2, e1.2], i + 1, Mf ++ [(here, e0, e1)], kvs ++ [(.inr (S here), .ref D)], _, _, _, _, rfl, sT.mut hl0, ?_, ?_, ?_, ?_, ?_, ?_, ?_, ?_⟩
            · rw [upd_same, List.map_append]; rfl
            · rw [upd_ne ndl]; exact hd3
            · rw [off_upd2 (Ne.symm ndl)]
              refine paired_app (Paired.mapP hP fun _ _ e => (e.same (off_mono (off_mono s2'))).same sO) (paired_one ⟨rfl, D, p0, p1, rfl, ?_, sO _ _ hq0, sO _ _ hq1⟩)
              refine sO _ _ ?_
              rw [off_ne nDl, off_ne nDd]; exact hD2
            · rw [List.drop_append_of_le_length hlt]; exact he
            · rw [List.length_append]; simp; omega
            · rw [List.length_append]; simp; omega
            · rw [List.length_append]; simp; omega
            · intro w hw'
              rcases List.mem_append.mp hw' with h | h
              · exact hw w h
              · simp at h
                rcases h with rfl | rfl
                · omega
                · omega
end UF
set_option maxHeartbeats 4000000
namespace UF
open PySem PySem.Spec PyProof.Rows L2
/-! ### dicts of numbers -/
theorem kA_get (x : Wd) : ∀ al : AL, valV (kA al) (.inr (S x)) = (getA al x).map fun n => V.int (n : Nat)
  | [] => rfl
  | (k, u) :: r => by
    unfold getA
    show valV ((.inr (S k), .int u) :: kA r) (.inr (S x)) = _
    cases h : weq k x with
    | true =>
      have e := weq_eq.mp h
      subst e
      rw [valV_pos rfl]; rfl
    | false =>
      have hn : ¬ ((.inr (S k), V.int u) : Key × V).1 = (.inr (S x) : Key) := fun z => by
        have : k = x := S_inj (Sum.inr.inj z)
        rw [this, weq_self] at h; cases h
      rw [valV_neg hn]
      exact kA_get x r
theorem getA_none {x : Wd} : ∀ {al : AL}, x ∉ al.map (·.1) → getA al x = none
  | [], _ => rfl
  | (k, u) :: r, h => by
    unfold getA
    rw [List.map_cons, List.mem_cons] at h
    cases e : weq k x with
    | true => exact absurd (Or.inl (weq_eq.mp e).symm) h
    | false => exact getA_none fun q => h (Or.inr q)
theorem getA_map (f : Wd → Nat) (x : Wd) : ∀ M : Mvs, (look M x).isSome = true → getA (M.map fun m : Mv => (m.1, f m.1)) x = some (f x)
  | [], h => by cases h
  | (k, e) :: r, h => by
    unfold look at h
    show (match weq k x with
      | true => some (f k)
      | false => getA (r.map fun m : Mv => (m.1, f m.1)) x) = _
    cases q : weq k x with
    | true => rw [weq_eq.mp q]
    | false => rw [q] at h; exact getA_map f x r h
theorem kA_put {al : AL} {x : Wd} {n : Nat} (h : x ∉ al.map (·.1)) : putK (kA al) (.inr (S x)) (.int (n : Nat)) = kA (al ++ [(x, n)]) := by
  rw [putK_new (by rw [kA_get, getA_none h]; rfl)]
  unfold kA; rw [List.map_append]; rfl
theorem kA_len (al : AL) : (kA al).length = al.length := by unfold kA; rw [List.length_map]
theorem kA_map (f : Wd → Nat) {M : Mvs} {x : Wd} (h : (look M x).isSome = true) : valV (kA (M.map fun m => (m.1, f m.1))) (.inr (S x)) = some (.int (f x : Nat)) := by
  rw [kA_get, getA_map f x M h]; rfl
theorem look_mem : ∀ {M : Mvs} {x : Wd} {e : Eg × Eg}, look M x = some e → (x, e) ∈ M
  | [], _, _, h => by cases h
  | (k, e) :: r, x, e2, h => by
    unfold look at h
    cases q : weq k x with
    | true => rw [q] at h; cases h; rw [weq_eq.mp q]; exact List.mem_cons_self ..
    | false => rw [q] at h; exact List.mem_cons_of_mem _ (look_mem h)
theorem look_of : ∀ {M : Mvs} {m : Mv}, (keys M).Nodup → m ∈ M → look M m.1 = some m.2
  | [], _, _, h => by cases h
  | (k, e) :: r, m, nd, h => by
    unfold look
    have nd' := List.nodup_cons.mp nd
    rcases List.mem_cons.mp h with rfl | h
    · rw [show weq (k, e).1 k = true from weq_self k]
    · have : weq k m.1 = false := by
        cases q : weq k m.1 with
        | false => rfl
        | true =>
          refine absurd ?_ nd'.1
          show k ∈ r.map (·.1)
          rw [weq_eq.mp q]
          exact List.mem_map.mpr ⟨m, h, rfl⟩
      rw [this]
      exact look_of nd'.2 h
theorem MvE.upd {H : Hp} {kv : Key × V} {m : Mv} {d : Addr} {kvs : List (Key × V)} {o : HO} (hd : H d = some (.dK kvs)) (h : MvE H kv m) : MvE (upd H d o) kv m := by
  obtain ⟨e, l, p0, p1, h1, h2, h3, h4⟩ := h
  refine ⟨e, l, p0, p1, h1, ?_, ?_, ?_⟩
  · rw [upd_ne (fun z => by rw [z, hd] at h2; cases h2)]; exact h2
  · show L2.upd H d o p0 = _
    rw [upd_ne (fun z => by rw [z] at h3; exact absurd (h3.symm.trans hd) (by intro q; cases q))]; exact h3
  · show L2.upd H d o p1 = _
    rw [upd_ne (fun z => by rw [z] at h4; exact absurd (h4.symm.trans hd) (by intro q; cases q))]; exact h4
theorem same_unlock {H H' : Hp} {d : Addr} {u o : HO} (hd : H d = some u) (s : Same (upd H d o) H') : Same H (upd H' d u) := fun b ob e => by
  by_cases h : b = d
  · rw [h, hd] at e; cases e; rw [h, upd_same]
  · rw [upd_ne h]; exact s b ob (by rw [upd_ne h]; exact e)
theorem same_unlock' {H H' : Hp} {d : Addr} {u o : HO} (s : Same (upd H d o) H') : Same (off H d) (upd H' d u) := fun b ob e => by
  by_cases h : b = d
  · rw [h, off_at] at e; cases e
  · rw [off_ne h] at e; rw [upd_ne h]; exact s b ob (by rw [upd_ne h]; exact e)
theorem mvs_key {H : Hp} {kvs : List (Key × V)} {M : Mvs} {i : Nat} {k : Key} {v : V} (h : Paired (MvE H) kvs M) (e : kvs[i]? = some (k, v)) : ∃ m, M[i]? = some m ∧ kV k = .str (S m.1) := by
  obtain ⟨m, hm, r⟩ := paired_get h e
  exact ⟨m, hm, by rw [show k = _ from r.1]; rfl⟩
theorem nd_take {M : Mvs} {i : Nat} {m : Mv} (nd : (keys M).Nodup) (e : M[i]? = some m) (f : Wd → Nat) : m.1 ∉ ((M.take i).map fun m => (m.1, f m.1)).map (·.1) := by
  intro h
  rw [List.map_map] at h
  obtain ⟨m', h1, h2⟩ := List.mem_map.mp h
  obtain ⟨j, hj⟩ := List.mem_iff_getElem?.mp h1
  have hji : j < i := by
    have := lt_of_get hj
    rw [List.length_take] at this
    omega
  rw [List.getElem?_take_of_lt hji] at hj
  have e1 : (keys M)[i]? = some m.1 := by unfold keys; rw [List.getElem?_map, e]; rfl
  have e2 : (keys M)[j]? = some m.1 := by unfold keys; rw [List.getElem?_map, hj]; exact congrArg some h2
  have hi := lt_of_get e1
  have := (List.getElem?_inj hi nd).mp (e1.trans e2.symm)
  omega
theorem rdf {H : Hp} {d : Addr} {o : Obj} {u : HO} (h : H d = some (.frz o u)) : Rd H d u := .inr ⟨o, h⟩
theorem DGet.rd {H : Hp} {a : Addr} {kvs : List (Key × V)} {k : Key} (e : Rd H a (.dK kvs)) : DGet H a (kV k) (valV kvs k) := .inl ⟨kvs, k, e, rfl, rfl⟩
theorem mx_eq (i j : Nat) : mx i j = max i j := by
  unfold mx
  cases h : Nat.ble j i with
  | true => have := Nat.ble_eq.mp h; simp only []; omega
  | false =>
    have : ¬ j ≤ i := fun q => by rw [Nat.ble_eq.mpr q] at h; cases h
    simp only []; omega
theorem lf_bd {M : Mvs} (hs : ∀ x ∈ M, x.1.length ≤ 10 ∧ x.2.1.1 ≤ 100 ∧ x.2.2.1 ≤ 100) : ∀ (k : Nat) (x : Wd), lf M k x ≤ 100 * k
  | 0, _ => Nat.le_refl _
  | k + 1, x => by
    unfold lf
    cases e : look M x with
    | none => simp only []; omega
    | some ee =>
      obtain ⟨e0, e1⟩ := ee
      have := hs _ (look_mem e)
      have h0 := lf_bd hs k e0.2
      have h1 := lf_bd hs k e1.2
      simp only [mx_eq] at this ⊢
      omega
abbrev s_best_left : Stmt := top 41
theorem sc_best_left : FnScope ["moves", "size", "found", "turn", "last", "here", "many", "there"] ["moves", "size"] (defScope s_best_left) := ⟨rfl, rfl, rfl, by decide +kernel, rfl, by decide +kernel, by decide +kernel⟩
-- slots: 0 moves, 1 size, 2 found, 3 turn, 4 last, 5 here, 6 many, 7 there
theorem ok_best_left {P : Program} {w : World} {K : PySem.W.Frag} {mg : Str → Option Value} {base : Heap} {f C : Addr} {fd : FuncData} (F : FnP K "best_left" "best_left" s_best_left [] f fd) (T : TX K mg C)  : FnOk P w K mg base CX0 1 f fd ["moves", "size"] (sp_best_left K C) := by
  refine FunD.ok (k := 0) F sc_best_left (fun vs H Q E h => ?_) (fun cdv A outer s H vs Q E hr h => ?_)
  · obtain ⟨d, M, n, rfl, _⟩ := h; rfl
  · obtain ⟨d, M, n, rfl, ⟨kvs, hd0, hP0⟩, hC, hn, q⟩ := h
    have hML := hC.len
    have hkl : kvs.length = M.length := Paired.length hP0
    refine ⟨_, (PSs.nox (pss_cons (ps_set (i := 2) sc_best_left.nd rfl (by first | exact Or.inl rfl | exact Or.inr rfl) (pe_lst (pa_cons (pe_lock (pe_dc (own := [("here", 5)]) rfl sc_best_left.nd (pi_keys (pv 0)) (blkOk_by (own := [("here", 5)]) (by kernel_rfl)) (fun _ _ _ _ _ => (pg_name (i := 5) sc_best_left.nd rfl (by first | exact Or.inl rfl | exact Or.inr rfl))) (fun _ _ _ _ _ => pts_nil) (fun _ _ _ _ _ => (pv 5)) (fun _ _ _ _ _ => pe_int))) pa_nil)))
      (pss_cons (ps_for PassesOwn.never rfl (pi_range1 rfl T.n_range (pa_cons (pv 1) pa_nil)) (pg_name (i := 3) sc_best_left.nd rfl (by first | exact Or.inl rfl | exact Or.inr rfl)) (pss_cons (ps_set (i := 4) sc_best_left.nd rfl (by first | exact Or.inl rfl | exact Or.inr rfl) (pe_ix (ixl (K := K) rfl) (pv 2) (pe_un un_neg pe_int) (fun _ _ => rfl)))
      (pss_one (ps_expr (papp (K := K) rfl (pv 2) (pa_cons (pe_lock (pe_dc (own := [("here", 5)]) rfl sc_best_left.nd (pi_keys (pv 0)) (blkOk_by (own := [("here", 5)]) (by kernel_rfl)) (fun _ _ _ _ _ => (pg_name (i := 5) sc_best_left.nd rfl (by first | exact Or.inl rfl | exact Or.inr rfl))) (fun _ _ _ _ _ => pts_nil) (fun _ _ _ _ _ => (pv 5)) (fun _ _ _ _ _ => (pe_callB (cmx (K := K) rfl rfl) (by rfl) T.n_max (by decide +kernel) (pa_cons (pe_lc (own := [("many", 6), ("there", 7)]) rfl sc_best_left.nd (pil (K := K) rfl (pe_dget (hu_of hr) (pv 0) (pv 5) (fun _ _ => rfl))) (blkOk_by (own := [("many", 6), ("there", 7)]) (by kernel_rfl)) (fun _ _ _ _ _ => (pgt (K := K) (n := 2) rfl rfl (pgs_cons (pg_name (i := 6) sc_best_left.nd rfl (by first | exact Or.inl rfl | exact Or.inr rfl)) (pgs_cons (pg_name (i := 7) sc_best_left.nd rfl (by first | exact Or.inl rfl | exact Or.inr rfl)) pgs_nil)))) (fun _ _ _ _ _ => pts_nil) (fun _ _ _ _ _ => (pe_callTy call_int1 (by rfl) T.n_int (by decide +kernel) (pa_cons (pe_op op_add (pv 6) (pe_dget (hu_of hr) (pv 4) (pv 7) (fun _ _ => rfl))) pa_nil)))) pa_nil))))) pa_nil))))))
      (pss_one (ps_ret (pv 2)))))), ?_⟩
    refine ⟨d, _, hd0, trivial, fun od => ⟨_, rfl, d, od, rfl, .inl ⟨kvs, upd_same, fun D hD => ?_⟩⟩⟩
    have hPL : Paired (MvE (upd H d (.frz od (.dK kvs)))) kvs M := Paired.mapP hP0 fun _ _ e => MvE.upd hd0 e
    refine dc_sit (sit_keys kvs) (fun _ _ s h => s _ _ h) hD (fun i acc H' => Same (upd H d (.frz od (.dK kvs))) H' ∧ acc = kA ((M.take i).map fun m => (m.1, lf M 0 m.1))) ⟨.refl _, rfl⟩ (fun i acc H' _ h => h.1 _ _ upd_same) ?_ ?_
    · rintro i x acc H' hi ⟨k, v, hkv, rfl⟩ hD' ⟨s, rfl⟩ Nx nx
      obtain ⟨m, hm, ek⟩ := mvs_key hPL hkv
      rw [ek]
      refine ⟨rfl, _, rfl, _, .inr (S m.1), rfl, hD', ?_, nx _ _ upd_same ⟨?_, ?_⟩⟩
      · rw [kA_len, List.length_map, List.length_take]; exact lt_sz (by omega)
      · rw [off_upd]; exact s
      · rw [take_snoc hm, List.map_append]
        exact kA_put (nd_take hC.nd hm _)
    · rintro acc H' hD' ⟨s, rfl⟩
      have s' := s.trans off_same
      have hd' := s' _ _ upd_same
      have nDd : D ≠ d := fun z => by rw [z, upd_same] at hD; cases hD
      have sU := same_unlock hd0 s'
      rw [hkl, List.take_length] at hD'
      refine ⟨hd', by show 1 ≤ sizeLine; decide, fun l hl => ?_⟩
      have nlD : l ≠ D := fun z => by rw [z, upd_ne nDd, hD'] at hl; cases hl
      have nld : l ≠ d := fun z => by rw [z, upd_same] at hl; cases hl
      have hlH : H l = none := by
        cases e : H l with
        | none => rfl
        | some o => rw [sU _ _ e] at hl; cases hl
      refine ⟨_, rfl, (n : Int), rfl, by omega, by omega, ?_⟩
      refine for_sit (sit_range 0 n) (fun i σ H' => ∃ (ds : List Addr) (t3 t4 t5 t6 t7 : Option V), σ = [some (.ref d), some (.int n), some (.ref l), t3, t4, t5, t6, t7] ∧ Same H H' ∧ H' l = some (.lst (ds.map V.ref)) ∧ ds.length = i + 1 ∧ (∀ a ∈ ds, H a = none) ∧ ∀ k a, ds[k]? = some a → AlA (off H' l) a (M.map fun m => (m.1, lf M k m.1))) ?_ (fun _ _ _ _ _ => trivial) ?_ ?_
      · refine ⟨[D], _, _, _, _, _, rfl, sU.trans (.new hl), upd_same, rfl, fun a h => by rw [List.mem_singleton.mp h]; rw [upd_ne nDd] at hD; exact hD, fun k a h => ?_⟩
        cases k with
        | succ k => simp at h
        | zero =>
          simp at h; subst h
          show off _ l D = _
          rw [off_ne (Ne.symm nlD), upd_ne (Ne.symm nlD), upd_ne nDd]; exact hD'
      · rintro i x σ H2 hi rfl ⟨ds, t3, t4, t5, t6, t7, rfl, s2, hl2, hlen, hfr, hds⟩
        obtain ⟨a, ha⟩ : ∃ a, ds[i]? = some a := ⟨ds[i], by simp [hlen]⟩
        have hla : atI (ds.map V.ref) (-1) = some (.ref a) := by
          have e : ds = ds.take i ++ [a] := by rw [← take_snoc ha, ← hlen, List.take_length]
          rw [e, List.map_append]; exact atI_last _ _
        refine ⟨_, rfl, _, rfl, _, _, _, _, rfl, rfl, lq hl2, hla, ?_⟩
        have hd2 := s2 _ _ hd0
        have hA := hds i a ha
        refine ⟨_, rfl, .inl ⟨rfl, _, lq hl2⟩, d, _, hd2, trivial, fun od2 => ⟨_, rfl, d, od2, rfl, .inl ⟨kvs, upd_same, fun D hD => ?_⟩⟩⟩
        have hP2 : Paired (MvE (upd H2 d (.frz od2 (.dK kvs)))) kvs M := Paired.mapP hP0 fun _ _ e => MvE.upd hd2 (e.same s2)
        have nDd : D ≠ d := fun z => by rw [z, upd_same] at hD; cases hD
        have hD2 : H2 D = none := by rw [upd_ne nDd] at hD; exact hD
        have nld : l ≠ d := fun z => by rw [z, hd2] at hl2; cases hl2
        have nad : a ≠ d := fun z => by
          have := hfr a (List.mem_of_getElem? ha)
          rw [z, hd0] at this; cases this
        have haL : upd H2 d (.frz od2 (.dK kvs)) a = some (.dK (kA (M.map fun m => (m.1, lf M i m.1)))) := by
          rw [upd_ne nad]; exact off_same _ _ hA
        refine dc_sit (sit_keys kvs) (fun _ _ s h => s _ _ h) hD (fun j acc H' => Same (upd H2 d (.frz od2 (.dK kvs))) H' ∧ acc = kA ((M.take j).map fun m => (m.1, lf M (i + 1) m.1))) ⟨.refl _, rfl⟩ (fun _ acc H' _ h => h.1 _ _ upd_same) ?_ ?_
        · rintro j x acc H' hj ⟨k, v, hkv, rfl⟩ hD' ⟨s, rfl⟩ Nx nx
          obtain ⟨m, hm, ek⟩ := mvs_key hP2 hkv
          have hmem := List.mem_of_getElem? hm
          have hlook := look_of hC.nd hmem
          obtain ⟨q0, p0, p1, r2, r3, r4, r5⟩ := look_some hP2 hlook
          have hsm := hC.sm m hmem
          have sO := s.trans off_same
          rw [ek]
          have hg : DGet H' d (kV (.inr (S m.1))) (some (.ref q0)) := by
            have hg := DGet.rd (k := (.inr (S m.1) : Key)) (rdf (sO _ _ upd_same))
            rw [r2] at hg
            exact hg
          refine ⟨rfl, _, rfl, _, rfl, _, rfl, d, _, rfl, hg, q0, rfl, ⟨_, lq (sO _ _ r3)⟩, fun D2 hD2' => ?_⟩
          refine lc_sit (sit_list [V.ref p0, V.ref p1]) (fun _ _ s h => s.seq h) hD2' (fun t acc2 H3 => Same H' H3 ∧ acc2 = (([m.2.1, m.2.2].take t).map fun e => V.int ((e.1 + lf M i e.2 : Nat) : Int))) ⟨.refl _, rfl⟩ (fun _ _ _ _ h => h.1.seq (lq (sO _ _ r3))) ?_ ?_
          · rintro t x acc2 H3 ht hx hD3 ⟨s3, rfl⟩ Nx2 nx2
            have ht2 : t < 2 := ht
            have s3' := s3.trans (off_same (H := H3) (D := D2))
            have key : ∃ pj ej, x = V.ref pj ∧ EgA H3 pj ej ∧ [m.2.1, m.2.2][t]? = some ej ∧ (look M ej.2).isSome = true := by
              match t, ht2 with
              | 0, _ => simp at hx; exact ⟨p0, m.2.1, hx.symm, s3' _ _ (sO _ _ r4), rfl, hC.e0 m hmem⟩
              | 1, _ => simp at hx; exact ⟨p1, m.2.2, hx.symm, s3' _ _ (sO _ _ r5), rfl, hC.e1 m hmem⟩
            obtain ⟨pj, ej, rfl, hej, hgj, hlk⟩ := key
            have hgl : DGet H3 a (kV (.inr (S ej.2))) (some (.int (lf M i ej.2 : Nat))) := by
              have hg := DGet.rd (k := (.inr (S ej.2) : Key)) (.inl (s3' _ _ (sO _ _ haL)))
              rw [kA_map (lf M i) hlk] at hg
              exact hg
            refine ⟨pj, _, rfl, tq hej, rfl, _, _, rfl, _, _, rfl, rfl, rfl, ?_⟩
            refine ⟨_, rfl, _, rfl, _, rfl, a, _, rfl, hgl, _, _, rfl, rfl, .inl ⟨_, rfl, _, hD3, ?_, nx2 _ _ upd_same ⟨?_, ?_⟩⟩⟩
            · rw [List.length_map, List.length_take]
              have := Nat.min_le_left t [m.2.1, m.2.2].length
              exact lt_sz (by omega)
            · rw [off_upd]; exact s3
            · rw [take_snoc hgj, List.map_append]; rfl
          · rintro acc2 H3 hD3 ⟨s3, rfl⟩
            have s3' := s3.trans (off_same (H := H3) (D := D2))
            refine ⟨D2, [((m.2.1.1 + lf M i m.2.1.2 : Nat) : Int), ((m.2.2.1 + lf M i m.2.2.2 : Nat) : Int)], rfl, lq hD3, Nat.zero_lt_succ _, fun mm hmm hall => ?_⟩
            have emm : mm = ((lf M (i + 1) m.1 : Nat) : Int) := by
              have : lf M (i + 1) m.1 = mx (m.2.1.1 + lf M i m.2.1.2) (m.2.2.1 + lf M i m.2.2.2) := by
                show (match look M m.1 with | none => 0 | some (e0, e1) => mx (e0.1 + lf M i e0.2) (e1.1 + lf M i e1.2)) = _
                rw [hlook]
              rw [this, mx_eq]
              have h0 := hall _ (List.mem_cons_self ..)
              have h1 := hall _ (List.mem_cons_of_mem _ (List.mem_cons_self ..))
              simp only [List.mem_cons, List.not_mem_nil, or_false] at hmm
              omega
            subst emm
            refine ⟨_, .inr (S m.1), rfl, s3' _ _ hD', ?_, nx _ _ upd_same ⟨?_, ?_⟩⟩
            · rw [kA_len, List.length_map, List.length_take]; exact lt_sz (by omega)
            · rw [off_upd]; exact s.trans (off_mono s3')
            · rw [take_snoc hm, List.map_append]
              exact kA_put (nd_take hC.nd hm _)
        · rintro acc H' hD' ⟨s, rfl⟩
          have s' := s.trans off_same
          have hd' := s' _ _ upd_same
          have sU := same_unlock hd2 s'
          rw [hkl, List.take_length] at hD'
          have hlU := sU _ _ hl2
          refine ⟨hd', l, _, _, rfl, rfl, hlU, by rw [List.length_map]; exact lt_sz (by omega), ?_⟩
          refine ⟨ds ++ [D], _, _, _, _, _, rfl, (s2.trans sU).mut hlH, by rw [upd_same, List.map_append]; rfl, by simp [hlen], ?_, ?_⟩
          · intro a' ha'
            rcases List.mem_append.mp ha' with h | h
            · exact hfr a' h
            · rw [List.mem_singleton.mp h]; exact s2.free hD2
          · intro k a' hk
            rw [off_upd]
            by_cases hki : k < ds.length
            · rw [List.getElem?_append_left hki] at hk
              exact off_mono sU _ _ (hds k a' hk)
            · rw [List.getElem?_append_right (by omega)] at hk
              have hk0 : k - ds.length = 0 := by
                have := lt_of_get hk; simp at this; omega
              rw [hk0] at hk; simp at hk; subst hk
              have e : k = i + 1 := by omega
              subst e
              show off _ l D = _
              rw [off_ne (fun z => by rw [z, hl2] at hD2; cases hD2), upd_ne nDd]; exact hD'
      · rintro σ H2 ⟨ds, t3, t4, t5, t6, t7, rfl, s2, hl2, hlen, hfr, hds⟩
        exact ⟨_, rfl, q _ l s2 ⟨ds, hl2, hlen, fun k a h => off_same _ _ (hds k a h)⟩⟩
abbrev s_most_put : Stmt := top 42
theorem sc_most_put : FnScope ["rule", "size"] ["rule", "size"] (defScope s_most_put) := ⟨rfl, rfl, rfl, by decide +kernel, rfl, by decide +kernel, by decide +kernel⟩
-- slots: 0 rule, 1 size
theorem ok_most_put {P : Program} {w : World} {K : PySem.W.Frag} {mg : Str → Option Value} {base : Heap} {f C : Addr} {fd : FuncData} (F : FnP K "most_put" "most_put" s_most_put [] f fd) (T : TX K mg C) (c_best_left : Cal P w K mg base 1 "best_left" ["moves", "size"] (sp_best_left K C)) (c_moves_of : Cal P w K mg base 5 "moves_of" ["rule"] (sp_moves_of K C)) : FnOk P w K mg base CX0 6 f fd ["rule", "size"] (sp_most_put K C) := by
  refine FunD.ok (k := 5) F sc_most_put (fun vs H Q E h => ?_) (fun cdv A outer s H vs Q E hr h => ?_)
  · obtain ⟨r, fl, ss, M, n, rfl, _⟩ := h; rfl
  · obtain ⟨r, fl, ss, M, n, rfl, hR, hm, hC, hn, q⟩ := h
    refine ⟨_, (PSs.nox (pss_one (ps_ret (pe_dget (hu_of hr) (pe_ix (ixl (K := K) rfl) (c_best_left.pe hr (by rfl) (pa_cons (c_moves_of.pe hr (by rfl) (pa_cons (pv 0) pa_nil)) (pa_cons (pv 1) pa_nil))) (pv 1) (fun _ _ => rfl)) pe_str (fun _ _ => rfl))))), ?_⟩
    refine ⟨_, rfl, r, fl, ss, M, rfl, hR, hm, fun H2 d hd s2 hM => ?_⟩
    refine ⟨_, rfl, d, M, n, rfl, hM, hC, hn, fun H3 l s3 ⟨ds, hl, hlen, hds⟩ => ?_⟩
    obtain ⟨a, ha⟩ : ∃ a, ds[n]? = some a := ⟨ds[n], by simp [hlen]⟩
    have hg : DGet H3 a (kV (.inr (S []))) (some (.int (lf M n [] : Nat))) := by
      have hg := DGet.k (k := (.inr (S []) : Key)) (hds n a ha)
      rw [kA_map (lf M n) hC.nil] at hg
      exact hg
    rw [← S_nil] at hg
    exact ⟨_, rfl, l, _, _, _, rfl, rfl, lq hl, atI_nat (j := n) (map_at ha), a, _, rfl, hg, q _ (s2.trans s3)⟩
/-! ### the dearest message -/
theorem sit_rangeC (lo c : Int) (n : Nat) : Sit (Itc lo c n) n (fun i x => x = .int (lo + (i : Nat) * c)) (fun _ => True) where
  go := fun i H _ h => h
  st := fun i H _ h => h
  yl := fun i H x H' _ h y => y
theorem joinL_bits : ∀ l : Wd, TL.joinL [] (l.map fun b => [cd b]) = l.map cd
  | [] => rfl
  | [b] => rfl
  | b :: c :: r => by
    have := joinL_bits (c :: r)
    simp only [List.map_cons] at this ⊢
    unfold TL.joinL
    rw [this]; rfl
theorem join_bits (l : Wd) : Txt.join "" (l.map fun b => S [b]) = S l := by
  refine TL.ext_tl ?_
  rw [TL.join_eq, TL.tl_join, List.map_map, S_tl]
  have e : (TL.tl ∘ fun b => S [b]) = fun b => [cd b] := by funext b; exact S_tl [b]
  rw [e, show TL.tl ("" : Str) = [] by rw [S_nil, S_tl]; rfl]
  exact joinL_bits l
theorem bits_sum (l : Wd) : ((l.map fun b => S [b]).map (·.length)).sum = l.length := by
  induction l with
  | nil => rfl
  | cons b r ih =>
    simp only [List.map_cons, List.sum_cons, List.length_cons, ih, S_len]
    simp; omega
theorem at_01 (b : Bool) : atI ("01" : Str).cps.toList (if b then 1 else 0) = some (cd b) := by cases b <;> decide +kernel
abbrev s_dearest : Stmt := top 43
theorem sc_dearest : FnScope ["rule", "size", "moves", "rest", "left", "here", "found", "many", "there"] ["rule", "size"] (defScope s_dearest) := ⟨rfl, rfl, rfl, by decide +kernel, rfl, by decide +kernel, by decide +kernel⟩
-- slots: 0 rule, 1 size, 2 moves, 3 rest, 4 left, 5 here, 6 found, 7 many, 8 there
theorem ok_dearest {P : Program} {w : World} {K : PySem.W.Frag} {mg : Str → Option Value} {base : Heap} {f C : Addr} {fd : FuncData} (F : FnP K "dearest" "dearest" s_dearest [] f fd) (T : TX K mg C) (c_best_left : Cal P w K mg base 1 "best_left" ["moves", "size"] (sp_best_left K C)) (c_moves_of : Cal P w K mg base 5 "moves_of" ["rule"] (sp_moves_of K C)) : FnOk P w K mg base CX0 6 f fd ["rule", "size"] (sp_dearest K C) := by
  refine FunD.ok (k := 5) F sc_dearest (fun vs H Q E h => ?_) (fun cdv A outer s H vs Q E hr h => ?_)
  · obtain ⟨r, fl, ss, M, n, rfl, _⟩ := h; rfl
  · obtain ⟨r, fl, ss, M, n, rfl, hR, hm, hC, hn, q⟩ := h
    refine ⟨_, (PSs.nox (pss_cons (ps_set (i := 2) sc_dearest.nd rfl (by first | exact Or.inl rfl | exact Or.inr rfl) (c_moves_of.pe hr (by rfl) (pa_cons (pv 0) pa_nil)))
      (pss_cons (ps_par3 (i := 4) (j := 5) (l := 6) rfl sc_dearest.nd rfl rfl rfl (by decide) (by decide) (by decide) rfl rfl rfl (pa_cons (c_best_left.pe hr (by rfl) (pa_cons (pv 2) (pa_cons (pv 1) pa_nil))) (pa_cons pe_str (pa_cons (pe_lst pa_nil) pa_nil))) (by rfl))
      (pss_cons (ps_for PassesOwn.never rfl (pi_range3 rfl T.n_range (pa_cons (pe_op op_sub (pv 1) pe_int) (pa_cons (pe_un un_neg pe_int) (pa_cons (pe_un un_neg pe_int) pa_nil)))) (pg_name (i := 3) sc_dearest.nd rfl (by first | exact Or.inl rfl | exact Or.inr rfl)) (pss_cons (ps_asg (pe_ix (ixl (K := K) rfl) (pe_dget (hu_of hr) (pv 2) (pv 5) (fun _ _ => rfl)) pe_int (fun _ _ => rfl)) (pgt (K := K) (n := 2) rfl rfl (pgs_cons (pg_name (i := 7) sc_dearest.nd rfl (by first | exact Or.inl rfl | exact Or.inr rfl)) (pgs_cons (pg_name (i := 8) sc_dearest.nd rfl (by first | exact Or.inl rfl | exact Or.inr rfl)) pgs_nil))))
      (pss_cons (ps_if (pt_cmpR op_eq (pe_op op_add (pv 7) (pe_dget (hu_of hr) (pe_ix (ixl (K := K) rfl) (pv 4) (pv 3) (fun _ _ => rfl)) (pv 8) (fun _ _ => rfl))) (pe_dget (hu_of hr) (pe_ix (ixl (K := K) rfl) (pv 4) (pe_op op_add (pv 3) pe_int) (fun _ _ => rfl)) (pv 5) (fun _ _ => rfl)) (nomark _)) (pss_one (ps_expr (papp (K := K) rfl (pv 6) (pa_cons (pe_ix ix_str T.bits pe_int (fun _ _ => rfl)) pa_nil)))) (pss_cons (ps_expr (papp (K := K) rfl (pv 6) (pa_cons (pe_ix ix_str T.bits pe_int (fun _ _ => rfl)) pa_nil)))
      (pss_one (ps_asg (pe_ix (ixl (K := K) rfl) (pe_dget (hu_of hr) (pv 2) (pv 5) (fun _ _ => rfl)) pe_int (fun _ _ => rfl)) (pgt (K := K) (n := 2) rfl rfl (pgs_cons (pg_name (i := 7) sc_dearest.nd rfl (by first | exact Or.inl rfl | exact Or.inr rfl)) (pgs_cons (pg_name (i := 8) sc_dearest.nd rfl (by first | exact Or.inl rfl | exact Or.inr rfl)) pgs_nil)))))))
      (pss_one (ps_set (i := 5) sc_dearest.nd rfl (by first | exact Or.inl rfl | exact Or.inr rfl) (pv 8))))))
      (pss_one (ps_ret (pej (K := K) rfl pe_str (pv 6)))))))), ?_⟩
    refine ⟨_, rfl, r, fl, ss, M, rfl, hR, hm, fun H2 d hd s2 hM => ?_⟩
    refine ⟨_, rfl, _, rfl, d, M, n, rfl, hM, hC, hn, fun H3 l s3 ⟨ds, hl, hlen, hds⟩ => ?_⟩
    obtain ⟨kvs, hd3, hP3⟩ := hM.same s3
    refine ⟨by show 0 ≤ sizeLine; exact Nat.zero_le _, fun p hp => ⟨_, _, _, rfl, ?_⟩⟩
    have hRg : RgC ((n : Int) - 1) (-1) (-1) n := by
      have h := RgC.neg (i := (n : Int) - 1) (j := -1) (by omega) (by omega) (by decide) (by decide)
      rw [show ((n : Int) - 1 - (-1)).toNat = n by omega] at h
      exact h
    refine ⟨_, rfl, _, _, rfl, rfl, _, rfl, _, rfl, _, _, _, n, rfl, hRg, ?_⟩
    refine for_sit (sit_rangeC ((n : Int) - 1) (-1) n) (fun i σ H' => ∃ (here bits : Wd) (t3 t7 t8 : Option V), σ = [some (.ref r), some (.int n), some (.ref d), t3, some (.ref l), some (.str (S here)), some (.ref p), t7, t8] ∧ Same H3 H' ∧ H' p = some (.lst (bits.map Bt)) ∧ bits.length = i ∧ (look M here).isSome = true ∧ dr M n [] = bits ++ dr M (n - i) here) ?_ (fun _ _ _ _ _ => trivial) ?_ ?_
    · exact ⟨[], [], _, _, _, by rw [S_nil]; rfl, .new hp, upd_same, rfl, hC.nil, rfl⟩
    · rintro i x σ H' hi rfl ⟨here, bits, t3, t7, t8, rfl, s4, hp4, hbl, hlk, hdr⟩
      obtain ⟨⟨e0, e1⟩, hlook⟩ := Option.isSome_iff_exists.mp hlk
      have hmem := look_mem hlook
      have hsm := hC.sm _ hmem
      obtain ⟨j, hj⟩ : ∃ j, n = i + (j + 1) := ⟨n - i - 1, by omega⟩
      have hx : (n : Int) - 1 + (i : Nat) * (-1) = (j : Nat) := by omega
      have hni : n - i = j + 1 := by omega
      have hni2 : n - (i + 1) = j := by omega
      rw [hni] at hdr
      have hstep : dr M (j + 1) here = (if e0.1 + lf M j e0.2 = lf M (j + 1) here then false :: dr M j e0.2 else true :: dr M j e1.2) := by
        show (match look M here with | none => [] | some (e0, e1) => if e0.1 + lf M j e0.2 = lf M (j + 1) here then false :: dr M j e0.2 else true :: dr M j e1.2) = _
        rw [hlook]
      rw [hstep] at hdr
      obtain ⟨q0, p0, p1, r2, r3, r4, r5⟩ := look_some hP3 hlook
      obtain ⟨a0, ha0⟩ : ∃ a, ds[j]? = some a := ⟨ds[j]'(by omega), by simp⟩
      obtain ⟨a1, ha1⟩ : ∃ a, ds[j + 1]? = some a := ⟨ds[j + 1]'(by omega), by simp⟩
      have hg : DGet H' d (kV (.inr (S here))) (some (.ref q0)) := by
        have hg := DGet.k (k := (.inr (S here) : Key)) (s4 _ _ hd3)
        rw [r2] at hg; exact hg
      have hg0 : DGet H' a0 (kV (.inr (S e0.2))) (some (.int (lf M j e0.2 : Nat))) := by
        have hg := DGet.k (k := (.inr (S e0.2) : Key)) (s4 _ _ (hds j a0 ha0))
        rw [kA_map (lf M j) (hC.e0 _ hmem)] at hg; exact hg
      have hg1 : DGet H' a1 (kV (.inr (S here))) (some (.int (lf M (j + 1) here : Nat))) := by
        have hg := DGet.k (k := (.inr (S here) : Key)) (s4 _ _ (hds (j + 1) a1 ha1))
        rw [kA_map (lf M (j + 1)) hlk] at hg; exact hg
      refine ⟨_, rfl, _, rfl, d, _, rfl, hg, _, _, _, _, rfl, rfl, lq (s4 _ _ r3), atI_nat (j := 0) rfl, p0, _, rfl, tq (s4 _ _ r4), rfl, _, _, rfl, _, _, rfl, rfl, ?_⟩
      refine ⟨_, rfl, _, rfl, _, rfl, l, _, _, _, rfl, rfl, lq (s4 _ _ hl), by rw [hx]; exact atI_nat (j := j) (map_at ha0), _, rfl, a0, _, rfl, hg0, _, _, rfl, rfl, ?_⟩
      refine ⟨_, rfl, _, rfl, _, _, rfl, rfl, l, _, _, _, rfl, rfl, lq (s4 _ _ hl), by rw [hx]; exact atI_nat (j := j + 1) (map_at ha1), _, rfl, a1, _, rfl, hg1, rfl, _, rfl, ?_⟩
      have hpl : (bits.map Bt).length < sizeLine := by rw [List.length_map]; exact lt_sz (by omega)
      by_cases hc : e0.1 + lf M j e0.2 = lf M (j + 1) here
      · rw [show decide (V.int ((e0.1 : Int) + ((lf M j e0.2 : Nat) : Int)) = V.int ((lf M (j + 1) here : Nat) : Int)) = true by rw [decide_eq_true_eq]; congr 1; omega]
        rw [if_pos hc] at hdr
        refine ⟨_, rfl, .inl ⟨rfl, _, lq hp4⟩, _, _, _, rfl, rfl, by decide, at_01 false, p, _, _, rfl, rfl, hp4, hpl, _, rfl, ?_⟩
        refine ⟨e0.2, bits ++ [false], _, _, _, rfl, s4.mut hp, ?_, by simp [hbl], hC.e0 _ hmem, ?_⟩
        · rw [upd_same, List.map_append]; rfl
        · rw [hni2, hdr, List.append_assoc]; rfl
      · rw [show decide (V.int ((e0.1 : Int) + ((lf M j e0.2 : Nat) : Int)) = V.int ((lf M (j + 1) here : Nat) : Int)) = false by rw [decide_eq_false_iff_not]; intro z; injection z with z; exact hc (by omega)]
        rw [if_neg hc] at hdr
        have s5 : Same H3 (upd H' p (.lst (bits.map Bt ++ [Bt true]))) := s4.mut hp
        have hg' : DGet (upd H' p (.lst (bits.map Bt ++ [Bt true]))) d (kV (.inr (S here))) (some (.ref q0)) := by
          have hg := DGet.k (k := (.inr (S here) : Key)) (s5 _ _ hd3)
          rw [r2] at hg; exact hg
        refine ⟨_, rfl, .inl ⟨rfl, _, lq hp4⟩, _, _, _, rfl, rfl, by decide, at_01 true, p, _, _, rfl, rfl, hp4, hpl, ?_⟩
        refine ⟨_, rfl, _, rfl, d, _, rfl, hg', _, _, _, _, rfl, rfl, lq (s5 _ _ r3), atI_nat (j := 1) rfl, p1, _, rfl, tq (s5 _ _ r5), rfl, _, _, rfl, _, _, rfl, rfl, ?_⟩
        refine ⟨_, rfl, ?_⟩
        refine ⟨e1.2, bits ++ [true], _, _, _, rfl, s5, ?_, by simp [hbl], hC.e1 _ hmem, ?_⟩
        · rw [upd_same, List.map_append]; rfl
        · rw [hni2, hdr, List.append_assoc]; rfl
    · rintro σ H' ⟨here, bits, t3, t7, t8, rfl, s4, hp4, hbl, hlk, hdr⟩
      rw [Nat.sub_self] at hdr
      have hb : dr M n [] = bits := by rw [hdr]; exact List.append_nil _
      refine ⟨⟨_, rfl⟩, _, rfl, _, p, bits.map (fun b => S [b]), rfl, rfl, .inl (lq ?_), ?_, ?_⟩
      · rw [hp4, List.map_map]; rfl
      · rw [bits_sum, List.length_map]
        have : ("" : Str).length = 0 := by rw [S_nil, S_len]; rfl
        rw [this]; omega
      · rw [join_bits, ← hb]
        exact q _ ((s2.trans s3).trans s4)
end UF
set_option maxHeartbeats 4000000
namespace UF
open PySem PySem.Spec PyProof.Rows L2
/-! ### the greatest -/
theorem putK_neg {p : Key × V} {r : List (Key × V)} {k : Key} {v : V} (e : ¬ p.1 = k) : putK (p :: r) k v = p :: putK r k v := by
  unfold putK
  rw [List.any_cons, decide_eq_false e, Bool.false_or]
  split
  · rw [List.map_cons, if_neg e]
  · rfl
theorem putK_pos {p : Key × V} {r : List (Key × V)} {k : Key} {v : V} (e : p.1 = k) (h : valV r k = none) : putK (p :: r) k v = (p.1, v) :: r := by
  unfold putK
  rw [List.any_cons, decide_eq_true e, Bool.true_or, if_pos rfl, List.map_cons, if_pos e]
  congr 1
  have hn : ∀ x ∈ r, ¬ x.1 = k := fun x hx z => by
    have : (r.any fun kv => decide (kv.1 = k)) = true := List.any_eq_true.mpr ⟨x, hx, decide_eq_true z⟩
    rw [valV_any, h] at this; cases this
  clear h
  induction r with
  | nil => rfl
  | cons a r ih =>
    rw [List.map_cons, if_neg (hn a (List.mem_cons_self ..)), ih fun x hx => hn x (List.mem_cons_of_mem _ hx)]
theorem kA_up {x : Wd} {v : Nat} : ∀ {al : AL}, (al.map (·.1)).Nodup → putK (kA al) (.inr (S x)) (.int ((mx ((getA al x).getD 0) v : Nat) : Int)) = kA (upA al x v)
  | [], _ => by
    unfold getA upA
    rw [mx_eq, show (none : Option Nat).getD 0 = 0 from rfl, Nat.zero_max]; rfl
  | (k, u) :: r, nd => by
    have nd' := List.nodup_cons.mp nd
    unfold getA upA
    show putK ((.inr (S k), .int u) :: kA r) _ _ = _
    cases h : weq k x with
    | true =>
      have e := weq_eq.mp h
      subst e
      rw [putK_pos rfl (by rw [kA_get, getA_none nd'.1]; rfl)]
      show (_, V.int ((mx u v : Nat) : Int)) :: kA r = _
      unfold mx
      cases h2 : Nat.ble v u with
      | true => rfl
      | false => rfl
    | false =>
      have hn : ¬ ((.inr (S k), V.int u) : Key × V).1 = (.inr (S x) : Key) := fun z => by
        have : k = x := S_inj (Sum.inr.inj z)
        rw [this, weq_self] at h; cases h
      rw [putK_neg hn]
      show _ :: putK (kA r) _ (V.int ((mx ((getA r x).getD 0) v : Nat) : Int)) = _
      rw [kA_up nd'.2]; rfl
theorem upA_keys (x : Wd) (v : Nat) : ∀ al : AL, (upA al x v).map (·.1) = if x ∈ al.map (·.1) then al.map (·.1) else al.map (·.1) ++ [x]
  | [] => rfl
  | (k, u) :: r => by
    unfold upA
    cases h : weq k x with
    | true =>
      have e := weq_eq.mp h
      subst e
      have hm : k ∈ ((k, u) :: r).map (·.1) := List.mem_cons_self ..
      rw [if_pos hm]
      cases h2 : Nat.ble v u with
      | true => rfl
      | false => rfl
    | false =>
      have hn : ¬ x = k := fun z => by rw [z, weq_self] at h; cases h
      show k :: (upA r x v).map (·.1) = if x ∈ k :: r.map (·.1) then k :: r.map (·.1) else k :: r.map (·.1) ++ [x]
      rw [upA_keys x v r]
      by_cases hx : x ∈ r.map (·.1)
      · rw [if_pos hx, if_pos (List.mem_cons_of_mem _ hx)]
      · have : ¬ x ∈ k :: r.map (·.1) := fun q => (List.mem_cons.mp q).elim hn hx
        rw [if_neg hx, if_neg this]; rfl
structure OkA (M : Mvs) (al : AL) : Prop where
  nd : (al.map (·.1)).Nodup
  lk : ∀ p ∈ al, (look M p.1).isSome = true
theorem OkA.up {M : Mvs} {al : AL} {x : Wd} (h : OkA M al) (hx : (look M x).isSome = true) (v : Nat) : OkA M (upA al x v) where
  nd := by
    rw [upA_keys]
    split
    · exact h.nd
    · rename_i hn
      exact List.nodup_append.mpr ⟨h.nd, by simp, fun a ha b hb => by rw [List.mem_singleton.mp hb]; intro z; exact hn (z ▸ ha)⟩
  lk := fun p hp => by
    have h1 : p.1 ∈ (upA al x v).map (·.1) := List.mem_map.mpr ⟨p, hp, rfl⟩
    rw [upA_keys] at h1
    have h2 : p.1 ∈ al.map (·.1) ∨ p.1 = x := by
      split at h1
      · exact .inl h1
      · rcases List.mem_append.mp h1 with z | z
        · exact .inl z
        · exact .inr (List.mem_singleton.mp z)
    rcases h2 with z | z
    · obtain ⟨p', hp', e⟩ := List.mem_map.mp z
      rw [← e]; exact h.lk p' hp'
    · rw [z]; exact hx
theorem nodup_le {α : Type} [DecidableEq α] : ∀ {l m : List α}, l.Nodup → (∀ x ∈ l, x ∈ m) → l.length ≤ m.length
  | [], m, _, _ => Nat.zero_le _
  | x :: l, m, nd, h => by
    have nd' := List.nodup_cons.mp nd
    have hx := h x (List.mem_cons_self ..)
    have := nodup_le (l := l) (m := m.erase x) nd'.2 fun y hy => by
      have hne : y ≠ x := fun z => nd'.1 (z ▸ hy)
      exact (List.mem_erase_of_ne hne).mpr (h y (List.mem_cons_of_mem _ hy))
    rw [List.length_erase_of_mem hx] at this
    have hp := List.length_pos_of_mem hx
    simp only [List.length_cons]; omega
theorem OkA.len {M : Mvs} {al : AL} (h : OkA M al) : al.length ≤ M.length := by
  have := nodup_le (l := al.map (·.1)) (m := keys M) h.nd fun x hx => by
    obtain ⟨p, hp, rfl⟩ := List.mem_map.mp hx
    obtain ⟨e, he⟩ := Option.isSome_iff_exists.mp (h.lk p hp)
    exact List.mem_map.mpr ⟨_, look_mem he, rfl⟩
  unfold keys at this
  rw [List.length_map, List.length_map] at this
  exact this
theorem stepW_app (M : Mvs) : ∀ (l : AL) (p : Wd × Nat) (acc : AL), stepW M (l ++ [p]) acc = stepW1 M (stepW M l acc) p
  | [], _, _ => rfl
  | a :: l, p, acc => by
    show stepW M (l ++ [p]) (stepW1 M acc a) = _
    rw [stepW_app M l p]; rfl
theorem OkA.step1 {M : Mvs} (hC : Clo M) {al : AL} (h : OkA M al) {p : Wd × Nat} : OkA M (stepW1 M al p) := by
  unfold stepW1
  cases e : look M p.1 with
  | none => exact h
  | some ee =>
    obtain ⟨e0, e1⟩ := ee
    have hm := look_mem e
    exact (h.up (hC.e0 _ hm) _).up (hC.e1 _ hm) _
theorem OkA.step {M : Mvs} (hC : Clo M) : ∀ {l al : AL}, OkA M al → OkA M (stepW M l al)
  | [], _, h => h
  | p :: l, al, h => OkA.step hC (l := l) (h.step1 hC)
theorem OkA.nil {M : Mvs} : OkA M [] := ⟨List.nodup_nil, fun p h => by cases h⟩
theorem for_items {d : Addr} {o : Obj} {kvs : List (Key × V)} {g : TG} {tb : TS} {D : Ends} {σ : Sg} {H : Hp} (Pv : Nat → Sg → Hp → Prop) (h0 : Pv 0 σ H) (hl : ∀ i σ H, i ≤ kvs.length → Pv i σ H → H d = some (.frz o (.dK kvs)))
    (hs : ∀ i k v σ H T, kvs[i]? = some (k, v) → Pv i σ H → H T = none → g (.ref T) σ (upd H T (.tup [kV k, v])) fun σ2 H2 => tb { D with nx := Pv (i + 1), ct := Pv (i + 1), bk := D.nx } σ2 H2) (hd : ∀ σ H, Pv kvs.length σ H → D.nx σ H) :
    ∃ W : Nat → Nat → Sg → Hp → Prop, (∃ m, W 0 m σ H) ∧ ∀ i m σ H, W i m σ H →
      ((Iti d o kvs).stop i H ∧ D.nx σ H) ∨ ((Iti d o kvs).go i H ∧ ∃ N : Sg → Hp → Prop, (∀ σ' H', N σ' H' → ∃ m', m' < m ∧ W (i + 1) m' σ' H') ∧ ∀ x H', (Iti d o kvs).yld i H x H' → g x σ H' fun σ2 H2 => tb { D with nx := N, ct := N, bk := D.nx } σ2 H2) := by
  refine ⟨fun i m σ H => m = kvs.length - i ∧ i ≤ kvs.length ∧ Pv i σ H, ⟨kvs.length, by simp, Nat.zero_le _, h0⟩, ?_⟩
  rintro i m σ H ⟨rfl, hi, p⟩
  have q := hl i σ H hi p
  by_cases hlt : i < kvs.length
  · refine .inr ⟨⟨q, hlt⟩, Pv (i + 1), fun σ' H' p' => ⟨kvs.length - (i + 1), by omega, rfl, hlt, p'⟩, fun x H' y => ?_⟩
    obtain ⟨T, k, v, e, rfl, hT, rfl⟩ := y
    exact hs i k v σ _ T e p hT
  · have e : i = kvs.length := by omega
    subst e
    exact .inl ⟨⟨q, Nat.le_refl _⟩, hd σ H p⟩
theorem kA_at {al : AL} {i : Nat} {k : Key} {v : V} (h : (kA al)[i]? = some (k, v)) : ∃ x n, al[i]? = some (x, n) ∧ k = .inr (S x) ∧ v = .int (n : Nat) := by
  obtain ⟨⟨x, n⟩, h1, h2⟩ := map_get h
  cases h2
  exact ⟨x, n, h1, rfl, rfl⟩
theorem paired_snoc {α β : Type} {R : α → β → Prop} {l : List α} {m : List β} {x : α} {y : β} (h : Paired R l m) (r : R x y) : Paired R (l ++ [x]) (m ++ [y]) := paired_app h (paired_one r)
abbrev s_walks : Stmt := top 44
theorem sc_walks : FnScope ["moves", "found", "turn", "later", "here", "whole", "many", "there"] ["moves"] (defScope s_walks) := ⟨rfl, rfl, rfl, by decide +kernel, rfl, by decide +kernel, by decide +kernel⟩
-- slots: 0 moves, 1 found, 2 turn, 3 later, 4 here, 5 whole, 6 many, 7 there
theorem ok_walks {P : Program} {w : World} {K : PySem.W.Frag} {mg : Str → Option Value} {base : Heap} {f C : Addr} {fd : FuncData} (F : FnP K "walks" "walks" s_walks [] f fd) (T : TX K mg C)  : FnOk P w K mg base CX0 1 f fd ["moves"] (sp_walks K C) := by
  refine FunD.ok (k := 0) F sc_walks (fun vs H Q E h => ?_) (fun cdv A outer s H vs Q E hr h => ?_)
  · obtain ⟨d, M, rfl, _⟩ := h; rfl
  · obtain ⟨d, M, rfl, ⟨kvs, hd0, hP0⟩, hC, q⟩ := h
    have hML := hC.len
    have hkl : kvs.length = M.length := Paired.length hP0
    refine ⟨_, (PSs.nox (pss_cons (ps_set (i := 1) sc_walks.nd rfl (by first | exact Or.inl rfl | exact Or.inr rfl) (pe_lst (pa_cons (pe_disp (pps_cons pe_str pe_int pps_nil) (by rfl) (by rfl) (fun z => by cases z) (by decide)) pa_nil)))
      (pss_cons (ps_for PassesOwn.never rfl (pi_range1 rfl T.n_range (pa_cons (pe_callB call_lenD (by rfl) T.n_len (by decide +kernel) (pa_cons (pv 0) pa_nil)) pa_nil)) (pg_name (i := 2) sc_walks.nd rfl (by first | exact Or.inl rfl | exact Or.inr rfl)) (pss_cons (ps_set (i := 3) sc_walks.nd rfl (by first | exact Or.inl rfl | exact Or.inr rfl) pe_dnewK)
      (pss_cons (ps_lock (ps_for PassesOwn.never rfl (pi_items (pe_ix (ixl (K := K) rfl) (pv 1) (pe_un un_neg pe_int) (fun _ _ => rfl))) (pgt (K := K) (n := 2) rfl rfl (pgs_cons (pg_name (i := 4) sc_walks.nd rfl (by first | exact Or.inl rfl | exact Or.inr rfl)) (pgs_cons (pg_name (i := 5) sc_walks.nd rfl (by first | exact Or.inl rfl | exact Or.inr rfl)) pgs_nil))) (pss_one (ps_for PassesOwn.never rfl (pil (K := K) rfl (pe_dget (hu_of hr) (pv 0) (pv 4) (fun _ _ => rfl))) (pgt (K := K) (n := 2) rfl rfl (pgs_cons (pg_name (i := 6) sc_walks.nd rfl (by first | exact Or.inl rfl | exact Or.inr rfl)) (pgs_cons (pg_name (i := 7) sc_walks.nd rfl (by first | exact Or.inl rfl | exact Or.inr rfl)) pgs_nil))) (pss_one (ps_dput (hu_of hr) (pv 3) (pv 7) (pe_callB (call_max2 rfl) (by rfl) T.n_max (by decide +kernel) (pa_cons (pe_callTy call_int1 (by rfl) T.n_int (by decide +kernel) (pa_cons (pget (hu_of hr) (pv 3) (pv 7) pe_int) pa_nil)) (pa_cons (pe_callTy call_int1 (by rfl) T.n_int (by decide +kernel) (pa_cons (pe_op op_add (pv 5) (pv 6)) pa_nil)) pa_nil))) rfl))))))
      (pss_one (ps_expr (papp (K := K) rfl (pv 1) (pa_cons (pv 3) pa_nil)))))))
      (pss_one (ps_ret (pv 1)))))), ?_⟩
    refine fun a0 ha0 => ⟨by rw [upd_same], [((.inr (S []) : Key), V.int 0)], by rw [S_nil]; rfl, by simp, by show 1 ≤ sizeLine; decide, fun l hl => ?_⟩
    have nl0 : l ≠ a0 := fun e => by rw [e, upd_same] at hl; cases hl
    have hlH : H l = none := by rw [upd_ne nl0, upd_ne nl0] at hl; exact hl
    have s0 : Same H (upd (upd (upd H a0 (.dK [])) a0 (.dK (mergeK [] [((.inr (S []) : Key), V.int 0)]))) l (.lst [.ref a0])) := ((Same.new ha0).mut ha0).mut hlH
    refine ⟨_, rfl, d, kvs, rfl, s0 _ _ hd0, (kvs.length : Int), rfl, by omega, by omega, ?_⟩
    refine for_sit (sit_range 0 kvs.length) (fun i σ H' => ∃ (ds : List Addr) (wl : List AL) (t2 t3 t4 t5 t6 t7 : Option V), σ = [some (.ref d), some (.ref l), t2, t3, t4, t5, t6, t7] ∧ Same H H' ∧ H' l = some (.lst (ds.map V.ref)) ∧ (∀ a ∈ ds, H a = none) ∧ Paired (AlA (off H' l)) ds wl.reverse ∧ wks M M.length [[([], 0)]] = wks M (M.length - i) wl ∧ wl.length = i + 1 ∧ ∀ al ∈ wl, OkA M al) ?_ (fun _ _ _ _ _ => trivial) ?_ ?_
    · refine ⟨[a0], [[([], 0)]], _, _, _, _, _, _, rfl, s0, upd_same, fun a h => by rw [List.mem_singleton.mp h]; exact ha0, paired_one ?_, rfl, rfl, ?_⟩
      · show off _ l a0 = _
        rw [off_ne (Ne.symm nl0), upd_ne (Ne.symm nl0), upd_same]; rfl
      · intro al h
        rw [List.mem_singleton.mp h]
        exact ⟨by simp, fun p hp => by rw [List.mem_singleton.mp hp]; exact hC.nil⟩
    · rintro i x σ H' hi rfl ⟨ds, wl, t2, t3, t4, t5, t6, t7, rfl, s1, hl1, hfr, hds, hw, hwl, hok⟩
      cases wl with
      | nil => cases hwl
      | cons cur rest =>
      have hrl : rest.length = i := by simpa using hwl
      have hcur := hok cur (List.mem_cons_self ..)
      have hcl := hcur.len
      have hgc : (cur :: rest).reverse[i]? = some cur := by rw [List.reverse_cons, List.getElem?_append_right (by simp [hrl])]; simp [hrl]
      obtain ⟨a, ha, hA⟩ := paired_get' hds hgc
      have hdl : ds.length = i + 1 := by rw [Paired.length hds]; simp [hrl]
      have hla : atI (ds.map V.ref) (-1) = some (.ref a) := by
        have e : ds = ds.take i ++ [a] := by rw [← take_snoc ha, ← hdl, List.take_length]
        rw [e, List.map_append]; exact atI_last _ _
      refine fun L hL => ?_
      have hAH : H' a = some (.dK (kA cur)) := off_same _ _ hA
      have nLa : a ≠ L := fun z => by rw [z, hL] at hAH; cases hAH
      have hfa := hfr a (List.mem_of_getElem? ha)
      have nad : d ≠ a := fun z => by rw [← z, hd0] at hfa; cases hfa
      have nla : l ≠ a := fun z => by rw [z, hAH] at hl1; cases hl1
      have nlL : l ≠ L := fun z => by rw [z, hL] at hl1; cases hl1
      have hd1 := s1 _ _ hd0
      refine ⟨a, .dK (kA cur), by rw [upd_ne nLa]; exact hAH, trivial, fun od => ?_⟩
      refine ⟨_, rfl, _, rfl, _, _, _, _, rfl, rfl, lq ?_, hla, a, od, kA cur, rfl, upd_same, ?_⟩
      · rw [upd_ne nla, upd_ne nlL]; exact hl1
      have hHL : Same (upd H' a (.frz od (.dK (kA cur)))) (upd (upd H' L (.dK [])) a (.frz od (.dK (kA cur)))) := fun b ob e => by
        by_cases hb : b = a
        · rw [hb, upd_same] at e ⊢; exact e
        · rw [upd_ne hb] at e ⊢
          exact Same.new hL _ _ e
      have hLL : upd H' a (.frz od (.dK (kA cur))) L = none := by rw [upd_ne (Ne.symm nLa)]; exact hL
      have hPd : Paired (MvE (upd H' a (.frz od (.dK (kA cur))))) kvs M := Paired.mapP hP0 fun _ _ e => MvE.upd hAH (e.same s1)
      have hdL : upd H' a (.frz od (.dK (kA cur))) d = some (.dK kvs) := by rw [upd_ne nad]; exact hd1
      refine for_items (kvs := kA cur) (fun j σ Hc => ∃ (t2 t4 t5 t6 t7 : Option V), σ = [some (.ref d), some (.ref l), t2, some (.ref L), t4, t5, t6, t7] ∧ Same (upd H' a (.frz od (.dK (kA cur)))) Hc ∧ Hc L = some (.dK (kA (stepW M (cur.take j) [])))) ?_ ?_ ?_ ?_
      · exact ⟨_, _, _, _, _, rfl, hHL, by rw [upd_ne (Ne.symm nLa), upd_same]; rfl⟩
      · rintro j σ Hc _ ⟨t2, t4, t5, t6, t7, rfl, s2, hL2⟩
        exact s2 _ _ upd_same
      · rintro j k v σ Hc T' hkv ⟨t2, t4, t5, t6, t7, rfl, s2, hL2⟩ hT'
        obtain ⟨here, whole, hcj, rfl, rfl⟩ := kA_at hkv
        have hlk := hcur.lk _ (List.mem_of_getElem? hcj)
        obtain ⟨⟨e0, e1⟩, hlook⟩ := Option.isSome_iff_exists.mp hlk
        have hmem := look_mem hlook
        obtain ⟨q0, p0, p1, r2, r3, r4, r5⟩ := look_some hPd hlook
        have s3 : Same (upd H' a (.frz od (.dK (kA cur)))) (upd Hc T' (.tup [.str (S here), .int (whole : Nat)])) := s2.trans (.new hT')
        have nTL : L ≠ T' := fun z => by rw [z, hT'] at hL2; cases hL2
        have hok2 : OkA M (stepW M (cur.take j) []) := OkA.step hC .nil
        have hg : DGet (upd Hc T' (.tup [.str (S here), .int (whole : Nat)])) d (kV (.inr (S here))) (some (.ref q0)) := by
          have hg := DGet.k (k := (.inr (S here) : Key)) (s3 _ _ hdL)
          rw [r2] at hg; exact hg
        refine ⟨T', _, rfl, tq upd_same, rfl, _, _, rfl, _, _, rfl, rfl, ?_⟩
        refine ⟨_, rfl, _, rfl, d, _, rfl, hg, q0, rfl, ⟨_, lq (s3 _ _ r3)⟩, ?_⟩
        refine for_sit (sit_list [V.ref p0, V.ref p1]) (fun t σ H3 => ∃ (t2 t6 t7 : Option V), σ = [some (.ref d), some (.ref l), t2, some (.ref L), some (.str (S here)), some (.int (whole : Nat)), t6, t7] ∧ Same (upd H' a (.frz od (.dK (kA cur)))) H3 ∧ H3 L = some (.dK (kA (([e0, e1].take t).foldl (fun al e => rlx al whole e) (stepW M (cur.take j) [])))) ∧ OkA M (([e0, e1].take t).foldl (fun al e => rlx al whole e) (stepW M (cur.take j) []))) ?_ (fun _ _ _ _ h => ?_) ?_ ?_
        · exact ⟨_, _, _, rfl, s3, by rw [upd_ne nTL]; exact hL2, hok2⟩
        · obtain ⟨_, _, _, _, s4, _⟩ := h
          exact lq (s4 _ _ r3)
        · rintro t x σ H3 ht hx ⟨t2, t6, t7, rfl, s4, hL4, hok4⟩
          have ht2 : t < 2 := ht
          have key : ∃ pj ej, x = V.ref pj ∧ EgA H3 pj ej ∧ [e0, e1][t]? = some ej ∧ (look M ej.2).isSome = true := by
            match t, ht2 with
            | 0, _ => simp at hx; exact ⟨p0, e0, hx.symm, s4 _ _ r4, rfl, hC.e0 _ hmem⟩
            | 1, _ => simp at hx; exact ⟨p1, e1, hx.symm, s4 _ _ r5, rfl, hC.e1 _ hmem⟩
          obtain ⟨pj, ej, rfl, hej, hgj, hlk4⟩ := key
          refine ⟨pj, _, rfl, tq hej, rfl, _, _, rfl, _, _, rfl, rfl, ?_⟩
          have hfold : ([e0, e1].take (t + 1)).foldl (fun al e => rlx al whole e) (stepW M (cur.take j) []) = rlx (([e0, e1].take t).foldl (fun al e => rlx al whole e) (stepW M (cur.take j) [])) whole ej := by
            rw [take_snoc hgj, List.foldl_append]; rfl
          rw [hfold]
          generalize ([e0, e1].take t).foldl (fun al e => rlx al whole e) (stepW M (cur.take j) []) = al at hL4 hok4
          have hgl := DGet.k (k := (.inr (S ej.2) : Key)) hL4
          rw [kA_get] at hgl
          have hod : ((getA al ej.2).map fun n => V.int (n : Nat)).getD (V.int 0) = V.int (((getA al ej.2).getD 0 : Nat) : Int) := by cases getA al ej.2 <;> rfl
          refine ⟨_, rfl, L, rfl, .inl ⟨_, .inl hL4⟩, _, rfl, _, hgl, .inl ⟨_, congrArg (fun z => [z]) hod, _, rfl, _, rfl, _, _, rfl, rfl, .inl ⟨_, rfl, _, _, rfl, ?_⟩⟩⟩
          have hmx : (if (whole : Int) + (ej.1 : Int) > (((getA al ej.2).getD 0 : Nat) : Int) then (whole : Int) + (ej.1 : Int) else (((getA al ej.2).getD 0 : Nat) : Int)) = ((mx ((getA al ej.2).getD 0) (whole + ej.1) : Nat) : Int) := by
            rw [mx_eq]; split <;> omega
          rw [hmx]
          have hl5 := hok4.len
          refine ⟨_, rfl, _, rfl, L, _, rfl, DPut.k (k := .inr (S ej.2)) hL4 (by rw [kA_len]; exact lt_sz (by omega)), ?_⟩
          rw [kA_up hok4.nd]
          exact ⟨_, _, _, rfl, s4.mut hLL, upd_same, hok4.up hlk4 _⟩
        · rintro σ H3 ⟨t2, t6, t7, rfl, s4, hL4, hok4⟩
          refine ⟨_, _, _, _, _, rfl, s4, ?_⟩
          rw [hL4, take_snoc hcj, stepW_app]
          unfold stepW1
          rw [hlook]; rfl
      · rintro σ Hc ⟨t2, t4, t5, t6, t7, rfl, s2, hL2⟩
        rw [kA_len, List.take_length] at hL2
        have hal := s2 _ _ upd_same
        have sU := same_unlock hAH s2
        have hlU := sU _ _ hl1
        refine ⟨hal, ?_⟩
        refine ⟨_, rfl, .inl ⟨rfl, _, lq hlU⟩, _, rfl, l, _, _, rfl, rfl, hlU, by rw [List.length_map]; exact lt_sz (by omega), ?_⟩
        refine ⟨ds ++ [L], stepW M cur [] :: cur :: rest, _, _, _, _, _, _, rfl, (s1.trans sU).mut hlH, by rw [upd_same, List.map_append]; rfl, ?_, ?_, ?_, by simp [hrl], ?_⟩
        · intro a' ha'
          rcases List.mem_append.mp ha' with h | h
          · exact hfr a' h
          · rw [List.mem_singleton.mp h]; exact s1.free hL
        · rw [List.reverse_cons, off_upd]
          refine paired_snoc (Paired.mapP hds fun _ _ e => off_mono sU _ _ e) ?_
          show off _ l L = _
          rw [off_ne (Ne.symm nlL), upd_ne (Ne.symm nLa)]; exact hL2
        · rw [hw, show M.length - i = (M.length - (i + 1)) + 1 by omega]; rfl
        · intro al h
          rcases List.mem_cons.mp h with rfl | h
          · exact OkA.step hC .nil
          · exact hok al h
    · rintro σ H' ⟨ds, wl, t2, t3, t4, t5, t6, t7, rfl, s1, hl1, hfr, hds, hw, hwl, hok⟩
      rw [hkl, Nat.sub_self] at hw
      refine ⟨_, rfl, q H' l ds s1 hl1 ?_⟩
      rw [hw]
      exact Paired.mapP hds fun _ _ e => off_same _ _ e
end UF
set_option maxHeartbeats 4000000
namespace UF
open PySem PySem.Spec PyProof.Rows L2
theorem ilt_iff (i j : Int) : ilt i j = decide (i < j) := by
  unfold ilt
  cases h : i - j with
  | ofNat n => have : ¬ i < j := by rw [show Int.ofNat n = (n : Int) from rfl] at h; omega
               rw [decide_eq_false this]
  | negSucc n => have : i < j := by have := Int.negSucc_lt_zero n; omega
                 rw [decide_eq_true this]
theorem lst1_or (f v : Int × Int) : lst1 f v = v ∨ lst1 f v = f := by
  unfold lst1
  cases ilt (v.1 * f.2) (f.1 * v.2) with
  | true => exact .inl rfl
  | false => exact .inr rfl
theorem fold_lst1 {P : Int × Int → Prop} : ∀ {l : List (Int × Int)} {f : Int × Int}, P f → (∀ v ∈ l, P v) → P (l.foldl lst1 f)
  | [], _, h, _ => h
  | v :: r, f, h, hv => by
    refine fold_lst1 (l := r) (f := lst1 f v) ?_ fun x hx => hv x (List.mem_cons_of_mem _ hx)
    rcases lst1_or f v with e | e
    · rw [e]; exact hv v (List.mem_cons_self ..)
    · rw [e]; exact h
theorem leastOf_P {P : Int × Int → Prop} {l : List (Int × Int)} (h : l ≠ []) (hv : ∀ v ∈ l, P v) : P (leastOf l) := by
  cases l with
  | nil => exact absurd rfl h
  | cons f r => exact fold_lst1 (l := f :: r) (hv f (List.mem_cons_self ..)) hv
theorem cmR {i j : Int} (h : 0 < j) (h2 : j < 1000000) : CMul i j := .inr ⟨by omega, by omega⟩
theorem cmL {i j : Int} (h : 0 < i) (h2 : i < 1000000) : CMul i j := .inl ⟨by omega, by omega⟩
abbrev s_least_of : Stmt := top 45
theorem sc_least_of : FnScope ["values", "found", "p", "q"] ["values"] (defScope s_least_of) := ⟨rfl, rfl, rfl, by decide +kernel, rfl, by decide +kernel, by decide +kernel⟩
-- slots: 0 values, 1 found, 2 p, 3 q
theorem ok_least_of {P : Program} {w : World} {K : PySem.W.Frag} {mg : Str → Option Value} {base : Heap} {f C : Addr} {fd : FuncData} (F : FnP K "least_of" "least_of" s_least_of [] f fd) (T : TX K mg C)  : FnOk P w K mg base CX0 1 f fd ["values"] (sp_least_of K C) := by
  refine FunD.ok (k := 0) F sc_least_of (fun vs H Q E h => ?_) (fun cdv A outer s H vs Q E hr h => ?_)
  · obtain ⟨l, as, ps, rfl, _⟩ := h; rfl
  · obtain ⟨l, as, ps, rfl, hl, hP, hne, hb, q⟩ := h
    cases ps with
    | nil => exact absurd rfl hne
    | cons f r =>
    obtain ⟨a0, ha0, hA0⟩ := paired_get' (i := 0) hP rfl
    refine ⟨_, (PSs.nox (pss_cons (ps_set (i := 1) sc_least_of.nd rfl (by first | exact Or.inl rfl | exact Or.inr rfl) (pe_ix (ixl (K := K) rfl) (pv 0) pe_int (fun _ _ => rfl)))
      (pss_cons (ps_for PassesOwn.never rfl (pil (K := K) rfl (pv 0)) (pgt (K := K) (n := 2) rfl rfl (pgs_cons (pg_name (i := 2) sc_least_of.nd rfl (by first | exact Or.inl rfl | exact Or.inr rfl)) (pgs_cons (pg_name (i := 3) sc_least_of.nd rfl (by first | exact Or.inl rfl | exact Or.inr rfl)) pgs_nil))) (pss_one (ps_if (pt_cmpR op_lt (pe_op op_mul (pv 2) (pe_ix (ixt (K := K) rfl) (pv 1) pe_int (fun _ _ => rfl))) (pe_op op_mul (pe_ix (ixt (K := K) rfl) (pv 1) pe_int (fun _ _ => rfl)) (pv 3)) (nomark _)) (pss_one (ps_set (i := 1) sc_least_of.nd rfl (by first | exact Or.inl rfl | exact Or.inr rfl) (pe_tup (pa_cons (pv 2) (pa_cons (pv 3) pa_nil))))) pss_nil)))
      (pss_one (ps_ret (pv 1)))))), ?_⟩
    refine ⟨_, rfl, l, _, _, _, rfl, rfl, lq hl, atI_nat (j := 0) (map_at ha0), ?_⟩
    refine ⟨_, rfl, l, rfl, ⟨_, lq hl⟩, ?_⟩
    refine for_sit (sit_list (as.map V.ref)) (fun i σ H' => ∃ (af : Addr) (t2 t3 : Option V), σ = [some (.ref l), some (.ref af), t2, t3] ∧ Same H H' ∧ PrA H' af (((f :: r).take i).foldl lst1 f)) ⟨a0, _, _, rfl, .refl _, hA0⟩ (fun i σ H' _ h => ?_) ?_ ?_
    · obtain ⟨_, _, _, _, s, _⟩ := h; exact lq (s _ _ hl)
    · rintro i x σ H' hi hx ⟨af, t2, t3, rfl, s, hf⟩
      obtain ⟨a, ha, rfl⟩ := map_get hx
      obtain ⟨v, hv, hA⟩ := paired_get hP ha
      have hbv := hb v (List.mem_of_getElem? hv)
      have hbf : 0 < (((f :: r).take i).foldl lst1 f).2 ∧ (((f :: r).take i).foldl lst1 f).2 < 1000 := fold_lst1 (P := fun v => 0 < v.2 ∧ v.2 < 1000) (hb f (List.mem_cons_self ..)) fun v hv => hb v (List.mem_of_mem_take hv)
      have hfold : ((f :: r).take (i + 1)).foldl lst1 f = lst1 (((f :: r).take i).foldl lst1 f) v := by rw [take_snoc hv, List.foldl_append]; rfl
      rw [hfold]
      generalize ((f :: r).take i).foldl lst1 f = g at hf hbf
      refine ⟨a, _, rfl, tq (s _ _ hA), rfl, _, _, rfl, _, _, rfl, rfl, ?_⟩
      refine ⟨_, rfl, _, rfl, _, _, _, _, rfl, rfl, tq hf, atI_nat (j := 1) rfl, _, _, rfl, rfl, cmR hbf.1 (by omega), ?_⟩
      refine ⟨_, rfl, _, _, _, _, rfl, rfl, tq hf, atI_nat (j := 0) rfl, _, rfl, _, _, rfl, rfl, cmR hbv.1 (by omega), ?_⟩
      unfold lst1
      rw [ilt_iff]
      refine ⟨_, _, rfl, rfl, _, rfl, ?_⟩
      by_cases hc : v.1 * g.2 < g.1 * v.2
      · rw [decide_eq_true hc]
        refine ⟨_, rfl, _, rfl, by show 2 ≤ sizeLine; decide, fun p hp => ?_⟩
        exact ⟨p, _, _, rfl, s.trans (.new hp), upd_same⟩
      · rw [decide_eq_false hc]
        exact ⟨af, _, _, rfl, s, hf⟩
    · rintro σ H' ⟨af, t2, t3, rfl, s, hf⟩
      refine ⟨_, rfl, q _ af s ?_⟩
      rw [List.length_map, Paired.length hP, List.take_length] at hf
      exact hf
abbrev s_is_at_most : Stmt := top 47
theorem sc_is_at_most : FnScope ["one", "two"] ["one", "two"] (defScope s_is_at_most) := ⟨rfl, rfl, rfl, by decide +kernel, rfl, by decide +kernel, by decide +kernel⟩
-- slots: 0 one, 1 two
theorem ok_is_at_most {P : Program} {w : World} {K : PySem.W.Frag} {mg : Str → Option Value} {base : Heap} {f C : Addr} {fd : FuncData} (F : FnP K "is_at_most" "is_at_most" s_is_at_most [] f fd) (T : TX K mg C)  : FnOk P w K mg base CX0 1 f fd ["one", "two"] (sp_is_at_most K C) := by
  refine FunD.ok (k := 0) F sc_is_at_most (fun vs H Q E h => ?_) (fun cdv A outer s H vs Q E hr h => ?_)
  · obtain ⟨a, b, u, v, rfl, _⟩ := h; rfl
  · obtain ⟨a, b, u, v, rfl, ha, hb, h1, h2, h3, h4, q⟩ := h
    refine ⟨_, (PSs.nox (pss_one (ps_ret (pe_cmpR op_le (pe_op op_mul (pe_ix (ixt (K := K) rfl) (pv 0) pe_int (fun _ _ => rfl)) (pe_ix (ixt (K := K) rfl) (pv 1) pe_int (fun _ _ => rfl))) (pe_op op_mul (pe_ix (ixt (K := K) rfl) (pv 1) pe_int (fun _ _ => rfl)) (pe_ix (ixt (K := K) rfl) (pv 0) pe_int (fun _ _ => rfl))) (nomark _))))), ?_⟩
    refine ⟨_, rfl, _, _, _, _, rfl, rfl, tq ha, atI_nat (j := 0) rfl, _, rfl, _, _, _, _, rfl, rfl, tq hb, atI_nat (j := 1) rfl, _, _, rfl, rfl, cmR h3 h4, ?_⟩
    refine ⟨_, rfl, _, _, _, _, rfl, rfl, tq hb, atI_nat (j := 0) rfl, _, rfl, _, _, _, _, rfl, rfl, tq ha, atI_nat (j := 1) rfl, _, _, rfl, rfl, cmR h1 h2, ?_⟩
    exact ⟨_, _, rfl, rfl, q⟩
theorem wks_len (M : Mvs) : ∀ (k : Nat) {l : List AL}, l ≠ [] → (wks M k l).length = l.length + k
  | 0, l, _ => rfl
  | k + 1, [], h => absurd rfl h
  | k + 1, a :: l, _ => by
    show (wks M k (stepW M a [] :: a :: l)).length = _
    rw [wks_len M k (by simp)]; simp; omega
theorem wks_ok {M : Mvs} (hC : Clo M) : ∀ (k : Nat) {l : List AL}, (∀ al ∈ l, OkA M al) → ∀ al ∈ wks M k l, OkA M al
  | 0, l, h => h
  | k + 1, [], h => fun al hal => by cases hal
  | k + 1, a :: l, h => wks_ok hC k (l := stepW M a [] :: a :: l) fun al hal => by
    rcases List.mem_cons.mp hal with rfl | q
    · exact OkA.step hC .nil
    · exact h al q
theorem means_bd (x : Wd) (w : Nat) : ∀ (told : List AL) (d : Nat), ∀ p ∈ means x w told d, (d : Int) ≤ p.2 ∧ p.2 < (d + told.length : Nat)
  | [], _, p, h => by cases h
  | a :: r, d, p, h => by
    unfold means at h
    cases e : getA a x with
    | none =>
      rw [e] at h
      have := means_bd x w r (d + 1) p h
      simp only [List.length_cons]; omega
    | some y =>
      rw [e] at h
      rcases List.mem_append.mp h with h | h
      · have := means_bd x w r (d + 1) p h
        simp only [List.length_cons]; omega
      · rw [List.mem_singleton.mp h]
        simp only [List.length_cons]; omega
theorem means_len (x : Wd) (w : Nat) : ∀ (told : List AL) (d : Nat), (means x w told d).length ≤ told.length
  | [], _ => Nat.le_refl _
  | a :: r, d => by
    have := means_len x w r (d + 1)
    unfold means
    cases getA a x with
    | none => simp only [List.length_cons]; omega
    | some y => simp only [List.length_append, List.length_cons, List.length_nil]; omega
theorem meansOk_iff {told : List AL} : ∀ {a : AL}, meansOk told a = true → ∀ p ∈ a, means p.1 p.2 told 1 ≠ []
  | [], _, p, h => by cases h
  | b :: r, h, p, hp => by
    unfold meansOk at h
    cases e : means b.1 b.2 told 1 with
    | nil => rw [e] at h; cases h
    | cons y z =>
      rw [e] at h
      rcases List.mem_cons.mp hp with rfl | hp
      · rw [e]; simp
      · exact meansOk_iff h p hp
theorem rt1_or (told : List AL) (f : Int × Int) (p : Wd × Nat) : rt1 told f p = leastOf (means p.1 p.2 told 1) ∨ rt1 told f p = f := by
  have e : rt1 told f p = (match ilt (f.1 * (leastOf (means p.1 p.2 told 1)).2) ((leastOf (means p.1 p.2 told 1)).1 * f.2) with
    | true => leastOf (means p.1 p.2 told 1)
    | false => f) := rfl
  rw [e]
  cases ilt (f.1 * (leastOf (means p.1 p.2 told 1)).2) ((leastOf (means p.1 p.2 told 1)).1 * f.2) with
  | true => exact .inl rfl
  | false => exact .inr rfl
theorem fold_rt1 {told : List AL} {a : AL} (hl : told.length ≤ 100) (hm : ∀ p ∈ a, means p.1 p.2 told 1 ≠ []) : ∀ {f : Int × Int}, 0 < f.2 ∧ f.2 < 1000 → 0 < (a.foldl (rt1 told) f).2 ∧ (a.foldl (rt1 told) f).2 < 1000 := by
  induction a with
  | nil => intro f h; exact h
  | cons p r ih =>
    intro f h
    refine ih (fun p hp => hm p (List.mem_cons_of_mem _ hp)) (f := rt1 told f p) ?_
    rcases rt1_or told f p with e | e
    · rw [e]
      refine leastOf_P (P := fun v => 0 < v.2 ∧ v.2 < 1000) (hm p (List.mem_cons_self ..)) fun v hv => ?_
      have := means_bd p.1 p.2 told 1 v hv
      omega
    · rw [e]; exact h
abbrev s_rate : Stmt := top 46
theorem sc_rate : FnScope ["rule", "moves", "size", "told", "found", "there", "whole", "means", "p", "q", "many"] ["rule"] (defScope s_rate) := ⟨rfl, rfl, rfl, by decide +kernel, rfl, by decide +kernel, by decide +kernel⟩
-- slots: 0 rule, 1 moves, 2 size, 3 told, 4 found, 5 there, 6 whole, 7 means, 8 p, 9 q, 10 many
theorem ok_rate {P : Program} {w : World} {K : PySem.W.Frag} {mg : Str → Option Value} {base : Heap} {f C : Addr} {fd : FuncData} (F : FnP K "rate" "rate" s_rate [] f fd) (T : TX K mg C) (c_least_of : Cal P w K mg base 1 "least_of" ["values"] (sp_least_of K C)) (c_lowest : Cal P w K mg base 2 "lowest" ["p", "q"] (sp_lowest K C)) (c_moves_of : Cal P w K mg base 5 "moves_of" ["rule"] (sp_moves_of K C)) (c_walks : Cal P w K mg base 1 "walks" ["moves"] (sp_walks K C)) : FnOk P w K mg base CX0 6 f fd ["rule"] (sp_rate K C) := by
  refine FunD.ok (k := 5) F sc_rate (fun vs H Q E h => ?_) (fun cdv A outer s H vs Q E hr h => ?_)
  · obtain ⟨r, fl, ss, M, rfl, _⟩ := h; rfl
  · obtain ⟨r, fl, ss, M, rfl, hR, hm, hC, hrt, q⟩ := h
    have hML := hC.len
    refine ⟨_, (PSs.nox (pss_cons (ps_set (i := 1) sc_rate.nd rfl (by first | exact Or.inl rfl | exact Or.inr rfl) (c_moves_of.pe hr (by rfl) (pa_cons (pv 0) pa_nil)))
      (pss_cons (ps_asg (pe_tup (pa_cons (c_walks.pe hr (by rfl) (pa_cons (pv 1) pa_nil)) (pa_cons (pe_tup (pa_cons pe_int (pa_cons pe_int pa_nil))) pa_nil))) (pgt (K := K) (n := 2) rfl rfl (pgs_cons (pg_name (i := 3) sc_rate.nd rfl (by first | exact Or.inl rfl | exact Or.inr rfl)) (pgs_cons (pg_name (i := 4) sc_rate.nd rfl (by first | exact Or.inl rfl | exact Or.inr rfl)) pgs_nil))))
      (pss_cons (ps_set (i := 2) sc_rate.nd rfl (by first | exact Or.inl rfl | exact Or.inr rfl) (pe_callB call_lenD (by rfl) T.n_len (by decide +kernel) (pa_cons (pv 1) pa_nil)))
      (pss_cons (ps_lock (ps_for PassesOwn.never rfl (pi_items (pe_ix (ixl (K := K) rfl) (pv 3) (pv 2) (fun _ _ => rfl))) (pgt (K := K) (n := 2) rfl rfl (pgs_cons (pg_name (i := 5) sc_rate.nd rfl (by first | exact Or.inl rfl | exact Or.inr rfl)) (pgs_cons (pg_name (i := 6) sc_rate.nd rfl (by first | exact Or.inl rfl | exact Or.inr rfl)) pgs_nil))) (pss_cons (ps_setLc (own := [("many", 10)]) (i := 7) rfl sc_rate.nd rfl rfl (sw_true rfl rfl rfl (by decide +kernel)) (pi_range1 rfl T.n_range (pa_cons (pv 2) pa_nil)) (blkOk_by (own := [("many", 10)]) (by kernel_rfl)) (fun _ _ _ _ _ => (pg_name (i := 10) sc_rate.nd rfl (by first | exact Or.inl rfl | exact Or.inr rfl))) (fun _ _ _ _ _ => (pts_one (pt_cmp (pc_din (hu_of hr) (pv 5) (pe_ix (ixl (K := K) rfl) (pv 3) (pv 10) (fun _ _ => rfl)))))) (fun _ _ _ _ _ => (pe_tup (pa_cons (pe_op op_sub (pv 6) (pe_dget (hu_of hr) (pe_ix (ixl (K := K) rfl) (pv 3) (pv 10) (fun _ _ => rfl)) (pv 5) (fun _ _ => rfl))) (pa_cons (pe_op op_sub (pv 2) (pv 10)) pa_nil)))))
      (pss_cons (ps_asg (c_least_of.pe hr (by rfl) (pa_cons (pv 7) pa_nil)) (pgt (K := K) (n := 2) rfl rfl (pgs_cons (pg_name (i := 8) sc_rate.nd rfl (by first | exact Or.inl rfl | exact Or.inr rfl)) (pgs_cons (pg_name (i := 9) sc_rate.nd rfl (by first | exact Or.inl rfl | exact Or.inr rfl)) pgs_nil))))
      (pss_one (ps_if (pt_cmpR op_gt (pe_op op_mul (pv 8) (pe_ix (ixt (K := K) rfl) (pv 4) pe_int (fun _ _ => rfl))) (pe_op op_mul (pe_ix (ixt (K := K) rfl) (pv 4) pe_int (fun _ _ => rfl)) (pv 9)) (nomark _)) (pss_one (ps_set (i := 4) sc_rate.nd rfl (by first | exact Or.inl rfl | exact Or.inr rfl) (pe_tup (pa_cons (pv 8) (pa_cons (pv 9) pa_nil))))) pss_nil))))))
      (pss_one (ps_ret (c_lowest.pe hr (by rfl) (pa_cons (pe_ix (ixt (K := K) rfl) (pv 4) pe_int (fun _ _ => rfl)) (pa_cons (pe_ix (ixt (K := K) rfl) (pv 4) pe_int (fun _ _ => rfl)) pa_nil)))))))))), ?_⟩
    refine ⟨_, rfl, r, fl, ss, M, rfl, hR, hm, fun H2 d hd s2 hM => ?_⟩
    refine ⟨_, rfl, d, M, rfl, hM, hC, fun H3 l ds s3 hl hds => ?_⟩
    have hwl := wks_len M M.length (l := [[([], 0)]]) (by simp)
    have hwo := wks_ok hC M.length (l := [[([], 0)]]) fun al h => by
      rw [List.mem_singleton.mp h]
      exact ⟨by simp, fun p hp => by rw [List.mem_singleton.mp hp]; exact hC.nil⟩
    unfold rateOk at hrt
    have hrtp : rt M = lw (rtp M).1 (rtp M).2 := rfl
    unfold rtp at hrtp
    generalize wks M M.length [[([], 0)]] = wl at hds hwl hwo hrt hrtp
    cases wl with
    | nil => cases hrt
    | cons a told =>
    have htl : told.length = M.length := by simp at hwl; omega
    have hmo : meansOk told a = true := by
      cases e : meansOk told a with
      | true => rfl
      | false => dsimp only at hrt; rw [e] at hrt; cases hrt
    have hmn := meansOk_iff hmo
    have hbd : ∀ j, 0 < ((a.take j).foldl (rt1 told) (0, 1)).2 ∧ ((a.take j).foldl (rt1 told) (0, 1)).2 < 1000 := fun j => fold_rt1 (by omega) (fun p hp => hmn p (List.mem_of_mem_take hp)) ⟨by decide, by decide⟩
    dsimp only at hrtp
    clear hrt
    have hoka := hwo a (List.mem_cons_self ..)
    obtain ⟨kvs, hd3, hP3⟩ := hM.same s3
    have hkl : kvs.length = M.length := Paired.length hP3
    -- told, found = (walks(moves), (0, 1))
    refine ⟨by show 2 ≤ sizeLine; decide, fun p1 hp1 => ?_⟩
    refine ⟨by show 2 ≤ sizeLine; decide, fun p2 hp2 => ?_⟩
    have sp1 : Same H3 (upd H3 p1 (.tup [.int 0, .int 1])) := .new hp1
    have sp2 := sp1.trans (.new (o := .tup [.ref l, .ref p1]) hp2)
    refine ⟨p2, _, rfl, tq upd_same, rfl, _, _, rfl, _, _, rfl, rfl, ?_⟩
    refine ⟨_, rfl, d, kvs, rfl, sp2 _ _ hd3, ?_⟩
    rw [show (kvs.length : Int) = (M.length : Nat) by rw [hkl]]
    -- the dict at the end
    have hga : (a :: told).reverse[M.length]? = some a := by rw [List.reverse_cons, List.getElem?_append_right (by simp [htl])]; simp [htl]
    obtain ⟨b, hb, hB⟩ := paired_get' hds hga
    have hB4 := sp2 _ _ hB
    have hf4 : PrA (upd (upd H3 p1 (.tup [.int 0, .int 1])) p2 (.tup [.ref l, .ref p1])) p1 (0, 1) := Same.new hp2 _ _ upd_same
    generalize upd (upd H3 p1 (.tup [.int 0, .int 1])) p2 (.tup [.ref l, .ref p1]) = H4 at sp2 hB4 hf4
    have hl4 := sp2 _ _ hl
    have nlb : l ≠ b := fun z => by rw [z] at hl4; exact absurd (hl4.symm.trans hB4) (by intro q; cases q)
    have npb : p1 ≠ b := fun z => by rw [z] at hf4; exact absurd (hf4.symm.trans hB4) (by intro q; cases q)
    refine ⟨b, .dK (kA a), hB4, trivial, fun od => ?_⟩
    have hlL : upd H4 b (.frz od (.dK (kA a))) l = some (.lst (ds.map V.ref)) := by rw [upd_ne nlb]; exact hl4
    refine ⟨_, rfl, _, rfl, _, _, _, _, rfl, rfl, lq hlL, atI_nat (j := M.length) (map_at hb), b, od, kA a, rfl, upd_same, ?_⟩
    refine for_items (kvs := kA a) (fun j σ Hc => ∃ (af : Addr) (t5 t6 t7 t8 t9 t10 : Option V), σ = [some (.ref r), some (.ref d), some (.int (M.length : Nat)), some (.ref l), some (.ref af), t5, t6, t7, t8, t9, t10] ∧ Same (upd H4 b (.frz od (.dK (kA a)))) Hc ∧ PrA Hc af ((a.take j).foldl (rt1 told) (0, 1))) ?_ ?_ ?_ ?_
    · exact ⟨p1, _, _, _, _, _, _, rfl, .refl _, by show upd _ b _ p1 = _; rw [upd_ne npb]; exact hf4⟩
    · rintro j σ Hc _ ⟨af, t5, t6, t7, t8, t9, t10, rfl, s5, hf⟩
      exact s5 _ _ upd_same
    · rintro j k v σ Hc T' hkv ⟨af, t5, t6, t7, t8, t9, t10, rfl, s5, hf⟩ hT'
      obtain ⟨there, whole, hcj, rfl, rfl⟩ := kA_at hkv
      have hfold : (a.take (j + 1)).foldl (rt1 told) (0, 1) = rt1 told ((a.take j).foldl (rt1 told) (0, 1)) (there, whole) := by rw [take_snoc hcj, List.foldl_append]; rfl
      have hbj := hbd j
      have hmj := hmn _ (List.mem_of_getElem? hcj)
      rw [hfold]
      generalize (a.take j).foldl (rt1 told) (0, 1) = g at hf hbj
      have s6 : Same (upd H4 b (.frz od (.dK (kA a)))) (upd Hc T' (.tup [kV (.inr (S there)), .int (whole : Nat)])) := s5.trans (.new hT')
      have hf6 : PrA (upd Hc T' (.tup [kV (.inr (S there)), .int (whole : Nat)])) af g := Same.new hT' _ _ hf
      refine ⟨T', _, rfl, tq upd_same, rfl, _, _, rfl, _, _, rfl, rfl, ?_⟩
      generalize upd Hc T' (.tup [kV (.inr (S there)), .int (whole : Nat)]) = H6 at s6 hf6
      -- means
      refine ⟨_, rfl, (M.length : Int), rfl, by omega, by omega, fun D hD => ?_⟩
      refine lc_sit (sit_range 0 M.length) (fun _ _ s h => trivial) hD (fun i acc H7 => Same H6 H7 ∧ ∃ ps : List Addr, acc = ps.map V.ref ∧ Paired (PrA H7) ps (means there whole (told.drop (M.length - i)) (M.length - i + 1))) ?_ (fun _ _ _ _ _ => trivial) ?_ ?_
      · refine ⟨.refl _, [], rfl, ?_⟩
        rw [Nat.sub_zero, List.drop_of_length_le (by omega)]; exact .nil
      · rintro i x acc H7 hi rfl hD7 ⟨s7, ps, rfl, hps⟩ Nx nx
        have hi2 : i < M.length := hi
        obtain ⟨al, hal⟩ : ∃ al, told[M.length - (i + 1)]? = some al := ⟨told[M.length - (i + 1)]'(by omega), by simp⟩
        have hga : (a :: told).reverse[i]? = some al := by
          rw [List.reverse_cons, List.getElem?_append_left (by simp; omega), List.getElem?_reverse (by omega), htl, show M.length - 1 - i = M.length - (i + 1) by omega]
          exact hal
        obtain ⟨c, hc, hA⟩ := paired_get' hds hga
        have s7' := s7.trans (off_same (H := H7) (D := D))
        have hRc : Rd H7 c (.dK (kA al)) := by
          refine s7'.rd (s6.rd ?_)
          have h4 := sp2 _ _ hA
          by_cases z : c = b
          · rw [z] at h4 ⊢
            rw [hB4] at h4
            rw [← Option.some.inj h4]
            exact rdf upd_same
          · exact .inl (by rw [upd_ne z]; exact h4)
        have hgl := DGet.rd (k := (.inr (S there) : Key)) hRc
        rw [kA_get] at hgl
        have hdrop : told.drop (M.length - (i + 1)) = al :: told.drop (M.length - i) := by
          obtain ⟨h1, h2⟩ := List.getElem?_eq_some_iff.mp hal
          rw [List.drop_eq_getElem_cons h1, h2, show M.length - (i + 1) + 1 = M.length - i by omega]
        have hmeans : means there whole (told.drop (M.length - (i + 1))) (M.length - (i + 1) + 1) = (match getA al there with
            | none => means there whole (told.drop (M.length - i)) (M.length - i + 1)
            | some x => means there whole (told.drop (M.length - i)) (M.length - i + 1) ++ [((whole : Int) - (x : Int), ((M.length - i : Nat) : Int))]) := by
          rw [hdrop, show M.length - (i + 1) + 1 = M.length - i by omega]; rfl
        have hlL7 := s7' _ _ (s6 _ _ hlL)
        have hat := atI_nat (j := i) (map_at (f := V.ref) hc)
        rw [show ((0 : Int) + ((i : Nat) : Int)) = (i : Nat) by omega]
        refine ⟨rfl, ?_⟩
        refine ⟨_, rfl, _, rfl, _, rfl, l, _, _, _, rfl, rfl, lq hlL7, hat, c, _, rfl, hgl, _, rfl, ?_⟩
        cases e : getA al there with
        | none =>
          rw [e] at hmeans
          refine nx _ _ hD7 ⟨s7, ps, rfl, ?_⟩
          rw [hmeans]; exact hps
        | some xx =>
          rw [e] at hmeans hgl
          refine ⟨_, rfl, _, rfl, _, rfl, l, _, _, _, rfl, rfl, lq hlL7, hat, _, rfl, c, _, rfl, hgl, _, _, rfl, rfl, ?_⟩
          refine ⟨_, rfl, _, rfl, _, _, rfl, rfl, by show 2 ≤ sizeLine; decide, fun pp hpp => ?_⟩
          refine ⟨_, Same.new hpp _ _ hD7, ?_, nx _ _ upd_same ⟨?_, ps ++ [pp], by rw [List.map_append]; rfl, ?_⟩⟩
          · rw [List.length_map, Paired.length hps]
            exact lt_sz (Nat.le_trans (means_len _ _ _ _) (by rw [List.length_drop]; omega))
          · rw [off_upd]; exact s7.trans (off_mono (.new hpp))
          · rw [hmeans, off_upd]
            refine paired_snoc (Paired.mapP hps fun _ _ e => off_mono (.new hpp) _ _ e) ?_
            refine off_of hD7 hpp ?_
            rw [upd_same]
            show some (HO.tup [V.int ((whole : Int) - (xx : Int)), V.int ((M.length : Int) - (i : Int))]) = some (HO.tup [V.int ((whole : Int) - (xx : Int)), V.int ((M.length - i : Nat) : Int)])
            rw [show (M.length : Int) - (i : Int) = ((M.length - i : Nat) : Int) by omega]
      · rintro acc H7 hD7 ⟨s7, ps, rfl, hps⟩
        rw [Nat.sub_self, List.drop_zero] at hps
        have s7' := s7.trans (off_same (H := H7) (D := D))
        have hps' : Paired (PrA H7) ps (means there whole told 1) := Paired.mapP hps fun _ _ e => off_same _ _ e
        refine ⟨_, rfl, D, ps, _, rfl, hD7, hps', hmj, fun p hp => ?_, fun H8 c s8 hc => ?_⟩
        · have := means_bd there whole told 1 p hp
          omega
        have hb8 : 0 < (leastOf (means there whole told 1)).2 ∧ (leastOf (means there whole told 1)).2 < 1000 := leastOf_P (P := fun v => 0 < v.2 ∧ v.2 < 1000) hmj fun p hp => by
          have := means_bd there whole told 1 p hp
          omega
        have hrt1 : rt1 told g (there, whole) = (match ilt (g.1 * (leastOf (means there whole told 1)).2) ((leastOf (means there whole told 1)).1 * g.2) with
          | true => leastOf (means there whole told 1)
          | false => g) := rfl
        rw [hrt1, ilt_iff]
        generalize leastOf (means there whole told 1) = m at hc hb8
        have s68 := s7'.trans s8
        have hf8 : PrA H8 af g := s68 _ _ hf6
        refine ⟨c, _, rfl, tq hc, rfl, _, _, rfl, _, _, rfl, rfl, ?_⟩
        refine ⟨_, rfl, _, rfl, _, _, _, _, rfl, rfl, tq hf8, atI_nat (j := 1) rfl, _, _, rfl, rfl, cmR hbj.1 (by omega), ?_⟩
        refine ⟨_, rfl, _, _, _, _, rfl, rfl, tq hf8, atI_nat (j := 0) rfl, _, rfl, _, _, rfl, rfl, cmR hb8.1 (by omega), ?_⟩
        refine ⟨_, _, rfl, rfl, _, rfl, ?_⟩
        by_cases hcmp : g.1 * m.2 < m.1 * g.2
        · rw [decide_eq_true hcmp]
          refine ⟨_, rfl, _, rfl, by show 2 ≤ sizeLine; decide, fun p hp => ?_⟩
          exact ⟨p, _, _, _, _, _, _, rfl, (s6.trans s68).trans (.new hp), upd_same⟩
        · rw [decide_eq_false hcmp]
          exact ⟨af, _, _, _, _, _, _, rfl, s6.trans s68, hf8⟩
    · rintro σ Hc ⟨af, t5, t6, t7, t8, t9, t10, rfl, s5, hf⟩
      rw [kA_len, List.take_length] at hf
      have hbd' := hbd a.length
      rw [List.take_length] at hbd'
      have hab := s5 _ _ upd_same
      have sU := same_unlock hB4 s5
      refine ⟨hab, ?_⟩
      have naf : af ≠ b := fun z => by rw [z] at hf; exact absurd (hf.symm.trans hab) (by intro q; cases q)
      have hfU : PrA (upd Hc b (.dK (kA a))) af (a.foldl (rt1 told) (0, 1)) := by show upd _ b _ af = _; rw [upd_ne naf]; exact hf
      refine ⟨_, rfl, _, _, _, _, rfl, rfl, tq hfU, atI_nat (j := 0) rfl, _, rfl, _, _, _, _, rfl, rfl, tq hfU, atI_nat (j := 1) rfl, _, _, rfl, hbd'.1, by omega, fun H' c s8 hc => ?_⟩
      refine q _ c (((s2.trans s3).trans sp2).trans (sU.trans s8)) ?_
      show H' c = _
      rw [hrtp]; exact hc
end UF
set_option maxHeartbeats 4000000
namespace UF
open PySem PySem.Spec PyProof.Rows L2
theorem same_lock {A B : Hp} {d : Addr} {o : HO} (s : Same A B) : Same (upd A d o) (upd B d o) := fun b ob e => by
  by_cases h : b = d
  · rw [h, upd_same] at e ⊢; exact e
  · rw [upd_ne h] at e ⊢; exact s b ob e
theorem perm_map {α β : Type} {f : α → β} {ys m : List β} (h : ys.Perm m) : ∀ {l : List α}, m = l.map f → ∃ ws : List α, ws.Perm l ∧ ys = ws.map f := by
  induction h with
  | nil => intro l e; cases l with
    | nil => exact ⟨[], .refl _, rfl⟩
    | cons a l => cases e
  | cons x h ih => intro l e; cases l with
    | nil => cases e
    | cons a l =>
      rw [List.map_cons] at e
      injection e with e1 e2
      obtain ⟨ws, h1, h2⟩ := ih e2
      exact ⟨a :: ws, .cons a h1, by rw [List.map_cons, e1, h2]⟩
  | swap x y m => intro l e; match l, e with
    | a :: b :: l, e =>
      rw [List.map_cons, List.map_cons] at e
      injection e with e1 e2
      injection e2 with e2 e3
      exact ⟨b :: a :: l, .swap a b l, by rw [List.map_cons, List.map_cons, e1, e2, e3]⟩
  | trans h1 h2 ih1 ih2 => intro l e
                           obtain ⟨ws, q1, q2⟩ := ih2 e
                           obtain ⟨ws', q3, q4⟩ := ih1 q2
                           exact ⟨ws', q3.trans q1, q4⟩
theorem roundH_app (p q : Nat) : ∀ (l : Mvs) (m : Mv) (h : AL), roundH p q (l ++ [m]) h = relH p q (relH p q (roundH p q l h) m.1 m.2.1) m.1 m.2.2
  | [], _, _ => rfl
  | a :: l, m, h => by
    show roundH p q (l ++ [m]) _ = _
    rw [roundH_app p q l m]; rfl
theorem look_key {M : Mvs} {x : Wd} (h : (look M x).isSome = true) : x ∈ keys M := by
  obtain ⟨e, he⟩ := Option.isSome_iff_exists.mp h
  exact List.mem_map.mpr ⟨_, look_mem he, rfl⟩
theorem getA_key : ∀ {al : AL} {x : Wd}, x ∈ al.map (·.1) → ∃ n, getA al x = some n
  | [], _, h => by cases h
  | (k, u) :: r, x, h => by
    unfold getA
    cases e : weq k x with
    | true => exact ⟨u, rfl⟩
    | false =>
      rcases List.mem_cons.mp h with h | h
      · have h : x = k := h
        rw [h, weq_self] at e; cases e
      · exact getA_key h
theorem relH_keys {M : Mvs} {h : AL} (hk : h.map (·.1) = keys M) {p q : Nat} {x : Wd} {e : Eg} (he : (look M e.2).isSome = true) : (relH p q h x e).map (·.1) = keys M := by
  unfold relH
  rw [upA_keys, hk, if_pos (look_key he)]
theorem roundH_keys {M : Mvs} (hC : Clo M) {p q : Nat} : ∀ {l : Mvs} {h : AL}, (∀ m ∈ l, m ∈ M) → h.map (·.1) = keys M → (roundH p q l h).map (·.1) = keys M
  | [], h, _, hk => hk
  | m :: l, h, hl, hk => roundH_keys hC (l := l) (fun m hm => hl m (List.mem_cons_of_mem _ hm)) (relH_keys (relH_keys hk (hC.e0 m (hl m (List.mem_cons_self ..)))) (hC.e1 m (hl m (List.mem_cons_self ..))))
theorem h0_keys (M : Mvs) : (h0 M).map (·.1) = keys M := by
  unfold h0 keys; rw [List.map_map]; rfl
theorem hts_keys {M : Mvs} (hC : Clo M) {p q : Nat} : ∀ {k : Nat} {h : AL}, h.map (·.1) = keys M → (hts M p q k h).map (·.1) = keys M
  | 0, h, hk => hk
  | k + 1, h, hk => hts_keys hC (k := k) (h := roundH p q M h) (roundH_keys hC (fun m hm => hm) hk)
/-- kA_up with the number of the program -/
theorem kA_upI {al : AL} {x : Wd} {v u : Nat} {z : Int} (nd : (al.map (·.1)).Nodup) (hu : getA al x = some u) (hz : z.toNat = v) :
    putK (kA al) (.inr (S x)) (.int (if z > (u : Int) then z else (u : Int))) = kA (upA al x v) := by
  rw [← kA_up nd, hu]
  congr 2
  show _ = ((mx u v : Nat) : Int)
  rw [mx_eq]
  split <;> omega
abbrev s_rate_paper : Stmt := top 48
theorem sc_rate_paper : FnScope ["rule", "value", "moves", "heights", "turn", "here", "many", "there"] ["rule", "value"] (defScope s_rate_paper) := ⟨rfl, rfl, rfl, by decide +kernel, rfl, by decide +kernel, by decide +kernel⟩
-- slots: 0 rule, 1 value, 2 moves, 3 heights, 4 turn, 5 here, 6 many, 7 there
theorem ok_rate_paper {P : Program} {w : World} {K : PySem.W.Frag} {mg : Str → Option Value} {base : Heap} {f C : Addr} {fd : FuncData} (F : FnP K "rate_paper" "rate_paper" s_rate_paper [] f fd) (T : TX K mg C) (c_is_at_most : Cal P w K mg base 1 "is_at_most" ["one", "two"] (sp_is_at_most K C)) (c_lowest : Cal P w K mg base 2 "lowest" ["p", "q"] (sp_lowest K C)) (c_moves_of : Cal P w K mg base 5 "moves_of" ["rule"] (sp_moves_of K C)) (c_rate : Cal P w K mg base 6 "rate" ["rule"] (sp_rate K C)) : FnOk P w K mg base CX0 7 f fd ["rule", "value"] (sp_rate_paper K C) := by
  refine FunD.ok (k := 6) F sc_rate_paper (fun vs H Q E h => ?_) (fun cdv A outer s H vs Q E hr h => ?_)
  · obtain ⟨r, a, fl, ss, M, p, q, h, rfl, _⟩ := h; rfl
  · obtain ⟨r, a, fl, ss, M, p, q, h, rfl, hR, hm, hC, hrt, ha, hrp, q0, q1, p1, hh, k⟩ := h
    have hML := hC.len
    refine ⟨_, (PSs.nox (pss_cons (ps_if (pt_not (pt_val (c_is_at_most.pe hr (by rfl) (pa_cons (c_rate.pe hr (by rfl) (pa_cons (pv 0) pa_nil)) (pa_cons (pv 1) pa_nil))))) (pss_one (ps_ret pe_non)) pss_nil)
      (pss_cons (ps_set (i := 2) sc_rate_paper.nd rfl (by first | exact Or.inl rfl | exact Or.inr rfl) (c_moves_of.pe hr (by rfl) (pa_cons (pv 0) pa_nil)))
      (pss_cons (ps_set (i := 3) sc_rate_paper.nd rfl (by first | exact Or.inl rfl | exact Or.inr rfl) (pe_lock (pe_dc (own := [("here", 5)]) rfl sc_rate_paper.nd (pi_keys (pv 2)) (blkOk_by (own := [("here", 5)]) (by kernel_rfl)) (fun _ _ _ _ _ => (pg_name (i := 5) sc_rate_paper.nd rfl (by first | exact Or.inl rfl | exact Or.inr rfl))) (fun _ _ _ _ _ => pts_nil) (fun _ _ _ _ _ => (pv 5)) (fun _ _ _ _ _ => pe_int))))
      (pss_cons (ps_for PassesOwn.never rfl (pi_range1 rfl T.n_range (pa_cons (pe_callB call_lenD (by rfl) T.n_len (by decide +kernel) (pa_cons (pv 2) pa_nil)) pa_nil)) (pg_name (i := 4) sc_rate_paper.nd rfl (by first | exact Or.inl rfl | exact Or.inr rfl)) (pss_one (ps_lock (ps_for PassesOwn.never rfl (pi_keys (pv 2)) (pg_name (i := 5) sc_rate_paper.nd rfl (by first | exact Or.inl rfl | exact Or.inr rfl)) (pss_one (ps_for PassesOwn.never rfl (pil (K := K) rfl (pe_dget (hu_of hr) (pv 2) (pv 5) (fun _ _ => rfl))) (pgt (K := K) (n := 2) rfl rfl (pgs_cons (pg_name (i := 6) sc_rate_paper.nd rfl (by first | exact Or.inl rfl | exact Or.inr rfl)) (pgs_cons (pg_name (i := 7) sc_rate_paper.nd rfl (by first | exact Or.inl rfl | exact Or.inr rfl)) pgs_nil))) (pss_one (ps_dput (hu_of hr) (pv 3) (pv 7) (pe_callB (call_max2 rfl) (by rfl) T.n_max (by decide +kernel) (pa_cons (pe_callTy call_int1 (by rfl) T.n_int (by decide +kernel) (pa_cons (pe_dget (hu_of hr) (pv 3) (pv 7) (fun _ _ => rfl)) pa_nil)) (pa_cons (pe_callTy call_int1 (by rfl) T.n_int (by decide +kernel) (pa_cons (pe_op op_sub (pe_op op_add (pe_dget (hu_of hr) (pv 3) (pv 5) (fun _ _ => rfl)) (pe_op op_mul (pv 6) (pe_ix (ixt (K := K) rfl) (pv 1) pe_int (fun _ _ => rfl)))) (pe_ix (ixt (K := K) rfl) (pv 1) pe_int (fun _ _ => rfl))) pa_nil)) pa_nil))) rfl))))))))
      (pss_one (ps_ret (pe_callTy (ctup (K := K) rfl) (by rfl) T.n_tuple (by decide +kernel) (pa_cons (pe_lc (own := [("here", 5)]) rfl sc_rate_paper.nd (pil (K := K) rfl (pe_callB (call_sortedD rfl) (by rfl) T.n_sorted (by decide +kernel) (pa_cons (pv 3) pa_nil))) (blkOk_by (own := [("here", 5)]) (by kernel_rfl)) (fun _ _ _ _ _ => (pg_name (i := 5) sc_rate_paper.nd rfl (by first | exact Or.inl rfl | exact Or.inr rfl))) (fun _ _ _ _ _ => pts_nil) (fun _ _ _ _ _ => (pe_tup (pa_cons (pv 5) (pa_cons (c_lowest.pe hr (by rfl) (pa_cons (pe_dget (hu_of hr) (pv 3) (pv 5) (fun _ _ => rfl)) (pa_cons (pe_ix (ixt (K := K) rfl) (pv 1) pe_int (fun _ _ => rfl)) pa_nil))) pa_nil))))) pa_nil))))))))), ?_⟩
    refine ⟨_, rfl, r, fl, ss, M, rfl, hR, hm, hC, hrt, fun H1 a1 s1 ha1 => ?_⟩
    rw [hrp] at ha1
    refine ⟨_, rfl, a1, a, _, _, rfl, ha1, s1 _ _ ha, by show (0 : Int) < (q : Int); omega, by show (q : Int) < 1000000; omega, by show (0 : Int) < (q : Int); omega, by show (q : Int) < 1000000; omega, ?_⟩
    rw [show decide (((p : Int), (q : Int)).1 * ((p : Int), (q : Int)).2 ≤ ((p : Int), (q : Int)).1 * ((p : Int), (q : Int)).2) = true from decide_eq_true (Int.le_refl _)]
    refine ⟨_, rfl, ?_⟩
    refine ⟨_, rfl, r, fl, ss, M, rfl, hR.same s1, hm, fun H2 d hd s2 ⟨kvs, hd2, hP2⟩ => ?_⟩
    have hkl : kvs.length = M.length := Paired.length hP2
    have s02 := s1.trans s2
    have ha2 := s02 _ _ ha
    have nad : a ≠ d := fun z => by rw [z] at ha2; exact absurd (ha2.symm.trans hd2) (by intro q; cases q)
    refine ⟨d, _, hd2, trivial, fun od => ⟨_, rfl, d, od, rfl, .inl ⟨kvs, upd_same, fun D hD => ?_⟩⟩⟩
    have hPL : Paired (MvE (upd H2 d (.frz od (.dK kvs)))) kvs M := Paired.mapP hP2 fun _ _ e => MvE.upd hd2 e
    refine dc_sit (sit_keys kvs) (fun _ _ s h => s _ _ h) hD (fun i acc H' => Same (upd H2 d (.frz od (.dK kvs))) H' ∧ acc = kA ((M.take i).map fun m => (m.1, (fun _ => 0) m.1))) ⟨.refl _, rfl⟩ (fun i acc H' _ h => h.1 _ _ upd_same) ?_ ?_
    · rintro i x acc H' hi ⟨k, v, hkv, rfl⟩ hD' ⟨s, rfl⟩ Nx nx
      obtain ⟨m, hm, ek⟩ := mvs_key hPL hkv
      rw [ek]
      refine ⟨rfl, _, rfl, _, .inr (S m.1), rfl, hD', ?_, nx _ _ upd_same ⟨?_, ?_⟩⟩
      · rw [kA_len, List.length_map, List.length_take]; exact lt_sz (by omega)
      · rw [off_upd]; exact s
      · rw [take_snoc hm, List.map_append]
        exact kA_put (nd_take hC.nd hm (fun _ => 0))
    · rintro acc H' hD' ⟨s, rfl⟩
      have s' := s.trans off_same
      have hd' := s' _ _ upd_same
      have nDd : D ≠ d := fun z => by rw [z, upd_same] at hD; cases hD
      have hD2 : H2 D = none := by rw [upd_ne nDd] at hD; exact hD
      have sU := same_unlock hd2 s'
      rw [hkl, List.take_length] at hD'
      refine ⟨hd', ?_⟩
      refine ⟨_, rfl, d, kvs, rfl, upd_same, (kvs.length : Int), rfl, by omega, by omega, ?_⟩
      refine for_sit (sit_range 0 kvs.length) (fun i σ H' => ∃ (g : AL) (t4 t5 t6 t7 : Option V), σ = [some (.ref r), some (.ref a), some (.ref d), some (.ref D), t4, t5, t6, t7] ∧ Same H2 H' ∧ H' D = some (.dK (kA g)) ∧ g.map (·.1) = keys M ∧ hts M p q (M.length - i) g = h) ?_ (fun _ _ _ _ _ => trivial) ?_ ?_
      · exact ⟨h0 M, _, _, _, _, rfl, sU, by rw [upd_ne nDd]; exact hD', h0_keys M, hh⟩
      · rintro i x σ H3 hi rfl ⟨g, t4, t5, t6, t7, rfl, s3, hD3, hg, hts'⟩
        have hd3 := s3 _ _ hd2
        refine ⟨d, .dK kvs, hd3, trivial, fun od => ⟨_, rfl, d, od, rfl, .inl ⟨kvs, upd_same, ?_⟩⟩⟩
        have hPL : Paired (MvE (upd H2 d (.frz od (.dK kvs)))) kvs M := Paired.mapP hP2 fun _ _ e => MvE.upd hd2 e
        have haL : upd H2 d (.frz od (.dK kvs)) a = some (.tup [.int p, .int q]) := by rw [upd_ne nad]; exact ha2
        have hDL : upd H2 d (.frz od (.dK kvs)) D = none := by rw [upd_ne nDd]; exact hD2
        refine for_sit (sit_keys kvs) (fun j σ Hc => ∃ (t4 t5 t6 t7 : Option V), σ = [some (.ref r), some (.ref a), some (.ref d), some (.ref D), t4, t5, t6, t7] ∧ Same (upd H2 d (.frz od (.dK kvs))) Hc ∧ Hc D = some (.dK (kA (roundH p q (M.take j) g)))) ?_ (fun _ _ _ _ h => ?_) ?_ ?_
        · exact ⟨_, _, _, _, rfl, same_lock s3, by rw [upd_ne nDd]; exact hD3⟩
        · obtain ⟨_, _, _, _, _, s4, _⟩ := h
          exact s4 _ _ upd_same
        · rintro j x σ Hc hj ⟨k, v, hkv, rfl⟩ ⟨t4, t5, t6, t7, rfl, s4, hD4⟩
          obtain ⟨m, hm, ek⟩ := mvs_key hPL hkv
          have hmem := List.mem_of_getElem? hm
          have hlook := look_of hC.nd hmem
          obtain ⟨l0, p0, p1', r2, r3, r4, r5⟩ := look_some hPL hlook
          rw [ek]
          have hkj : (roundH p q (M.take j) g).map (·.1) = keys M := roundH_keys hC (fun m hm => List.mem_of_mem_take hm) hg
          have hstep : roundH p q (M.take (j + 1)) g = relH p q (relH p q (roundH p q (M.take j) g) m.1 m.2.1) m.1 m.2.2 := by
            rw [take_snoc hm, roundH_app]
          rw [hstep]
          generalize roundH p q (M.take j) g = gj at hD4 hkj
          have hgt : DGet Hc d (kV (.inr (S m.1))) (some (.ref l0)) := by
            have hg := DGet.rd (k := (.inr (S m.1) : Key)) (rdf (s4 _ _ upd_same))
            rw [r2] at hg; exact hg
          refine ⟨_, rfl, _, rfl, d, _, rfl, hgt, l0, rfl, ⟨_, lq (s4 _ _ r3)⟩, ?_⟩
          refine for_sit (sit_list [V.ref p0, V.ref p1']) (fun t σ H3 => ∃ (t4 t6 t7 : Option V), σ = [some (.ref r), some (.ref a), some (.ref d), some (.ref D), t4, some (.str (S m.1)), t6, t7] ∧ Same (upd H2 d (.frz od (.dK kvs))) H3 ∧ H3 D = some (.dK (kA (([m.2.1, m.2.2].take t).foldl (fun al e => relH p q al m.1 e) gj))) ∧ (([m.2.1, m.2.2].take t).foldl (fun al e => relH p q al m.1 e) gj).map (·.1) = keys M) ?_ (fun _ _ _ _ h => ?_) ?_ ?_
          · exact ⟨_, _, _, rfl, s4, hD4, hkj⟩
          · obtain ⟨_, _, _, _, s5, _⟩ := h
            exact lq (s5 _ _ r3)
          · rintro t x σ H5 ht hx ⟨t4, t6, t7, rfl, s5, hD5, hk5⟩
            have ht2 : t < 2 := ht
            have key : ∃ pj ej, x = V.ref pj ∧ EgA H5 pj ej ∧ [m.2.1, m.2.2][t]? = some ej ∧ (look M ej.2).isSome = true := by
              match t, ht2, hx with
              | 0, _, hx => exact ⟨p0, m.2.1, (Option.some.inj hx).symm, s5 _ _ r4, rfl, hC.e0 _ hmem⟩
              | 1, _, hx => exact ⟨p1', m.2.2, (Option.some.inj hx).symm, s5 _ _ r5, rfl, hC.e1 _ hmem⟩
            obtain ⟨pj, ej, rfl, hej, hgj, hlk⟩ := key
            refine ⟨pj, _, rfl, tq hej, rfl, _, _, rfl, _, _, rfl, rfl, ?_⟩
            have hfold : ([m.2.1, m.2.2].take (t + 1)).foldl (fun al e => relH p q al m.1 e) gj = relH p q (([m.2.1, m.2.2].take t).foldl (fun al e => relH p q al m.1 e) gj) m.1 ej := by
              rw [take_snoc hgj, List.foldl_append]; rfl
            rw [hfold]
            generalize ([m.2.1, m.2.2].take t).foldl (fun al e => relH p q al m.1 e) gj = al at hD5 hk5
            obtain ⟨u, hu⟩ := getA_key (al := al) (x := ej.2) (by rw [hk5]; exact look_key hlk)
            obtain ⟨w0, hw0⟩ := getA_key (al := al) (x := m.1) (by rw [hk5]; exact List.mem_map.mpr ⟨m, hmem, rfl⟩)
            have hg1 : DGet H5 D (kV (.inr (S ej.2))) (some (.int (u : Nat))) := by
              have hg := DGet.k (k := (.inr (S ej.2) : Key)) hD5
              rw [kA_get, hu] at hg; exact hg
            have hg2 : DGet H5 D (kV (.inr (S m.1))) (some (.int (w0 : Nat))) := by
              have hg := DGet.k (k := (.inr (S m.1) : Key)) hD5
              rw [kA_get, hw0] at hg; exact hg
            have ha5 := s5 _ _ haL
            refine ⟨_, rfl, _, rfl, D, _, rfl, hg1, .inl ⟨_, rfl, ?_⟩⟩
            refine ⟨_, rfl, _, rfl, D, _, rfl, hg2, _, rfl, _, rfl, _, _, _, _, rfl, rfl, tq ha5, atI_nat (j := 1) rfl, _, _, rfl, rfl, cmR (by omega) (by omega), _, _, rfl, rfl, ?_⟩
            refine ⟨_, rfl, _, _, _, _, rfl, rfl, tq ha5, atI_nat (j := 0) rfl, _, _, rfl, rfl, .inl ⟨_, rfl, _, _, rfl, ?_⟩⟩
            have hl5 : al.length ≤ 20 := by
              have := congrArg List.length hk5
              unfold keys at this
              rw [List.length_map, List.length_map] at this
              omega
            refine ⟨_, rfl, _, rfl, D, _, rfl, DPut.k (k := .inr (S ej.2)) hD5 (by rw [kA_len]; exact lt_sz (by omega)), ?_⟩
            refine ⟨_, _, _, rfl, s5.mut hDL, ?_, relH_keys hk5 hlk⟩
            rw [upd_same]
            congr 2
            unfold relH
            rw [hw0]
            refine kA_upI (by rw [hk5]; exact hC.nd) hu ?_
            show ((w0 : Int) + (ej.1 : Int) * (q : Int) - (p : Int)).toNat = w0 + ej.1 * q - p
            rw [← Int.natCast_mul, ← Int.natCast_add]
            omega
          · rintro σ H5 ⟨t4, t6, t7, rfl, s5, hD5, hk5⟩
            exact ⟨_, _, _, _, rfl, s5, hD5⟩
        · rintro σ Hc ⟨t4, t5, t6, t7, rfl, s4, hD4⟩
          rw [hkl, List.take_length] at hD4
          refine ⟨s4 _ _ upd_same, roundH p q M g, _, _, _, _, rfl, same_unlock hd2 s4, by rw [upd_ne nDd]; exact hD4, roundH_keys hC (fun m hm => hm) hg, ?_⟩
          have hi2 : i < kvs.length := hi
          rw [show M.length - i = (M.length - (i + 1)) + 1 by omega] at hts'
          exact hts'
      · rintro σ H3 ⟨g, t4, t5, t6, t7, rfl, s3, hD3, hg, hts'⟩
        rw [hkl, Nat.sub_self] at hts'
        obtain rfl : g = h := hts'
        have haD := s3 _ _ ha2
        have hks : (kA g).map (·.1) = ((keys M).map S).map Sum.inr := by
          rw [← hg]; unfold kA; rw [List.map_map, List.map_map, List.map_map]; rfl
        have hkl2 : (keys M).length = M.length := by unfold keys; rw [List.length_map]
        refine ⟨_, rfl, D, kA g, _, rfl, .inl hD3, hks, by rw [List.length_map, hkl2]; omega, fun ys ls hperm _ hls => ?_⟩
        obtain ⟨ws, hwp, rfl⟩ := perm_map hperm rfl
        have hwl : ws.length = M.length := by rw [hwp.length_eq, hkl2]
        refine ⟨ls, rfl, ⟨_, lq upd_same⟩, fun D2 hD2' => ?_⟩
        have s4 := s3.trans (Same.new (o := .lst ((ws.map S).map V.str)) hls)
        have hD4 := Same.new (o := .lst ((ws.map S).map V.str)) hls _ _ hD3
        have hl4 : upd H3 ls (.lst ((ws.map S).map V.str)) ls = some (.lst ((ws.map S).map V.str)) := upd_same
        generalize upd H3 ls (.lst ((ws.map S).map V.str)) = H4 at s4 hD4 hl4 hD2'
        refine lc_sit (sit_list ((ws.map S).map V.str)) (fun _ _ s h => s.seq h) hD2' (fun i acc H5 => Same H4 H5 ∧ ∃ es : List Addr, acc = es.map V.ref ∧ Paired (fun e k => ∃ b, H5 e = some (.tup [.str (S k), .ref b]) ∧ PrA H5 b (hgt q g k)) es (ws.take i)) ⟨.refl _, [], rfl, .nil⟩ (fun _ _ _ _ h => h.1.seq (lq hl4)) ?_ ?_
        · rintro i x acc H5 hi hx hD5 ⟨s5, es, rfl, hes⟩ Nx nx
          obtain ⟨y, hy, rfl⟩ := map_get hx
          obtain ⟨w, hw, rfl⟩ := map_get hy
          have s5' := s5.trans (off_same (H := H5) (D := D2))
          have hmw : w ∈ keys M := hwp.mem_iff.mp (List.mem_of_getElem? hw)
          obtain ⟨u, hu⟩ := getA_key (al := g) (x := w) (by rw [hg]; exact hmw)
          have hg1 : DGet H5 D (kV (.inr (S w))) (some (.int (u : Nat))) := by
            have hg := DGet.k (k := (.inr (S w) : Key)) (s5' _ _ hD4)
            rw [kA_get, hu] at hg; exact hg
          refine ⟨rfl, ?_⟩
          refine ⟨_, rfl, _, rfl, _, rfl, D, _, rfl, hg1, _, rfl, _, _, _, _, rfl, rfl, tq (s5' _ _ (s4 _ _ ha2)), atI_nat (j := 1) rfl, _, _, rfl, by omega, by omega, fun H6 b s6 hb => ?_⟩
          refine ⟨by show 2 ≤ sizeLine; decide, fun e he => ?_⟩
          have s7 := s6.trans (.new (o := .tup [.str (S w), .ref b]) he)
          have hhg : hgt q g w = lw ((u : Nat) : Int) (q : Int) := by unfold hgt; rw [hu]; rfl
          refine ⟨_, s7 _ _ hD5, ?_, nx _ _ upd_same ⟨?_, es ++ [e], by rw [List.map_append]; rfl, ?_⟩⟩
          · rw [List.length_map, Paired.length hes, List.length_take]
            exact lt_sz (by omega)
          · rw [off_upd]; exact s5.trans (off_mono s7)
          · rw [take_snoc hw, off_upd]
            refine paired_snoc (Paired.mapP hes fun _ _ ⟨b, h1, h2⟩ => ⟨b, off_mono s7 _ _ h1, off_mono s7 _ _ h2⟩) ⟨b, ?_, ?_⟩
            · exact off_of hD5 (s6.free he) upd_same
            · rw [hhg]
              show off _ D2 b = _
              rw [off_ne (fun z => by rw [z, s6 _ _ hD5] at hb; cases hb)]
              exact Same.new he _ _ hb
        · rintro acc H5 hD5 ⟨s5, es, rfl, hes⟩
          have hl5 : (ws.take ((ws.map S).map V.str).length) = ws := by rw [List.length_map, List.length_map, List.take_length]
          rw [hl5] at hes
          refine ⟨D2, _, rfl, .inl ⟨lq hD5, fun b hb => k _ b ?_ ⟨ws, es, hwp, upd_same, ?_⟩⟩⟩
          · exact ((s02.trans s4).trans (s5.trans off_same)).trans (.new hb)
          · exact Paired.mapP hes fun _ _ ⟨b, h1, h2⟩ => ⟨b, Same.new hb _ _ (off_same _ _ h1), Same.new hb _ _ (off_same _ _ h2)⟩
end UF
set_option maxHeartbeats 4000000
namespace UF
open PySem PySem.Spec PyProof.Rows L2
abbrev s_is_entry : Stmt := top 49
theorem sc_is_entry : FnScope ["rule", "value"] ["rule", "value"] (defScope s_is_entry) := ⟨rfl, rfl, rfl, by decide +kernel, rfl, by decide +kernel, by decide +kernel⟩
-- slots: 0 rule, 1 value
theorem ok_is_entry {P : Program} {w : World} {K : PySem.W.Frag} {mg : Str → Option Value} {base : Heap} {f C : Addr} {fd : FuncData} (F : FnP K "is_entry" "is_entry" s_is_entry [] f fd) (T : TX K mg C) (c_is_value : Cal P w K mg base 3 "is_value" ["value"] (sp_is_value K C)) (c_is_word : Cal P w K mg base 1 "is_word" ["value"] (sp_is_word K C)) (c_longest : Prp P w K mg base 1 C "longest" ["self"] (sp_Rule_longest K C)) : FnOk P w K mg base CX0 4 f fd ["rule", "value"] (sp_is_entry K C) := by
  refine FunD.ok (k := 3) F sc_is_entry (fun vs H Q E h => ?_) (fun cdv A outer s H vs Q E hr h => ?_)
  · obtain ⟨r, e, b, fl, ss, k, v, rfl, _⟩ := h; rfl
  · obtain ⟨r, e, b, fl, ss, k, v, rfl, hR, he, hb, hk, hk2, v0, v1, vl, q⟩ := h
    obtain ⟨sh, dx, t, ts, hr', ht, hts⟩ := id hR
    have hl : (S k).length ≤ sizeLine := S_sz (by omega)
    refine ⟨_, (PSs.nox (pss_cons (ps_if (PW.pt (pw_or (pt_not (pt_val (pe_callB (cisi (K := K) rfl) (by rfl) T.n_isinstance (by decide +kernel) (pa_cons (pv 1) (pa_cons (pe_bltn (v := .ty "tuple") (u := .type "tuple") (by rfl) T.n_tuple (by decide +kernel) rfl) pa_nil))))) (pw_or (pt_cmpR op_ne (pe_callB (cln (K := K) rfl) (by rfl) T.n_len (by decide +kernel) (pa_cons (pv 1) pa_nil)) pe_int (nomark _)) (pw_or1 (pt_not (pt_val (c_is_word.pe hr (by rfl) (pa_cons (pe_ix (ixt (K := K) rfl) (pv 1) pe_int (fun _ _ => rfl)) pa_nil)))))))) (pss_one (ps_ret pe_bl)) pss_nil)
      (pss_one (ps_ret (pe_and (pe_cmpR op_le (pe_callB (cln (K := K) rfl) (by rfl) T.n_len (by decide +kernel) (pa_cons (pe_ix (ixt (K := K) rfl) (pv 1) pe_int (fun _ _ => rfl)) pa_nil)) (c_longest.pe hr (pv 0)) (nomark _)) (pe_one (c_is_value.pe hr (by rfl) (pa_cons (pe_ix (ixt (K := K) rfl) (pv 1) pe_int (fun _ _ => rfl)) pa_nil)))))))), ?_⟩
    refine ⟨_, rfl, _, _, _, _, true, rfl, .ty _, .base (.tup he), k_one _, _, rfl, ?_⟩
    refine ⟨_, rfl, _, _, rfl, .inr ⟨_, tq he, rfl⟩, rfl, _, rfl, ?_⟩
    refine ⟨_, rfl, _, _, _, _, rfl, rfl, tq he, atI_nat (j := 0) rfl, k, rfl, by omega, fun H' s => ⟨_, rfl, ?_⟩⟩
    refine ⟨_, rfl, _, _, _, _, rfl, rfl, tq (s _ _ he), atI_nat (j := 0) rfl, _, _, rfl, ⟨hl, rfl⟩, _, rfl, r, dx, _, rfl, s _ _ hr', r, fl, ss, rfl, hR.same s, fun H2 s2 => ⟨_, _, rfl, rfl, _, rfl, ?_⟩⟩
    rw [show decide ((((S k).length : Nat) : Int) ≤ ((lng ss : Nat) : Int)) = true by rw [decide_eq_true_eq, S_len]; omega]
    have s3 := s.trans s2
    exact ⟨_, rfl, _, _, _, _, rfl, rfl, tq (s3 _ _ he), atI_nat (j := 1) rfl, b, v.1, v.2, rfl, s3 _ _ hb, v0, v1, vl, fun H3 s4 => q _ (s3.trans s4)⟩
theorem hts_val {H : Hp} {q : Nat} {h : AL} : ∀ {kvs : List (Key × V)} {ks : List Wd}, Paired (fun (kv : Key × V) k => kv.1 = .inr (S k) ∧ ∃ b, kv.2 = .ref b ∧ PrA H b (hgt q h k)) kvs ks → ∀ {x : Wd}, x ∈ ks → ∃ b, valV kvs (.inr (S x)) = some (.ref b) ∧ PrA H b (hgt q h x)
  | _, _, .nil, x, hx => by cases hx
  | kv :: kvs, k :: ks, .cons r t, x, hx => by
    obtain ⟨e1, b, h1, h2⟩ := r
    by_cases e : k = x
    · exact ⟨b, by rw [valV_pos (by rw [e1, e]), h1], by rw [← e]; exact h2⟩
    · have hn : ¬ kv.1 = (.inr (S x) : Key) := fun z => by
        rw [e1] at z
        exact e (S_inj (Sum.inr.inj z))
      rw [valV_neg hn]
      exact hts_val t ((List.mem_cons.mp hx).resolve_left (Ne.symm e))
theorem hts_none {H : Hp} {q : Nat} {h : AL} : ∀ {kvs : List (Key × V)} {ks : List Wd}, Paired (fun (kv : Key × V) k => kv.1 = .inr (S k) ∧ ∃ b, kv.2 = .ref b ∧ PrA H b (hgt q h k)) kvs ks → ∀ {x : Wd}, x ∉ ks → valV kvs (.inr (S x)) = none
  | _, _, .nil, x, hx => rfl
  | kv :: kvs, k :: ks, .cons r t, x, hx => by
    have hn : ¬ kv.1 = (.inr (S x) : Key) := fun z => by
      rw [r.1] at z
      exact hx (S_inj (Sum.inr.inj z) ▸ List.mem_cons_self ..)
    rw [valV_neg hn]
    exact hts_none t fun z => hx (List.mem_cons_of_mem _ z)
theorem nd_not_take {α : Type} {ks : List α} {i : Nat} {k : α} (nd : ks.Nodup) (e : ks[i]? = some k) : k ∉ ks.take i := by
  intro h
  obtain ⟨j, hj⟩ := List.mem_iff_getElem?.mp h
  have hji : j < i := by
    have := lt_of_get hj
    rw [List.length_take] at this
    omega
  rw [List.getElem?_take_of_lt hji] at hj
  have := (List.getElem?_inj (lt_of_get e) nd).mp (e.trans hj.symm)
  omega
abbrev s_is_kept : Stmt := top 50
theorem sc_is_kept : FnScope ["rule", "value", "heights", "here", "bit", "told", "many", "there", "p", "q"] ["rule", "value", "heights", "here"] (defScope s_is_kept) := ⟨rfl, rfl, rfl, by decide +kernel, rfl, by decide +kernel, by decide +kernel⟩
-- slots: 0 rule, 1 value, 2 heights, 3 here, 4 bit, 5 told, 6 many, 7 there, 8 p, 9 q
theorem ok_is_kept {P : Program} {w : World} {K : PySem.W.Frag} {mg : Str → Option Value} {base : Heap} {f C : Addr} {fd : FuncData} (F : FnP K "is_kept" "is_kept" s_is_kept [] f fd) (T : TX K mg C) (c_is_at_most : Cal P w K mg base 1 "is_at_most" ["one", "two"] (sp_is_at_most K C)) (c_move : Cal P w K mg base 4 "move" ["rule", "standing", "bit"] (sp_move K C)) : FnOk P w K mg base CX0 5 f fd ["rule", "value", "heights", "here"] (sp_is_kept K C) := by
  refine FunD.ok (k := 4) F sc_is_kept (fun vs H Q E h => ?_) (fun cdv A outer s H vs Q E hr h => ?_)
  · obtain ⟨r, a, d, fl, ss, M, p, q, h, ks, k, rfl, _⟩ := h; rfl
  · obtain ⟨r, a, d, fl, ss, M, p, q, h, ks, k, rfl, hR, ha, ⟨kvs, hd, hP⟩, hks, hk, hC, hM, hK, qk⟩ := h
    have hkM : k ∈ keys M := hks.mem_iff.mp hk
    obtain ⟨m, hm, rfl⟩ := List.mem_map.mp hkM
    obtain ⟨mv0, mv1, ml⟩ := hM m hm
    have hlg := hR.1.lng
    have sm := hC.sm m hm
    refine ⟨_, (PSs.nox (pss_cons (ps_for PassesOwn.never rfl (pi_str T.bits) (pg_name (i := 4) sc_is_kept.nd rfl (by first | exact Or.inl rfl | exact Or.inr rfl)) (pss_cons (ps_set (i := 5) sc_is_kept.nd rfl (by first | exact Or.inl rfl | exact Or.inr rfl) (c_move.pe hr (by rfl) (pa_cons (pv 0) (pa_cons (pv 3) (pa_cons (pv 4) pa_nil)))))
      (pss_cons (ps_if (PW.pt (pw_or (pt_cmpR op_isN (pv 5) pe_non (nomark _)) (pw_or1 (pt_cmp (pc_dnotin (hu_of hr) (pe_ix (ixt (K := K) rfl) (pv 5) pe_int (fun _ _ => rfl)) (pv 2)))))) (pss_one (ps_ret pe_bl)) pss_nil)
      (pss_cons (ps_asg (pv 5) (pgt (K := K) (n := 2) rfl rfl (pgs_cons (pg_name (i := 6) sc_is_kept.nd rfl (by first | exact Or.inl rfl | exact Or.inr rfl)) (pgs_cons (pg_name (i := 7) sc_is_kept.nd rfl (by first | exact Or.inl rfl | exact Or.inr rfl)) pgs_nil))))
      (pss_cons (ps_asg (pe_dget (hu_of hr) (pv 2) (pv 3) (fun _ _ => rfl)) (pgt (K := K) (n := 2) rfl rfl (pgs_cons (pg_name (i := 8) sc_is_kept.nd rfl (by first | exact Or.inl rfl | exact Or.inr rfl)) (pgs_cons (pg_name (i := 9) sc_is_kept.nd rfl (by first | exact Or.inl rfl | exact Or.inr rfl)) pgs_nil))))
      (pss_one (ps_if (pt_not (pt_val (c_is_at_most.pe hr (by rfl) (pa_cons (pe_tup (pa_cons (pe_op op_add (pe_op op_mul (pv 8) (pe_ix (ixt (K := K) rfl) (pv 1) pe_int (fun _ _ => rfl))) (pe_op op_mul (pe_op op_sub (pe_op op_mul (pv 6) (pe_ix (ixt (K := K) rfl) (pv 1) pe_int (fun _ _ => rfl))) (pe_ix (ixt (K := K) rfl) (pv 1) pe_int (fun _ _ => rfl))) (pv 9))) (pa_cons (pe_op op_mul (pv 9) (pe_ix (ixt (K := K) rfl) (pv 1) pe_int (fun _ _ => rfl))) pa_nil))) (pa_cons (pe_dget (hu_of hr) (pv 2) (pv 7) (fun _ _ => rfl)) pa_nil))))) (pss_one (ps_ret pe_bl)) pss_nil)))))))
      (pss_one (ps_ret pe_bl)))), ?_⟩
    refine ⟨_, rfl, ?_⟩
    rw [S_01]
    refine for_sit (sit_word [false, true]) (fun j σ H' => ∃ (t4 t5 t6 t7 t8 t9 : Option V), σ = [some (.ref r), some (.ref a), some (.ref d), some (.str (S m.1)), t4, t5, t6, t7, t8, t9] ∧ Same H H') ⟨_, _, _, _, _, _, rfl, .refl _⟩ (fun _ _ _ _ _ => trivial) ?_ ?_
    · rintro j x σ H2 hj ⟨bb, hbb, rfl⟩ ⟨t4, t5, t6, t7, t8, t9, rfl, s2⟩
      have hj2 : j < 2 := hj
      obtain ⟨e, hmv, hsm, hlk, hkeep⟩ : ∃ e, mv ss (lng ss) m.1 bb = some e ∧ e.1 ≤ 100 ∧ (look M e.2).isSome = true ∧
          ((hgt q h m.1).1 * q + (e.1 * q - p) * (hgt q h m.1).2) * (hgt q h e.2).2 ≤ (hgt q h e.2).1 * ((hgt q h m.1).2 * q) := by
        match j, hj2, hbb with
        | 0, _, hbb => cases hbb; exact ⟨m.2.1, mv0, sm.2.1, hC.e0 m hm, hK.k0 m hm⟩
        | 1, _, hbb => cases hbb; exact ⟨m.2.2, mv1, sm.2.2, hC.e1 m hm, hK.k1 m hm⟩
      have hqm := hK.sm m hm
      obtain ⟨m2, hm2, em2⟩ := List.mem_map.mp (look_key hlk)
      have hq2 := hK.sm m2 hm2
      rw [em2] at hq2
      obtain ⟨b1, hv1, hb1⟩ := hts_val hP hk
      obtain ⟨b2, hv2, hb2⟩ := hts_val hP (x := e.2) (hks.mem_iff.mpr (look_key hlk))
      refine ⟨_, rfl, _, rfl, _, rfl, r, fl, ss, m.1, bb, e, rfl, hR.same s2, by omega, hmv, fun H3 pt hpt s3 he => ?_⟩
      have s23 := s2.trans s3
      have hg1 : DGet H3 d (kV (.inr (S m.1))) (some (.ref b1)) := by
        have hg := DGet.rd (k := (.inr (S m.1) : Key)) (s23.rd hd)
        rw [hv1] at hg; exact hg
      have hg2' : DGet H3 d (kV (.inr (S e.2))) (some (.ref b2)) := by
        have hg := DGet.rd (k := (.inr (S e.2) : Key)) (s23.rd hd)
        rw [hv2] at hg; exact hg
      refine ⟨_, rfl, rfl, _, rfl, ?_⟩
      refine ⟨_, rfl, _, _, _, _, rfl, rfl, tq he, atI_nat (j := 1) rfl, _, rfl, d, _, rfl, hg2', _, rfl, ?_⟩
      refine ⟨_, rfl, pt, _, rfl, tq he, rfl, _, _, rfl, _, _, rfl, rfl, ?_⟩
      refine ⟨_, rfl, _, rfl, d, _, rfl, hg1, b1, _, rfl, tq (s23 _ _ hb1), rfl, _, _, rfl, _, _, rfl, rfl, ?_⟩
      have ha3 := s23 _ _ ha
      have hq0 := hK.q0
      have hq1 := hK.q1
      refine ⟨_, rfl, _, rfl, _, _, _, _, rfl, rfl, tq ha3, atI_nat (j := 1) rfl, _, _, rfl, rfl, cmR (by omega) (by omega), ?_⟩
      refine ⟨_, rfl, _, rfl, _, _, _, _, rfl, rfl, tq ha3, atI_nat (j := 1) rfl, _, _, rfl, rfl, cmR (by omega) (by omega), ?_⟩
      refine ⟨_, rfl, _, _, _, _, rfl, rfl, tq ha3, atI_nat (j := 0) rfl, _, _, rfl, rfl, _, rfl, _, _, rfl, rfl, cmR hqm.1 (by omega), _, _, rfl, rfl, ?_⟩
      refine ⟨_, rfl, _, rfl, _, _, _, _, rfl, rfl, tq ha3, atI_nat (j := 1) rfl, _, _, rfl, rfl, cmR (by omega) (by omega), by show 2 ≤ sizeLine; decide, fun pn hpn => ?_⟩
      have s4 := s23.trans (Same.new (o := .tup [.int ((hgt q h m.1).1 * (q : Int) + ((e.1 : Int) * (q : Int) - (p : Int)) * (hgt q h m.1).2), .int ((hgt q h m.1).2 * (q : Int))]) hpn)
      have hg4 : DGet (upd H3 pn (.tup [.int ((hgt q h m.1).1 * (q : Int) + ((e.1 : Int) * (q : Int) - (p : Int)) * (hgt q h m.1).2), .int ((hgt q h m.1).2 * (q : Int))])) d (kV (.inr (S e.2))) (some (.ref b2)) := by
        have hg := DGet.rd (k := (.inr (S e.2) : Key)) (s4.rd hd)
        rw [hv2] at hg; exact hg
      have hpos : 0 < (hgt q h m.1).2 * (q : Int) := Int.mul_pos hqm.1 (by omega)
      have hbd : (hgt q h m.1).2 * (q : Int) < 1000000 := by
        have := Int.mul_le_mul (a := (hgt q h m.1).2) (b := (q : Int)) (c := 100) (d := 100) hqm.2.1 (by omega) (by omega) (by omega)
        omega
      refine ⟨_, rfl, _, rfl, d, _, rfl, hg4, pn, b2, ((hgt q h m.1).1 * (q : Int) + ((e.1 : Int) * (q : Int) - (p : Int)) * (hgt q h m.1).2, (hgt q h m.1).2 * (q : Int)), hgt q h e.2, rfl, upd_same, s4 _ _ hb2, hpos, hbd, hq2.1, by omega, ?_⟩
      rw [decide_eq_true hkeep]
      exact ⟨_, rfl, _, _, _, _, _, _, rfl, s4⟩
    · rintro σ H2 ⟨t4, t5, t6, t7, t8, t9, rfl, s2⟩
      exact qk _ s2
abbrev s_rate_paper_holds : Stmt := top 51
theorem sc_rate_paper_holds : FnScope ["rule", "value", "paper", "heights", "here", "height", "entry"] ["rule", "value", "paper"] (defScope s_rate_paper_holds) := ⟨rfl, rfl, rfl, by decide +kernel, rfl, by decide +kernel, by decide +kernel⟩
-- slots: 0 rule, 1 value, 2 paper, 3 heights, 4 here, 5 height, 6 entry
theorem ok_rate_paper_holds {P : Program} {w : World} {K : PySem.W.Frag} {mg : Str → Option Value} {base : Heap} {f C : Addr} {fd : FuncData} (F : FnP K "rate_paper_holds" "rate_paper_holds" s_rate_paper_holds [] f fd) (T : TX K mg C) (c_is_entry : Cal P w K mg base 4 "is_entry" ["rule", "value"] (sp_is_entry K C)) (c_is_kept : Cal P w K mg base 5 "is_kept" ["rule", "value", "heights", "here"] (sp_is_kept K C)) : FnOk P w K mg base CX0 6 f fd ["rule", "value", "paper"] (sp_rate_paper_holds K C) := by
  refine FunD.ok (k := 5) F sc_rate_paper_holds (fun vs H Q E h => ?_) (fun cdv A outer s H vs Q E hr h => ?_)
  · obtain ⟨r, a, b, fl, ss, M, p, q, h, rfl, _⟩ := h; rfl
  · obtain ⟨r, a, b, fl, ss, M, p, q, h, rfl, hR, ha, ⟨ks, es, hks, hb, hes⟩, hC, hM, hK, qk⟩ := h
    have hML := hC.len
    have hlg := hR.1.lng
    have hel : es.length = ks.length := Paired.length hes
    have hkl : ks.length = M.length := by rw [hks.length_eq]; unfold keys; rw [List.length_map]
    have hnd : ks.Nodup := hks.nodup_iff.mpr hC.nd
    have hent : ∀ k ∈ ks, k.length ≤ lng ss ∧ 0 < (hgt q h k).2 ∧ (hgt q h k).2 ≤ 100 ∧ lw (hgt q h k).1 (hgt q h k).2 = hgt q h k := fun k hk => by
      obtain ⟨m, hm, rfl⟩ := List.mem_map.mp (hks.mem_iff.mp hk)
      exact ⟨(hM m hm).2.2, hK.sm m hm⟩
    refine ⟨_, (PSs.nox (pss_cons (ps_if (PW.pt (pw_or (pt_not (pt_val (pe_callB (cisi (K := K) rfl) (by rfl) T.n_isinstance (by decide +kernel) (pa_cons (pv 2) (pa_cons (pe_bltn (v := .ty "tuple") (u := .type "tuple") (by rfl) T.n_tuple (by decide +kernel) rfl) pa_nil))))) (pw_or1 (pt_not (pt_val (pe_callB (call' (K := K) rfl rfl) (by rfl) T.n_all (by decide +kernel) (pa_cons (pe_lc (own := [("entry", 6)]) rfl sc_rate_paper_holds.nd (pit (K := K) rfl (pv 2)) (blkOk_by (own := [("entry", 6)]) (by kernel_rfl)) (fun _ _ _ _ _ => (pg_name (i := 6) sc_rate_paper_holds.nd rfl (by first | exact Or.inl rfl | exact Or.inr rfl))) (fun _ _ _ _ _ => pts_nil) (fun _ _ _ _ _ => (c_is_entry.pe hr (by rfl) (pa_cons (pv 0) (pa_cons (pv 6) pa_nil))))) pa_nil))))))) (pss_one (ps_ret pe_bl)) pss_nil)
      (pss_cons (ps_set (i := 3) sc_rate_paper_holds.nd rfl (by first | exact Or.inl rfl | exact Or.inr rfl) (pe_dc (own := [("here", 4), ("height", 5)]) rfl sc_rate_paper_holds.nd (pit (K := K) rfl (pv 2)) (blkOk_by (own := [("here", 4), ("height", 5)]) (by kernel_rfl)) (fun _ _ _ _ _ => (pgt (K := K) (n := 2) rfl rfl (pgs_cons (pg_name (i := 4) sc_rate_paper_holds.nd rfl (by first | exact Or.inl rfl | exact Or.inr rfl)) (pgs_cons (pg_name (i := 5) sc_rate_paper_holds.nd rfl (by first | exact Or.inl rfl | exact Or.inr rfl)) pgs_nil)))) (fun _ _ _ _ _ => pts_nil) (fun _ _ _ _ _ => (pv 4)) (fun _ _ _ _ _ => (pv 5))))
      (pss_cons (ps_if (PW.pt (pw_or (pt_cmpR op_ne (pe_callB call_lenD (by rfl) T.n_len (by decide +kernel) (pa_cons (pv 3) pa_nil)) (pe_callB (cln (K := K) rfl) (by rfl) T.n_len (by decide +kernel) (pa_cons (pv 2) pa_nil)) (nomark _)) (pw_or1 (pt_cmp (pc_dnotin (hu_of hr) pe_str (pv 3)))))) (pss_one (ps_ret pe_bl)) pss_nil)
      (pss_one (ps_ret (pe_callB (call' (K := K) rfl rfl) (by rfl) T.n_all (by decide +kernel) (pa_cons (pe_lock (pe_lc (own := [("here", 4)]) rfl sc_rate_paper_holds.nd (pi_keys (pv 3)) (blkOk_by (own := [("here", 4)]) (by kernel_rfl)) (fun _ _ _ _ _ => (pg_name (i := 4) sc_rate_paper_holds.nd rfl (by first | exact Or.inl rfl | exact Or.inr rfl))) (fun _ _ _ _ _ => pts_nil) (fun _ _ _ _ _ => (c_is_kept.pe hr (by rfl) (pa_cons (pv 0) (pa_cons (pv 1) (pa_cons (pv 3) (pa_cons (pv 4) pa_nil)))))))) pa_nil)))))))), ?_⟩
    refine ⟨_, rfl, _, _, _, _, true, rfl, .ty _, .base (.tup hb), k_one _, _, rfl, ?_⟩
    refine ⟨_, rfl, b, rfl, ⟨_, tq hb⟩, fun D hD => ?_⟩
    refine lc_sit (sit_tup (es.map V.ref)) (fun _ _ s h => s.tup h) hD (fun i acc H' => Same H H' ∧ acc = List.replicate i (V.bl true)) ⟨.refl _, rfl⟩ (fun _ _ _ _ h => h.1.tup (tq hb)) ?_ ?_
    · rintro i x acc H' hi hx hD' ⟨s, rfl⟩ Nx nx
      obtain ⟨e, he, rfl⟩ := map_get hx
      obtain ⟨k, hk, b', h1, h2⟩ := paired_get hes he
      obtain ⟨g1, g2, g3, g4⟩ := hent k (List.mem_of_getElem? hk)
      have s' := s.trans (off_same (H := H') (D := D))
      have hi2 := lt_of_get he
      refine ⟨rfl, ?_⟩
      refine ⟨_, rfl, _, rfl, r, e, b', fl, ss, k, hgt q h k, rfl, hR.same s', s' _ _ h1, s' _ _ h2, g1, by omega, g2, by omega, g4, fun H2 s2 => ⟨_, s2 _ _ hD', ?_, nx _ _ upd_same ⟨?_, ?_⟩⟩⟩
      · rw [List.length_replicate]; exact lt_sz (by omega)
      · rw [off_upd]; exact s.trans (off_mono s2)
      · rw [List.replicate_succ']
    · rintro acc H1 hD1 ⟨s1, rfl⟩
      have s1' := s1.trans (off_same (H := H1) (D := D))
      refine ⟨_, List.replicate (es.map V.ref).length true, rfl, lq (by rw [hD1, List.map_replicate]), ?_⟩
      rw [show (List.replicate (es.map V.ref).length true).all id = true by rw [List.all_eq_true]; intro x hx; rw [List.eq_of_mem_replicate hx]; rfl]
      refine ⟨_, rfl, ?_⟩
      -- heights
      refine ⟨_, rfl, b, rfl, ⟨_, tq (s1' _ _ hb)⟩, fun D2 hD2 => ?_⟩
      refine dc_sit (sit_tup (es.map V.ref)) (fun _ _ s h => s.tup h) hD2 (fun i acc H' => Same H1 H' ∧ Paired (fun (kv : Key × V) k => kv.1 = .inr (S k) ∧ ∃ b, kv.2 = .ref b ∧ PrA H' b (hgt q h k)) acc (ks.take i)) ⟨.refl _, .nil⟩ (fun _ _ _ _ h => h.1.tup (tq (s1' _ _ hb))) ?_ ?_
      · rintro i x acc H' hi hx hD' ⟨s, hacc⟩ Nx nx
        obtain ⟨e, he, rfl⟩ := map_get hx
        obtain ⟨k, hk, b', h1, h2⟩ := paired_get hes he
        have s' := s1'.trans (s.trans (off_same (H := H') (D := D2)))
        have hi2 := lt_of_get he
        have hfresh : valV acc (.inr (S k)) = none := hts_none hacc (nd_not_take hnd hk)
        refine ⟨e, _, rfl, tq (s' _ _ h1), rfl, _, _, rfl, _, _, rfl, rfl, rfl, ?_⟩
        refine ⟨_, rfl, _, rfl, acc, .inr (S k), rfl, hD', ?_, nx _ _ upd_same ⟨?_, ?_⟩⟩
        · rw [Paired.length hacc, List.length_take]; exact lt_sz (by omega)
        · rw [off_upd]; exact s
        · rw [putK_new (by rw [hfresh]; rfl), take_snoc hk, off_upd]
          refine paired_snoc hacc ⟨rfl, b', rfl, ?_⟩
          show off H' D2 b' = _
          rw [off_ne (fun z => by rw [← z] at hD'; exact absurd ((s' _ _ h2).symm.trans hD') (by intro q; cases q))]
          exact s' _ _ h2
      · rintro acc H2 hD2' ⟨s2, hacc⟩
        have hel2 : ks.take (es.map V.ref).length = ks := by rw [List.length_map, hel, List.take_length]
        rw [hel2] at hacc
        have s2' := s1'.trans (s2.trans (off_same (H := H2) (D := D2)))
        have hacc2 : Paired (fun (kv : Key × V) k => kv.1 = .inr (S k) ∧ ∃ b, kv.2 = .ref b ∧ PrA H2 b (hgt q h k)) acc ks := Paired.mapP hacc fun _ _ ⟨h1, b, h2, h3⟩ => ⟨h1, b, h2, off_same _ _ h3⟩
        have hal : acc.length = ks.length := Paired.length hacc
        have hnil : ([] : Wd) ∈ ks := hks.mem_iff.mpr (look_key hC.nil)
        obtain ⟨b0, hv0, _⟩ := hts_val hacc2 hnil
        refine ⟨_, rfl, D2, acc, rfl, hD2', _, rfl, _, _, rfl, .inr ⟨_, tq (s2' _ _ hb), rfl⟩, rfl, _, rfl, ?_⟩
        rw [show (!decide (V.int (acc.length : Nat) = V.int ((es.map V.ref).length : Nat))) = false by rw [List.length_map, hel, hal]; simp]
        have hg0 : DGet H2 D2 (kV (.inr (S []))) (some (.ref b0)) := by
          have hg := DGet.k (k := (.inr (S []) : Key)) hD2'
          rw [hv0] at hg; exact hg
        rw [← S_nil] at hg0
        refine ⟨_, rfl, D2, _, rfl, hg0, _, rfl, ?_⟩
        refine ⟨D2, _, hD2', trivial, fun od => ⟨_, rfl, D2, od, rfl, .inl ⟨acc, upd_same, fun D3 hD3 => ?_⟩⟩⟩
        have sL : Same H (upd H2 D2 (.frz od (.dK acc))) := s2'.mut (s1'.free hD2)
        refine lc_sit (sit_keys acc) (fun _ _ s h => s _ _ h) hD3 (fun i acc3 H3 => Same (upd H2 D2 (.frz od (.dK acc))) H3 ∧ acc3 = List.replicate i (V.bl true)) ⟨.refl _, rfl⟩ (fun _ _ _ _ h => h.1 _ _ upd_same) ?_ ?_
        · rintro i x acc3 H3 hi ⟨kk, v, hkv, rfl⟩ hD3' ⟨s3, rfl⟩ Nx nx
          obtain ⟨k, hk, ek, b', hb', hPb⟩ := paired_get hacc2 hkv
          obtain rfl : kk = .inr (S k) := ek
          have s3' := s3.trans (off_same (H := H3) (D := D3))
          have sH3 := sL.trans s3'
          have hi2 := lt_of_get hk
          have hHts : HtsA H3 D2 ks q h := ⟨acc, rdf (s3' _ _ upd_same), Paired.mapP hacc2 fun _ _ ⟨g1, b, g2, g3⟩ => ⟨g1, b, g2, s3' _ _ (by rw [upd_ne (fun z => by rw [z] at g3; exact absurd (g3.symm.trans hD2') (by intro q; cases q))]; exact g3)⟩⟩
          refine ⟨rfl, ?_⟩
          refine ⟨_, rfl, _, rfl, _, rfl, _, rfl, r, a, D2, fl, ss, M, p, q, h, ks, k, rfl, hR.same sH3, sH3 _ _ ha, hHts, hks, List.mem_of_getElem? hk, hC, hM, hK, fun H4 s4 => ⟨_, s4 _ _ hD3', ?_, nx _ _ upd_same ⟨?_, ?_⟩⟩⟩
          · rw [List.length_replicate]; exact lt_sz (by omega)
          · rw [off_upd]; exact s3.trans (off_mono s4)
          · rw [List.replicate_succ']
        · rintro acc3 H3 hD3' ⟨s3, rfl⟩
          have s3' := s3.trans (off_same (H := H3) (D := D3))
          have nD : D3 ≠ D2 := fun z => by rw [z, upd_same] at hD3; cases hD3
          refine ⟨s3' _ _ upd_same, D3, List.replicate acc.length true, rfl, lq (by rw [upd_ne nD, hD3', List.map_replicate]), ?_⟩
          rw [show (List.replicate acc.length true).all id = true by rw [List.all_eq_true]; intro x hx; rw [List.eq_of_mem_replicate hx]; rfl]
          exact qk _ ((sL.trans s3').mut (s1'.free hD2))
end UF
set_option maxHeartbeats 4000000
namespace UF
open PySem PySem.Spec PyProof.Rows L2
theorem pin_pbh (ss : List Stf) (m : Nat) : ∀ (f : Nat) (l found : Wd) (kn : List Wd) (x : Wd), pin ss m f l found kn = some (some x) → pbh ss f l found = some x
  | 0, _, _, _, _, h => by cases h
  | f + 1, l, found, kn, x, h => by
    unfold pin at h
    unfold pbh
    cases e : put ss (l ++ found) with
    | none => rw [e] at h; cases h; rfl
    | some b =>
      rw [e] at h
      cases e2 : mem (tl m (l ++ found)) kn with
      | true => rw [e2] at h; simp at h
      | false => rw [e2] at h; exact pin_pbh ss m f l _ _ x h
theorem keepO {H : Hp} {d a : Addr} {o o' x : HO} (ha : H a = some x) (hd : H d = some o) (ne : x ≠ o) : upd H d o' a = some x := by
  rw [upd_ne (fun z => by rw [z, hd] at ha; exact ne (Option.some.inj ha).symm)]; exact ha
def OrdA (H : Hp) (n : Nat) (a : Addr) (w : Wd) : Prop := ∃ msg : Wd, msg.length ≤ n ∧ H a = some (.tup [.str (S w), .str (S msg)])
abbrev s_parting : Stmt := top 33
theorem sc_parting : FnScope ["p", "q", "most", "known", "order", "at", "bit", "ahead", "message", "line", "more", "later"] ["p", "q"] (defScope s_parting) := ⟨rfl, rfl, rfl, by decide +kernel, rfl, by decide +kernel, by decide +kernel⟩
-- slots: 0 p, 1 q, 2 most, 3 known, 4 order, 5 at, 6 bit, 7 ahead, 8 message, 9 line, 10 more, 11 later
theorem ok_parting {P : Program} {w : World} {K : PySem.W.Frag} {mg : Str → Option Value} {base : Heap} {f C : Addr} {fd : FuncData} (F : FnP K "parting" "parting" s_parting [] f fd) (T : TX K mg C) (c_longest : Prp P w K mg base 1 C "longest" ["self"] (sp_Rule_longest K C)) (c_put_behind : Cal P w K mg base 2 "put_behind" ["rule", "line"] (sp_put_behind K C)) (c_tail : Cal P w K mg base 1 "tail" ["line", "size"] (sp_tail K C)) : FnOk P w K mg base CX0 3 f fd ["p", "q"] (sp_parting K C) := by
  refine FunD.ok (k := 2) F sc_parting (fun vs H Q E h => ?_) (fun cdv A outer s H vs Q E hr h => ?_)
  · obtain ⟨r, r', fl, fl', ss, rfl, _⟩ := h; rfl
  · obtain ⟨r, r', fl, fl', ss, rfl, hR, hR', hb, q⟩ := h
    obtain ⟨sh, dx, t, ts, hr', ht, hts⟩ := id hR
    obtain ⟨sh2, dx2, t2', ts2, hr2, ht2, hts2⟩ := id hR'
    have hlg := sh.lng
    refine ⟨_, (PSs.nox (pss_cons (ps_set (i := 2) sc_parting.nd rfl (by first | exact Or.inl rfl | exact Or.inr rfl) (pe_callB (call_max2 rfl) (by rfl) T.n_max (by decide +kernel) (pa_cons (pe_callTy call_int1 (by rfl) T.n_int (by decide +kernel) (pa_cons (c_longest.pe hr (pv 0)) pa_nil)) (pa_cons (pe_callTy call_int1 (by rfl) T.n_int (by decide +kernel) (pa_cons (c_longest.pe hr (pv 1)) pa_nil)) pa_nil))))
      (pss_cons (ps_par3 (i := 3) (j := 4) (l := 5) rfl sc_parting.nd rfl rfl rfl (by decide) (by decide) (by decide) rfl rfl rfl (pa_cons (pe_disp (pps_cons pe_str pe_bl pps_nil) (by rfl) (by rfl) (fun z => by cases z) (by decide)) (pa_cons (pe_lst (pa_cons (pe_tup (pa_cons pe_str (pa_cons pe_str pa_nil))) pa_nil)) (pa_cons pe_int pa_nil))) (by rfl))
      (pss_cons (ps_while PassesOwn.never (pt_cmpR op_lt (pv 5) (pe_callB (cln (K := K) rfl) (by rfl) T.n_len (by decide +kernel) (pa_cons (pv 4) pa_nil)) (nomark _)) (pss_cons (ps_asg (pe_ix (ixl (K := K) rfl) (pv 4) (pv 5) (fun _ _ => rfl)) (pgt (K := K) (n := 2) rfl rfl (pgs_cons (pg_name (i := 7) sc_parting.nd rfl (by first | exact Or.inl rfl | exact Or.inr rfl)) (pgs_cons (pg_name (i := 8) sc_parting.nd rfl (by first | exact Or.inl rfl | exact Or.inr rfl)) pgs_nil))))
      (pss_cons (ps_for PassesOwn.never rfl (pi_str T.bits) (pg_name (i := 6) sc_parting.nd rfl (by first | exact Or.inl rfl | exact Or.inr rfl)) (pss_cons (ps_set (i := 9) sc_parting.nd rfl (by first | exact Or.inl rfl | exact Or.inr rfl) (pe_op op_add_str (pv 7) (pv 6)))
      (pss_cons (ps_set (i := 10) sc_parting.nd rfl (by first | exact Or.inl rfl | exact Or.inr rfl) (c_put_behind.pe hr (by rfl) (pa_cons (pv 0) (pa_cons (pv 9) pa_nil))))
      (pss_cons (ps_if (pt_cmpR op_ne (pv 10) (c_put_behind.pe hr (by rfl) (pa_cons (pv 1) (pa_cons (pv 9) pa_nil))) (nomark _)) (pss_one (ps_ret (pe_op op_add_str (pv 8) (pv 6)))) pss_nil)
      (pss_cons (ps_set (i := 11) sc_parting.nd rfl (by first | exact Or.inl rfl | exact Or.inr rfl) (c_tail.pe hr (by rfl) (pa_cons (pe_op op_add_str (pv 9) (pv 10)) (pa_cons (pv 2) pa_nil))))
      (pss_one (ps_if (pt_cmp (pc_dnotin (hu_of hr) (pv 11) (pv 3))) (pss_cons (ps_dput (hu_of hr) (pv 3) (pv 11) pe_bl rfl)
      (pss_one (ps_expr (papp (K := K) rfl (pv 4) (pa_cons (pe_tup (pa_cons (pv 11) (pa_cons (pe_op op_add_str (pv 8) (pv 6)) pa_nil))) pa_nil))))) pss_nil)))))))
      (pss_one (ps_aug (i := 5) sc_parting.nd rfl (by first | exact Or.inl rfl | exact Or.inr rfl) pe_int ip_add)))))
      (pss_one (ps_ret pe_non)))))), ?_⟩
    refine ⟨_, rfl, r, dx, _, rfl, hr', r, fl, ss, rfl, hR, fun H1 s1 => .inl ⟨_, rfl, ?_⟩⟩
    refine ⟨_, rfl, r', dx2, _, rfl, s1 _ _ hr2, r', fl', ss, rfl, hR'.same s1, fun H2 s2 => .inl ⟨_, rfl, _, _, rfl, ?_⟩⟩
    rw [show (if ((lng ss : Nat) : Int) > ((lng ss : Nat) : Int) then ((lng ss : Nat) : Int) else ((lng ss : Nat) : Int)) = ((lng ss : Nat) : Int) by split <;> rfl]
    refine fun kd hkd => ⟨by rw [upd_same], [((.inr (S []) : Key), V.bl true)], by rw [S_nil]; rfl, by simp, ?_⟩
    refine ⟨by show 2 ≤ sizeLine; decide, fun a0 ha0 => ⟨by show 1 ≤ sizeLine; decide, fun ol hol => ?_⟩⟩
    refine ⟨_, _, _, rfl, ?_⟩
    have s02 := s1.trans s2
    have sk : Same H2 (upd (upd H2 kd (.dK [])) kd (.dK (mergeK [] [((.inr (S []) : Key), V.bl true)]))) := (Same.new hkd).mut hkd
    have sk1 := sk.trans (.new (o := .tup [.str "", .str ""]) ha0)
    have hkdv : upd (upd H2 kd (.dK [])) kd (.dK (mergeK [] [((.inr (S []) : Key), V.bl true)])) kd = some (.dK (kvK [[]])) := upd_same
    generalize upd (upd H2 kd (.dK [])) kd (.dK (mergeK [] [((.inr (S []) : Key), V.bl true)])) = H3 at sk sk1 hkdv ha0 hol
    have hol3 : H3 ol = none := by
      cases e : H3 ol with
      | none => rfl
      | some o => rw [Same.new ha0 _ _ e] at hol; cases hol
    have hol2 : H2 ol = none := sk.free hol3
    refine ⟨fun m σ H' => ∃ (wt : List Wd) (os : List Addr) (i : Nat) (t6 t7 t8 t9 t10 t11 : Option V), σ = [some (.ref r), some (.ref r'), some (.int (lng ss : Nat)), some (.ref kd), some (.ref ol), some (.int (i : Nat)), t6, t7, t8, t9, t10, t11] ∧ Same H2 H' ∧ H' ol = some (.lst (os.map V.ref)) ∧ Paired (OrdA H' wt.length) os wt ∧ H' kd = some (.dK (kvK wt)) ∧ edl ss (lng ss) m wt i = some false ∧ wt.length + 2 * m ≤ 100 ∧ ∀ w ∈ wt, w.length ≤ 100,
      ⟨40, [[]], [a0], 0, none, none, none, none, none, none, rfl, sk1.trans (.new hol), upd_same, paired_one ⟨[], by simp, ?_⟩, ?_, hb, by simp, by simp⟩, ?_⟩
    · rw [upd_ne (fun z => by rw [← z, upd_same] at hol; cases hol), upd_same, ← S_nil]
    · rw [upd_ne (fun z => by rw [z, hol3] at hkdv; cases hkdv)]
      exact Same.new ha0 _ _ hkdv
    rintro m σ H' ⟨wt, os, i, t6, t7, t8, t9, t10, t11, rfl, s, hl', hos, hd', he, hn, hw⟩
    have hosl : os.length = wt.length := Paired.length hos
    cases m with
    | zero => cases he
    | succ m =>
    have hz : (os.map V.ref).length ≤ sizeLine := by rw [List.length_map]; exact le_sz (by omega)
    refine ⟨_, rfl, _, rfl, _, _, rfl, .inl ⟨_, lq hl', rfl⟩, _, _, rfl, rfl, _, rfl, ?_⟩
    rw [edl_eq] at he
    cases e : wt[i]? with
    | none =>
      have hlt : wt.length ≤ i := List.getElem?_eq_none_iff.mp e
      rw [show decide ((i : Int) < (((os.map V.ref).length : Nat) : Int)) = false by rw [decide_eq_false_iff_not, List.length_map]; omega]
      exact q _ (s02.trans s)
    | some here =>
      rw [e] at he
      have hlt := lt_of_get e
      rw [show decide ((i : Int) < (((os.map V.ref).length : Nat) : Int)) = true by rw [decide_eq_true_eq, List.length_map]; omega]
      refine ⟨fun σ' H2' => ∃ m', m' < m + 1 ∧ ∃ (wt : List Wd) (os : List Addr) (i : Nat) (t6 t7 t8 t9 t10 t11 : Option V), σ' = [some (.ref r), some (.ref r'), some (.int (lng ss : Nat)), some (.ref kd), some (.ref ol), some (.int (i : Nat)), t6, t7, t8, t9, t10, t11] ∧ Same H2 H2' ∧ H2' ol = some (.lst (os.map V.ref)) ∧ Paired (OrdA H2' wt.length) os wt ∧ H2' kd = some (.dK (kvK wt)) ∧ edl ss (lng ss) m' wt i = some false ∧ wt.length + 2 * m' ≤ 100 ∧ ∀ w ∈ wt, w.length ≤ 100, fun σ' H' n => n, ?_⟩
      obtain ⟨oa, hoa, msg, hmsg, hoat⟩ := paired_get' hos e
      refine ⟨_, rfl, _, rfl, _, _, _, _, rfl, rfl, lq hl', atI_nat (j := i) (map_at hoa), oa, _, rfl, tq hoat, rfl, _, _, rfl, _, _, rfl, rfl, ?_⟩
      refine ⟨_, rfl, ?_⟩
      rw [S_01]
      have hh : here.length ≤ 100 := hw here (List.mem_of_getElem? e)
      refine for_sit (sit_word [false, true]) (fun j σ' H4 => ∃ (wt' : List Wd) (os : List Addr) (t6 t9 t10 t11 : Option V), σ' = [some (.ref r), some (.ref r'), some (.int (lng ss : Nat)), some (.ref kd), some (.ref ol), some (.int (i : Nat)), t6, some (.str (S here)), some (.str (S msg)), t9, t10, t11] ∧ Same H2 H4 ∧ H4 ol = some (.lst (os.map V.ref)) ∧ Paired (OrdA H4 wt'.length) os wt' ∧ H4 kd = some (.dK (kvK wt')) ∧ ebs ss (lng ss) here ([false, true].drop j) wt' (fun wt' => edl ss (lng ss) m wt' (i + 1)) = some false ∧ wt'.length + 2 * m + 2 ≤ 100 + j ∧ wt.length ≤ wt'.length ∧ ∀ w ∈ wt', w.length ≤ 100)
        ⟨wt, os, _, _, _, _, rfl, s, hl', hos, hd', he, by omega, Nat.le_refl _, hw⟩ (fun _ _ _ _ _ => trivial) ?_ ?_
      · rintro j x σ' H4 hj ⟨bb, hbb, rfl⟩ ⟨wt', os', t6, t9, t10, t11, rfl, s4, hl4, hos4, hd4, he4, hn4, hwl, hw4⟩
        have hosl4 : os'.length = wt'.length := Paired.length hos4
        have hdr : [false, true].drop j = bb :: [false, true].drop (j + 1) := by
          obtain ⟨h1, h2⟩ := List.getElem?_eq_some_iff.mp hbb
          rw [← h2]; exact List.drop_eq_getElem_cons h1
        rw [hdr] at he4
        have hstep : ebs ss (lng ss) here (bb :: [false, true].drop (j + 1)) wt' (fun wt' => edl ss (lng ss) m wt' (i + 1)) = (match stepE ss (lng ss) here bb wt' with
          | none => none
          | some none => some true
          | some (some wt2) => ebs ss (lng ss) here ([false, true].drop (j + 1)) wt2 (fun wt' => edl ss (lng ss) m wt' (i + 1))) := rfl
        rw [hstep] at he4
        have hj2 : j < 2 := hj
        have hms : msg.length ≤ 100 := by omega
        cases ep : pin ss (lng ss) 20 (here ++ [bb]) [] [] with
        | none =>
          have : stepE ss (lng ss) here bb wt' = none := by unfold stepE; rw [ep]
          rw [this] at he4; cases he4
        | some o =>
        cases o with
        | none =>
          have : stepE ss (lng ss) here bb wt' = some none := by unfold stepE; rw [ep]
          rw [this] at he4; cases he4
        | some more =>
        have hpb := pin_pbh _ _ _ _ _ _ _ ep
        have hm := pin_len ss (lng ss) 20 _ _ _ _ ep
        have hml : more.length ≤ 20 := by simpa using hm
        refine ⟨_, rfl, _, rfl, _, _, rfl, rfl, S_sz2 (by simp; omega), ?_⟩
        refine ⟨_, rfl, _, rfl, r, fl, ss, here ++ [bb], more, by rw [S_app]; rfl, (hR.same s02).same s4, by simp; omega, hpb, ?_⟩
        refine ⟨_, rfl, _, rfl, _, rfl, r', fl', ss, here ++ [bb], more, by rw [S_app]; rfl, (hR'.same s02).same s4, by simp; omega, hpb, rfl, _, rfl, ?_⟩
        rw [show (!decide (V.str (S more) = V.str (S more))) = false by rw [decide_eq_true rfl]; rfl]
        refine ⟨_, rfl, _, rfl, _, _, rfl, rfl, ?_, _, rfl, here ++ [bb] ++ more, lng ss, by rw [S_app, S_app]; rfl, by simp; omega, ?_⟩
        · rw [S_app]; exact S_sz2 (by simp; omega)
        have htl := tl_len (lng ss) (here ++ [bb] ++ more)
        refine ⟨_, rfl, _, rfl, kd, _, rfl, DGet.k (k := .inr (S (tl (lng ss) (here ++ [bb] ++ more)))) hd4, _, rfl, ?_⟩
        rw [kvK_get]
        cases em : mem (tl (lng ss) (here ++ [bb] ++ more)) wt' with
        | true =>
          have : stepE ss (lng ss) here bb wt' = some (some wt') := by unfold stepE; rw [ep]; simp only; rw [em]
          rw [this] at he4
          exact ⟨wt', os', _, _, _, _, rfl, s4, hl4, hos4, hd4, he4, by omega, hwl, hw4⟩
        | false =>
          have : stepE ss (lng ss) here bb wt' = some (some (wt' ++ [tl (lng ss) (here ++ [bb] ++ more)])) := by unfold stepE; rw [ep]; simp only; rw [em]
          rw [this] at he4
          refine ⟨_, rfl, _, rfl, kd, _, rfl, DPut.k (k := .inr (S (tl (lng ss) (here ++ [bb] ++ more)))) hd4 (by rw [kvK_len]; exact lt_sz (by omega)), ?_⟩
          rw [kvK_put em]
          have hl5 : upd H4 kd (.dK (kvK (wt' ++ [tl (lng ss) (here ++ [bb] ++ more)]))) ol = some (.lst (os'.map V.ref)) := keepO hl4 hd4 (by intro q; cases q)
          have hos5 : Paired (OrdA (upd H4 kd (.dK (kvK (wt' ++ [tl (lng ss) (here ++ [bb] ++ more)])))) wt'.length) os' wt' := Paired.mapP hos4 fun _ _ ⟨ms, g1, g2⟩ => ⟨ms, g1, keepO g2 hd4 (by intro q; cases q)⟩
          have s5 : Same H2 (upd H4 kd (.dK (kvK (wt' ++ [tl (lng ss) (here ++ [bb] ++ more)])))) := s4.mut hkd
          have hd5 : upd H4 kd (.dK (kvK (wt' ++ [tl (lng ss) (here ++ [bb] ++ more)]))) kd = some (.dK (kvK (wt' ++ [tl (lng ss) (here ++ [bb] ++ more)]))) := upd_same
          generalize upd H4 kd (.dK (kvK (wt' ++ [tl (lng ss) (here ++ [bb] ++ more)]))) = H5 at hl5 hos5 s5 hd5
          refine ⟨_, rfl, .inl ⟨rfl, _, lq hl5⟩, _, rfl, _, rfl, _, rfl, _, _, rfl, rfl, S_sz2 (by simp; omega), by show 2 ≤ sizeLine; decide, fun pn hpn => ?_⟩
          have s6 := Same.new (o := .tup [.str (S (tl (lng ss) (here ++ [bb] ++ more))), .str (S msg ++ S [bb])]) hpn
          have hpv : upd H5 pn (.tup [.str (S (tl (lng ss) (here ++ [bb] ++ more))), .str (S msg ++ S [bb])]) pn = some (.tup [.str (S (tl (lng ss) (here ++ [bb] ++ more))), .str (S (msg ++ [bb]))]) := by rw [upd_same, S_app]
          generalize upd H5 pn (.tup [.str (S (tl (lng ss) (here ++ [bb] ++ more))), .str (S msg ++ S [bb])]) = H6 at s6 hpv
          have hl6 := s6 _ _ hl5
          refine ⟨ol, _, _, rfl, rfl, hl6, by rw [List.length_map]; exact lt_sz (by omega), ?_⟩
          refine ⟨wt' ++ [tl (lng ss) (here ++ [bb] ++ more)], os' ++ [pn], _, _, _, _, rfl, (s5.trans s6).mut hol2, ?_, ?_, ?_, he4, ?_, ?_, ?_⟩
          · rw [upd_same, List.map_append]; rfl
          · refine paired_snoc (Paired.mapP hos5 fun _ _ ⟨ms, g1, g2⟩ => ⟨ms, by rw [List.length_append]; omega, keepO (s6 _ _ g2) hl6 (by intro q; cases q)⟩) ⟨msg ++ [bb], ?_, keepO hpv hl6 (by intro q; cases q)⟩
            rw [List.length_append, List.length_append]; simp; omega
          · exact keepO (s6 _ _ hd5) hl6 (by intro q; cases q)
          · rw [List.length_append]; simp; omega
          · rw [List.length_append]; omega
          · intro w hw'
            rcases List.mem_append.mp hw' with h | h
            · exact hw4 w h
            · rw [List.mem_singleton.mp h]; omega
      · rintro σ' H4 ⟨wt', os', t6, t9, t10, t11, rfl, s4, hl4, hos4, hd4, he4, hn4, hwl, hw4⟩
        refine ⟨_, rfl, _, _, rfl, rfl, ?_⟩
        refine ⟨m, Nat.lt_succ_self _, wt', os', i + 1, _, _, _, _, _, _, rfl, s4, hl4, hos4, hd4, he4, by have h2 : ([false, true] : List Bool).length = 2 := rfl; omega, hw4⟩
abbrev s_alike : Stmt := top 34
theorem sc_alike : FnScope ["p", "q"] ["p", "q"] (defScope s_alike) := ⟨rfl, rfl, rfl, by decide +kernel, rfl, by decide +kernel, by decide +kernel⟩
-- slots: 0 p, 1 q
theorem ok_alike {P : Program} {w : World} {K : PySem.W.Frag} {mg : Str → Option Value} {base : Heap} {f C : Addr} {fd : FuncData} (F : FnP K "alike" "alike" s_alike [] f fd) (T : TX K mg C) (c_parting : Cal P w K mg base 3 "parting" ["p", "q"] (sp_parting K C)) : FnOk P w K mg base CX0 4 f fd ["p", "q"] (sp_alike K C) := by
  refine FunD.ok (k := 3) F sc_alike (fun vs H Q E h => ?_) (fun cdv A outer s H vs Q E hr h => ?_)
  · obtain ⟨r, r', fl, fl', ss, rfl, _⟩ := h; rfl
  · obtain ⟨r, r', fl, fl', ss, rfl, hR, hR', hb, q⟩ := h
    refine ⟨_, (PSs.nox (pss_one (ps_ret (pe_cmpR op_isN (c_parting.pe hr (by rfl) (pa_cons (pv 0) (pa_cons (pv 1) pa_nil))) pe_non (nomark _))))), ?_⟩
    exact ⟨_, rfl, _, rfl, r, r', fl, fl', ss, rfl, hR, hR', hb, fun H1 s1 => ⟨rfl, q _ s1⟩⟩
end UF
set_option maxHeartbeats 4000000
namespace UF
open PySem PySem.Spec PyProof.Rows L2
/-! ### clean -/
def wd (fl : Wd) (ss : List Stf) : Nat := max (lng ss) fl.length - 1
def occ (l p : Wd) : List Nat := Builtin.Str.occurrences (S l) (S p) 0 (S l).length 1
def inl' (fl l : Wd) : Bool := !(occ l fl).isEmpty
def bc (fl st : Wd) : Bool := match occ (st ++ fl) fl with
  | i :: _ => decide (i = st.length)
  | [] => false
def stC (fl : Wd) (ss : List Stf) (here : Wd) (b : Bool) (kn la : List Wd) : Option (Option (List Wd × List Wd)) := match pin ss (lng ss) 20 (here ++ [b]) [] [] with
  | some (some more) => if inl' fl (here ++ [b] ++ more) || !bc fl (tl (wd fl ss) (here ++ [b] ++ more)) then some none
    else if mem (tl (wd fl ss) (here ++ [b] ++ more)) kn then some (some (kn, la)) else some (some (kn ++ [tl (wd fl ss) (here ++ [b] ++ more)], la ++ [tl (wd fl ss) (here ++ [b] ++ more)]))
  | _ => none
def bitC (fl : Wd) (ss : List Stf) (here : Wd) : List Bool → List Wd → List Wd → (List Wd → List Wd → Option Bool) → Option Bool
  | [], kn, la, k => k kn la
  | b :: r, kn, la, k => match stC fl ss here b kn la with
    | none => none
    | some none => some false
    | some (some v) => bitC fl ss here r v.1 v.2 k
def layC (fl : Wd) (ss : List Stf) : List Wd → List Wd → List Wd → (List Wd → List Wd → Option Bool) → Option Bool
  | [], kn, la, k => k kn la
  | h :: r, kn, la, k => bitC fl ss h [false, true] kn la fun kn la => layC fl ss r kn la k
def wlkC (fl : Wd) (ss : List Stf) : Nat → List Wd → List Wd → Option Bool
  | 0, _, _ => none
  | f + 1, layer, kn => match layer with
    | [] => some true
    | h :: r => layC fl ss (h :: r) kn [] fun kn la => wlkC fl ss f la kn
def sp_width (K : Fg) (C : Addr) : Sp := fun vs H Q _ => ∃ (r : Addr) (fl : Wd) (ss : List Stf), vs = [.ref r] ∧ RuleAt C H r fl ss ∧ 1 ≤ fl.length ∧ ∀ H', Same H H' → Q (.int (wd fl ss : Nat)) H'
def sp_is_border_clean (K : Fg) (C : Addr) : Sp := fun vs H Q _ => ∃ (r : Addr) (fl : Wd) (ss : List Stf) (st : Wd), vs = [.ref r, .str (S st)] ∧ RuleAt C H r fl ss ∧ st.length ≤ 100 ∧ Q (.bl (bc fl st)) H
def sp_grown (K : Fg) (C : Addr) : Sp := fun vs H Q _ => ∃ (r : Addr) (fl : Wd) (ss : List Stf) (st : Wd) (b : Bool) (more : Wd), vs = [.ref r, .str (S st), Bt b] ∧ RuleAt C H r fl ss ∧ st.length ≤ 100 ∧ pin ss (lng ss) 20 (st ++ [b]) [] [] = some (some more) ∧ ∀ H', Same H H' → Q (.str (S (st ++ [b] ++ more))) H'
def wv (b : Bool) (x : V) : Prop := match b with
  | true => x = .non
  | false => ∃ z, x = .str z
structure ClnOk (fl : Wd) (ss : List Stf) (c : Bool) : Prop where
  f0 : 1 ≤ fl.length
  f1 : fl.length ≤ 5
  l1 : lng ss ≤ 3
  run : wlkC fl ss 40 [[]] [[]] = some c
def sp_walk (K : Fg) (C : Addr) : Sp := fun vs H Q _ => ∃ (r : Addr) (fl : Wd) (ss : List Stf) (c : Bool), vs = [.ref r] ∧ RuleAt C H r fl ss ∧ ClnOk fl ss c ∧ ∀ H' a x y, Same H H' → H' a = some (.tup [x, y]) → wv c x → Q (.ref a) H'
def sp_spoiled (K : Fg) (C : Addr) : Sp := fun vs H Q _ => ∃ (r : Addr) (fl : Wd) (ss : List Stf) (c : Bool), vs = [.ref r] ∧ RuleAt C H r fl ss ∧ ClnOk fl ss c ∧ ∀ H' x, Same H H' → wv c x → Q x H'
def sp_is_clean (K : Fg) (C : Addr) : Sp := fun vs H Q _ => ∃ (r : Addr) (fl : Wd) (ss : List Stf) (c : Bool), vs = [.ref r] ∧ RuleAt C H r fl ss ∧ ClnOk fl ss c ∧ ∀ H', Same H H' → Q (.bl c) H'
abbrev s_width : Stmt := top 20
theorem sc_width : FnScope ["rule"] ["rule"] (defScope s_width) := ⟨rfl, rfl, rfl, by decide +kernel, rfl, by decide +kernel, by decide +kernel⟩
-- slots: 0 rule
theorem ok_width {P : Program} {w : World} {K : PySem.W.Frag} {mg : Str → Option Value} {base : Heap} {f C : Addr} {fd : FuncData} (F : FnP K "width" "width" s_width [] f fd) (T : TX K mg C) (c_longest : Prp P w K mg base 1 C "longest" ["self"] (sp_Rule_longest K C)) : FnOk P w K mg base CX0 3 f fd ["rule"] (sp_width K C) := by
  refine FunD.ok (k := 2) F sc_width (fun vs H Q E h => ?_) (fun cdv A outer s H vs Q E hr h => ?_)
  · obtain ⟨r, fl, ss, rfl, _⟩ := h; rfl
  · obtain ⟨r, fl, ss, rfl, hR, h1, q⟩ := h
    obtain ⟨sh, dx, t, ts, hr', ht, hts⟩ := id hR
    have hlg := sh.lng
    have hfl := sh.fl
    refine ⟨_, (PSs.nox (pss_one (ps_ret (pe_op op_sub (pe_callB (call_max2 rfl) (by rfl) T.n_max (by decide +kernel) (pa_cons (pe_callTy call_int1 (by rfl) T.n_int (by decide +kernel) (pa_cons (c_longest.pe hr (pv 0)) pa_nil)) (pa_cons (pe_callB (cln (K := K) rfl) (by rfl) T.n_len (by decide +kernel) (pa_cons (pef (K := K) rfl (pv 0)) pa_nil)) pa_nil))) pe_int)))), ?_⟩
    refine ⟨_, rfl, r, dx, _, rfl, hr', r, fl, ss, rfl, hR, fun H1 s1 => .inl ⟨_, rfl, ?_⟩⟩
    refine ⟨_, rfl, r, C, dx, _, _, rfl, s1 _ _ hr', T.cl, T.nF, flds_flag _ _, _, _, rfl, ⟨S_sz (by omega), rfl⟩, _, _, rfl, _, _, rfl, rfl, ?_⟩
    have e : (if (((S fl).length : Nat) : Int) > ((lng ss : Nat) : Int) then (((S fl).length : Nat) : Int) else ((lng ss : Nat) : Int)) - 1 = ((wd fl ss : Nat) : Int) := by
      unfold wd; rw [S_len]; split <;> omega
    show Q (.int ((if (((S fl).length : Nat) : Int) > ((lng ss : Nat) : Int) then (((S fl).length : Nat) : Int) else ((lng ss : Nat) : Int)) - 1)) H1
    rw [e]
    exact q _ s1
theorem occ_in (st fl : Wd) : ∃ i rest, occ (st ++ fl) fl = i :: rest := by
  have h : (!(occ (st ++ fl) fl).isEmpty) = true := by
    refine (PySem.StrLaws.found_iff _ _).mpr ⟨st.length, by rw [S_len, S_len, List.length_append]; exact Nat.le_refl _, ?_⟩
    rw [subAt_eqL, S_tl, S_tl, List.map_append, List.drop_append_of_le_length (by simp), List.drop_of_length_le (by simp), List.nil_append, List.take_length, beq_self_eq_true]
  cases e : occ (st ++ fl) fl with
  | nil => rw [e] at h; cases h
  | cons i r => exact ⟨i, r, rfl⟩
abbrev s_is_border_clean : Stmt := top 22
theorem sc_is_border_clean : FnScope ["rule", "standing"] ["rule", "standing"] (defScope s_is_border_clean) := ⟨rfl, rfl, rfl, by decide +kernel, rfl, by decide +kernel, by decide +kernel⟩
-- slots: 0 rule, 1 standing
theorem ok_is_border_clean {P : Program} {w : World} {K : PySem.W.Frag} {mg : Str → Option Value} {base : Heap} {f C : Addr} {fd : FuncData} (F : FnP K "is_border_clean" "is_border_clean" s_is_border_clean [] f fd) (T : TX K mg C)  : FnOk P w K mg base CX0 1 f fd ["rule", "standing"] (sp_is_border_clean K C) := by
  refine FunD.ok (k := 0) F sc_is_border_clean (fun vs H Q E h => ?_) (fun cdv A outer s H vs Q E hr h => ?_)
  · obtain ⟨r, fl, ss, st, rfl, _⟩ := h; rfl
  · obtain ⟨r, fl, ss, st, rfl, hR, h1, q⟩ := h
    obtain ⟨sh, dx, t, ts, hr', ht, hts⟩ := id hR
    have hfl := sh.fl
    obtain ⟨i, rest, ho⟩ := occ_in st fl
    refine ⟨_, (PSs.nox (pss_one (ps_ret (pe_cmpR op_eq (pe_m1 PySem.F.slot_str_index PySem.F.type_str_index mt_sindex (pe_joined (.cons (pe_fmt (pv 1)) (.cons (pe_fmt (pef (K := K) rfl (pv 0))) .nil))) (pef (K := K) rfl (pv 0))) (pe_callB (cln (K := K) rfl) (by rfl) T.n_len (by decide +kernel) (pa_cons (pv 1) pa_nil)) (nomark _))))), ?_⟩
    refine ⟨_, rfl, .inl ⟨_, rfl, S_sz (by omega), _, rfl, ?_, ?_⟩⟩
    · rw [S_emp, S_app]; exact S_sz (by simp; omega)
    refine ⟨_, rfl, r, C, dx, _, _, rfl, hr', T.cl, T.nF, flds_flag _ _, .inl ⟨_, rfl, S_sz (by omega), _, rfl, ?_, ?_⟩⟩
    · rw [S_emp, S_app, S_app]; exact S_sz (by simp; omega)
    rw [S_emp, S_app, S_app]
    refine ⟨⟨_, rfl⟩, _, rfl, r, C, dx, _, _, rfl, hr', T.cl, T.nF, flds_flag _ _, _, _, i, rest, rfl, rfl, ho, ?_⟩
    refine ⟨_, rfl, _, _, rfl, ⟨S_sz (by omega), rfl⟩, rfl, ?_⟩
    have e : decide (V.int (i : Nat) = V.int (((S st).length : Nat) : Int)) = bc fl st := by
      unfold bc; rw [ho, S_len]
      rw [Bool.eq_iff_iff, decide_eq_true_eq, decide_eq_true_eq]
      exact ⟨fun h => by injection h with h; omega, fun h => by rw [h]⟩
    rw [e]; exact q
abbrev s_grown : Stmt := top 23
theorem sc_grown : FnScope ["rule", "standing", "bit", "put", "line", "seen", "tail"] ["rule", "standing", "bit"] (defScope s_grown) := ⟨rfl, rfl, rfl, by decide +kernel, rfl, by decide +kernel, by decide +kernel⟩
-- slots: 0 rule, 1 standing, 2 bit, 3 put, 4 line, 5 seen, 6 tail
theorem ok_grown {P : Program} {w : World} {K : PySem.W.Frag} {mg : Str → Option Value} {base : Heap} {f C : Addr} {fd : FuncData} (F : FnP K "grown" "grown" s_grown [] f fd) (T : TX K mg C) (c_last_bits : Cal P w K mg base 1 "last_bits" ["line", "many"] (sp_last_bits K C)) (c_longest : Prp P w K mg base 1 C "longest" ["self"] (sp_Rule_longest K C)) (c_put : Mth P w K mg base 1 C "put" ["self", "line"] (sp_Rule_put K C)) : FnOk P w K mg base CX0 3 f fd ["rule", "standing", "bit"] (sp_grown K C) := by
  refine FunD.ok (k := 2) F sc_grown (fun vs H Q E h => ?_) (fun cdv A outer s H vs Q E hr h => ?_)
  · obtain ⟨r, fl, ss, st, b, more, rfl, _⟩ := h; rfl
  · obtain ⟨r, fl, ss, st, b, more, rfl, hR, hl, hp, q⟩ := h
    obtain ⟨sh, dx, t, ts, hr', ht, hts⟩ := id hR
    have hlg := sh.lng
    refine ⟨_, (PSs.nox (pss_cons (ps_par (i := 4) (j := 5) rfl sc_grown.nd rfl rfl (by decide) rfl rfl (pa_cons (pe_joined (.cons (pe_fmt (pv 1)) (.cons (pe_fmt (pv 2)) .nil))) (pa_cons pe_dnewK pa_nil)) (by rfl))
      (pss_cons (ps_set (i := 3) sc_grown.nd rfl (by first | exact Or.inl rfl | exact Or.inr rfl) (c_put.pe hr (pv 0) (pa_cons (pv 4) pa_nil)))
      (pss_cons (ps_while PassesOwn.never (pt_cmpR op_notN (pv 3) pe_non (nomark _)) (pss_cons (ps_set (i := 6) sc_grown.nd rfl (by first | exact Or.inl rfl | exact Or.inr rfl) (c_last_bits.pe hr (by rfl) (pa_cons (pv 4) (pa_cons (c_longest.pe hr (pv 0)) pa_nil))))
      (pss_cons (ps_if (pt_cmp (pc_din (hu_of hr) (pv 6) (pv 5))) (pss_one (ps_ret pe_non)) pss_nil)
      (pss_cons (ps_dput (hu_of hr) (pv 5) (pv 6) pe_bl rfl)
      (pss_cons (ps_set (i := 4) sc_grown.nd rfl (by first | exact Or.inl rfl | exact Or.inr rfl) (pe_joined (.cons (pe_fmt (pv 4)) (.cons (pe_fmt (pv 3)) .nil))))
      (pss_one (ps_set (i := 3) sc_grown.nd rfl (by first | exact Or.inl rfl | exact Or.inr rfl) (c_put.pe hr (pv 0) (pa_cons (pv 4) pa_nil)))))))))
      (pss_one (ps_ret (pv 4))))))), ?_⟩
    refine ⟨_, rfl, .inl ⟨_, rfl, S_sz (by omega), _, rfl, ?_, ?_⟩⟩
    · rw [S_emp, S_app]; exact S_sz (by simp; omega)
    refine ⟨_, rfl, .inl ⟨_, rfl, S_sz (by simp), _, rfl, ?_, ?_⟩⟩
    · rw [S_emp, S_app, S_app]; exact S_sz (by simp; omega)
    rw [S_emp, S_app, S_app, List.nil_append]
    refine fun d hd => ⟨_, _, rfl, ?_⟩
    have hrd := Same.new (o := .dK []) hd _ _ hr'
    refine ⟨_, rfl, r, dx, _, rfl, hrd, flds_no _ _, _, rfl, r, fl, ss, st ++ [b], rfl, hR.same (.new hd), ?_⟩
    refine ⟨fun m σ H' => ∃ found kn t6, σ = [some (.ref r), some (.str (S st)), some (Bt b), some (opt (put ss (st ++ [b] ++ found))), some (.str (S (st ++ [b] ++ found))), some (.ref d), t6] ∧ Same H H' ∧ H' d = some (.dK (kvK kn)) ∧ pin ss (lng ss) m (st ++ [b]) found kn = some (some more) ∧ found.length + m ≤ 20 ∧ kn.length = found.length,
      ⟨20, [], [], none, by rw [List.append_nil]; rfl, .new hd, upd_same, hp, by simp, rfl⟩, ?_⟩
    rintro m σ H' ⟨found, kn, t6, rfl, s, hd', hp', hb, hk⟩
    cases m with
    | zero => cases hp'
    | succ m =>
    refine ⟨_, rfl, rfl, _, rfl, ?_⟩
    have hpn : pin ss (lng ss) (m + 1) (st ++ [b]) found kn = (match put ss (st ++ [b] ++ found) with
      | none => some (some found)
      | some b' => match mem (tl (lng ss) (st ++ [b] ++ found)) kn with
        | true => some none
        | false => pin ss (lng ss) m (st ++ [b]) (found ++ [b']) (kn ++ [tl (lng ss) (st ++ [b] ++ found)])) := rfl
    rw [hpn] at hp'
    cases e : put ss (st ++ [b] ++ found) with
    | none =>
      rw [e] at hp'
      cases hp'
      exact ⟨_, rfl, q _ s⟩
    | some b' =>
      rw [e] at hp'
      refine ⟨fun σ' H2 => ∃ m', m' < m + 1 ∧ ∃ found kn t6, σ' = [some (.ref r), some (.str (S st)), some (Bt b), some (opt (put ss (st ++ [b] ++ found))), some (.str (S (st ++ [b] ++ found))), some (.ref d), t6] ∧ Same H H2 ∧ H2 d = some (.dK (kvK kn)) ∧ pin ss (lng ss) m' (st ++ [b]) found kn = some (some more) ∧ found.length + m' ≤ 20 ∧ kn.length = found.length, fun σ' H' n => n, ?_⟩
      refine ⟨_, rfl, _, rfl, r, dx, _, rfl, s _ _ hr', r, fl, ss, rfl, hR.same s, fun H2 s2 => ?_⟩
      refine ⟨st ++ [b] ++ found, lng ss, rfl, by simp; omega, ?_⟩
      refine ⟨_, rfl, _, rfl, d, _, rfl, DGet.k (k := .inr (S (tl (lng ss) (st ++ [b] ++ found)))) (s2 _ _ hd'), _, rfl, ?_⟩
      rw [kvK_get]
      cases e2 : mem (tl (lng ss) (st ++ [b] ++ found)) kn with
      | true => rw [e2] at hp'; cases hp'
      | false =>
        rw [e2] at hp'
        have hk2 : (kvK kn).length < sizeLine := by rw [kvK_len]; exact lt_sz (by omega)
        refine ⟨_, rfl, _, rfl, d, _, rfl, DPut.k (k := .inr (S (tl (lng ss) (st ++ [b] ++ found)))) (s2 _ _ hd') hk2, ?_⟩
        rw [kvK_put e2]
        have s3 : Same H (upd H2 d (.dK (kvK (kn ++ [tl (lng ss) (st ++ [b] ++ found)])))) := (s.trans s2).mut hd
        refine ⟨_, rfl, .inl ⟨_, rfl, S_sz (by simp; omega), _, rfl, ?_, ?_⟩⟩
        · rw [S_app]; exact S_sz (by simp; omega)
        refine ⟨_, rfl, .inl ⟨_, rfl, S_sz (by simp), _, rfl, ?_, ?_⟩⟩
        · rw [S_app, S_app]; exact S_sz (by simp; omega)
        rw [S_app, S_app, List.nil_append]
        refine ⟨_, rfl, r, dx, _, rfl, s3 _ _ hr', flds_no _ _, _, rfl, r, fl, ss, st ++ [b] ++ found ++ [b'], rfl, hR.same s3, ?_⟩
        refine ⟨m, Nat.lt_succ_self _, found ++ [b'], kn ++ [tl (lng ss) (st ++ [b] ++ found)], some (.str (S (tl (lng ss) (st ++ [b] ++ found)))), ?_, s3, upd_same, hp', by rw [List.length_append]; simp; omega, by rw [List.length_append, List.length_append, hk]; rfl⟩
        rw [← List.append_assoc]; rfl
theorem mem_words : ∀ {n : Nat} {w : Wd}, w.length = n → w ∈ words n
  | 0, w, h => by rw [List.length_eq_zero_iff.mp h]; simp [words]
  | n + 1, w, h => by
    have hne : w ≠ [] := fun e => by rw [e] at h; cases h
    have e := List.dropLast_concat_getLast hne
    have hl : w.dropLast.length = n := by rw [List.length_dropLast]; omega
    rw [words, List.mem_flatMap]
    refine ⟨w.dropLast, mem_words hl, ?_⟩
    rw [← e, List.dropLast_concat]
    cases w.getLast hne <;> simp
def upto (n : Nat) : List Wd := (List.range (n + 1)).flatMap words
theorem mem_upto {n : Nat} {w : Wd} (h : w.length ≤ n) : w ∈ upto n := List.mem_flatMap.mpr ⟨w.length, List.mem_range.mpr (by omega), mem_words rfl⟩
theorem kn_le {kn : List Wd} (nd : kn.Nodup) (h : ∀ w ∈ kn, w.length ≤ 4) : kn.length ≤ 31 := nodup_le (m := upto 4) nd fun w hw => mem_upto (h w hw)
theorem mem_false {x : Wd} {l : List Wd} (h : mem x l = false) : x ∉ l := fun q => by rw [mem_iff.mpr q] at h; cases h
theorem nd_snoc {kn : List Wd} {x : Wd} (nd : kn.Nodup) (h : x ∉ kn) : (kn ++ [x]).Nodup :=
  List.nodup_append.mpr ⟨nd, by simp, fun a ha b hb => by rw [List.mem_singleton.mp hb]; intro z; exact h (z ▸ ha)⟩
def LayA (H : Hp) (n : Nat) (a : Addr) (w : Wd) : Prop := ∃ msg : Wd, msg.length ≤ n ∧ H a = some (.tup [.str (S msg), .str (S w)])
structure KnOk (kn la : List Wd) : Prop where
  nd : kn.Nodup
  l4 : ∀ w ∈ kn, w.length ≤ 4
  sub : ∀ w ∈ la, w.length ≤ 4
  le : la.length ≤ kn.length
theorem KnOk.le31 {kn la : List Wd} (h : KnOk kn la) : kn.length ≤ 31 := kn_le h.nd h.l4
theorem KnOk.snoc {kn la : List Wd} {x : Wd} (h : KnOk kn la) (hx : x ∉ kn) (hl : x.length ≤ 4) : KnOk (kn ++ [x]) (la ++ [x]) where
  nd := nd_snoc h.nd hx
  l4 := fun w hw => by
    rcases List.mem_append.mp hw with q | q
    · exact h.l4 w q
    · rw [List.mem_singleton.mp q]; exact hl
  sub := fun w hw => by
    rcases List.mem_append.mp hw with q | q
    · exact h.sub w q
    · rw [List.mem_singleton.mp q]; exact hl
  le := by rw [List.length_append, List.length_append]; have := h.le; simp; omega
abbrev s_walk : Stmt := top 24
theorem sc_walk : FnScope ["rule", "known", "layer", "later", "message", "standing", "bit", "line", "there"] ["rule"] (defScope s_walk) := ⟨rfl, rfl, rfl, by decide +kernel, rfl, by decide +kernel, by decide +kernel⟩
-- slots: 0 rule, 1 known, 2 layer, 3 later, 4 message, 5 standing, 6 bit, 7 line, 8 there
theorem ok_walk {P : Program} {w : World} {K : PySem.W.Frag} {mg : Str → Option Value} {base : Heap} {f C : Addr} {fd : FuncData} (F : FnP K "walk" "walk" s_walk [] f fd) (T : TX K mg C) (c_grown : Cal P w K mg base 3 "grown" ["rule", "standing", "bit"] (sp_grown K C)) (c_is_border_clean : Cal P w K mg base 1 "is_border_clean" ["rule", "standing"] (sp_is_border_clean K C)) (c_last_bits : Cal P w K mg base 1 "last_bits" ["line", "many"] (sp_last_bits K C)) (c_width : Cal P w K mg base 3 "width" ["rule"] (sp_width K C)) : FnOk P w K mg base CX0 4 f fd ["rule"] (sp_walk K C) := by
  refine FunD.ok (k := 3) F sc_walk (fun vs H Q E h => ?_) (fun cdv A outer s H vs Q E hr h => ?_)
  · obtain ⟨r, fl, ss, c, rfl, _⟩ := h; rfl
  · obtain ⟨r, fl, ss, c, rfl, hR, hK, q⟩ := h
    obtain ⟨sh, dx, t, ts, hr', ht, hts⟩ := id hR
    have hlg := sh.lng
    have hf0 := hK.f0
    have hf1 := hK.f1
    have hl3 := hK.l1
    have hwd : wd fl ss ≤ 4 := by unfold wd; omega
    refine ⟨_, (PSs.nox (pss_cons (ps_par (i := 1) (j := 2) rfl sc_walk.nd rfl rfl (by decide) rfl rfl (pa_cons (pe_disp (pps_cons pe_str pe_bl pps_nil) (by rfl) (by rfl) (fun z => by cases z) (by decide)) (pa_cons (pe_lst (pa_cons (pe_tup (pa_cons pe_str (pa_cons pe_str pa_nil))) pa_nil)) pa_nil)) (by rfl))
      (pss_cons (ps_while PassesOwn.never (pt_cmpR op_gt (pe_callB (cln (K := K) rfl) (by rfl) T.n_len (by decide +kernel) (pa_cons (pv 2) pa_nil)) pe_int (nomark _)) (pss_cons (ps_set (i := 3) sc_walk.nd rfl (by first | exact Or.inl rfl | exact Or.inr rfl) (pe_lst pa_nil))
      (pss_cons (ps_for PassesOwn.never rfl (pil (K := K) rfl (pv 2)) (pgt (K := K) (n := 2) rfl rfl (pgs_cons (pg_name (i := 4) sc_walk.nd rfl (by first | exact Or.inl rfl | exact Or.inr rfl)) (pgs_cons (pg_name (i := 5) sc_walk.nd rfl (by first | exact Or.inl rfl | exact Or.inr rfl)) pgs_nil))) (pss_one (ps_for PassesOwn.never rfl (pi_str T.bits) (pg_name (i := 6) sc_walk.nd rfl (by first | exact Or.inl rfl | exact Or.inr rfl)) (pss_cons (ps_set (i := 7) sc_walk.nd rfl (by first | exact Or.inl rfl | exact Or.inr rfl) (c_grown.pe hr (by rfl) (pa_cons (pv 0) (pa_cons (pv 5) (pa_cons (pv 6) pa_nil)))))
      (pss_cons (ps_set (i := 8) sc_walk.nd rfl (by first | exact Or.inl rfl | exact Or.inr rfl) (c_last_bits.pe hr (by rfl) (pa_cons (pv 7) (pa_cons (c_width.pe hr (by rfl) (pa_cons (pv 0) pa_nil)) pa_nil))))
      (pss_cons (ps_if (PW.pt (pw_or (pt_cmpR op_in_str (pef (K := K) rfl (pv 0)) (pv 7) rfl) (pw_or1 (pt_not (pt_val (c_is_border_clean.pe hr (by rfl) (pa_cons (pv 0) (pa_cons (pv 8) pa_nil)))))))) (pss_one (ps_ret (pe_tup (pa_cons (pe_joined (.cons (pe_fmt (pv 4)) (.cons (pe_fmt (pv 6)) .nil))) (pa_cons (pv 1) pa_nil))))) pss_nil)
      (pss_one (ps_if (pt_cmp (pc_dnotin (hu_of hr) (pv 8) (pv 1))) (pss_cons (ps_dput (hu_of hr) (pv 1) (pv 8) pe_bl rfl)
      (pss_one (ps_expr (papp (K := K) rfl (pv 3) (pa_cons (pe_tup (pa_cons (pe_joined (.cons (pe_fmt (pv 4)) (.cons (pe_fmt (pv 6)) .nil))) (pa_cons (pv 8) pa_nil))) pa_nil))))) pss_nil))))))))
      (pss_one (ps_set (i := 2) sc_walk.nd rfl (by first | exact Or.inl rfl | exact Or.inr rfl) (pv 3))))))
      (pss_one (ps_ret (pe_tup (pa_cons pe_non (pa_cons (pv 1) pa_nil)))))))), ?_⟩
    refine fun kd hkd => ⟨by rw [upd_same], [((.inr (S []) : Key), V.bl true)], by rw [S_nil]; rfl, by simp, ?_⟩
    refine ⟨by show 2 ≤ sizeLine; decide, fun a0 ha0 => ⟨by show 1 ≤ sizeLine; decide, fun ol hol => ?_⟩⟩
    refine ⟨_, _, rfl, ?_⟩
    have sk : Same H (upd (upd H kd (.dK [])) kd (.dK (mergeK [] [((.inr (S []) : Key), V.bl true)]))) := (Same.new hkd).mut hkd
    have sk1 := sk.trans (.new (o := .tup [.str "", .str ""]) ha0)
    have hkdv : upd (upd H kd (.dK [])) kd (.dK (mergeK [] [((.inr (S []) : Key), V.bl true)])) kd = some (.dK (kvK [[]])) := upd_same
    generalize upd (upd H kd (.dK [])) kd (.dK (mergeK [] [((.inr (S []) : Key), V.bl true)])) = H3 at sk sk1 hkdv ha0 hol
    have hol3 : H3 ol = none := by
      cases e : H3 ol with
      | none => rfl
      | some o => rw [Same.new ha0 _ _ e] at hol; cases hol
    refine ⟨fun m σ H' => ∃ (kn layer : List Wd) (ly : Addr) (os : List Addr) (t3 t4 t5 t6 t7 t8 : Option V), σ = [some (.ref r), some (.ref kd), some (.ref ly), t3, t4, t5, t6, t7, t8] ∧ Same H H' ∧ H' ly = some (.lst (os.map V.ref)) ∧ Paired (LayA H' (41 - m)) os layer ∧ H' kd = some (.dK (kvK kn)) ∧ wlkC fl ss m layer kn = some c ∧ m ≤ 40 ∧ KnOk kn layer,
      ⟨40, [[]], [[]], ol, [a0], none, none, none, none, none, none, rfl, sk1.trans (.new hol), upd_same, paired_one ⟨[], by simp, ?_⟩, ?_, hK.run, by omega, ⟨by simp, by simp, by simp, by simp⟩⟩, ?_⟩
    · rw [upd_ne (fun z => by rw [← z, upd_same] at hol; cases hol), upd_same, ← S_nil]
    · rw [upd_ne (fun z => by rw [z, hol3] at hkdv; cases hkdv)]
      exact Same.new ha0 _ _ hkdv
    rintro m σ H' ⟨kn, layer, ly, os, t3, t4, t5, t6, t7, t8, rfl, s, hl', hos, hd', he, hm40, hkn⟩
    have hosl : os.length = layer.length := Paired.length hos
    have h31 := hkn.le31
    have hle := hkn.le
    cases m with
    | zero => cases he
    | succ m =>
    refine ⟨_, rfl, _, _, rfl, .inl ⟨_, lq hl', rfl⟩, _, _, rfl, rfl, _, rfl, ?_⟩
    unfold wlkC at he
    cases layer with
    | nil =>
      have e0 : os.length = 0 := hosl
      rw [show decide ((((os.map V.ref).length : Nat) : Int) > 0) = false by rw [decide_eq_false_iff_not, List.length_map]; omega]
      simp only at he
      cases he
      refine ⟨_, rfl, by show 2 ≤ sizeLine; decide, fun pn hpn => ?_⟩
      exact q _ pn _ _ (s.trans (.new hpn)) upd_same rfl
    | cons h0 rest =>
      simp only at he
      rw [show decide ((((os.map V.ref).length : Nat) : Int) > 0) = true by rw [decide_eq_true_eq, List.length_map]; simp at hosl; omega]
      refine ⟨fun σ' H2' => ∃ m', m' < m + 1 ∧ ∃ (kn layer : List Wd) (ly : Addr) (os : List Addr) (t3 t4 t5 t6 t7 t8 : Option V), σ' = [some (.ref r), some (.ref kd), some (.ref ly), t3, t4, t5, t6, t7, t8] ∧ Same H H2' ∧ H2' ly = some (.lst (os.map V.ref)) ∧ Paired (LayA H2' (41 - m')) os layer ∧ H2' kd = some (.dK (kvK kn)) ∧ wlkC fl ss m' layer kn = some c ∧ m' ≤ 40 ∧ KnOk kn layer, fun σ' H' n => n, ?_⟩
      refine ⟨by show 0 ≤ sizeLine; exact Nat.zero_le _, fun lt hlt => ?_⟩
      have hltH : H lt = none := s.free hlt
      have nll : ly ≠ lt := fun z => by rw [z, hlt] at hl'; cases hl'
      refine ⟨_, rfl, ly, rfl, ⟨_, lq (Same.new hlt _ _ hl')⟩, ?_⟩
      generalize h0 :: rest = layer at he hos hosl hkn hle
      have hl1 := Same.new (o := .lst []) hlt _ _ hl'
      have hos1 : Paired (LayA (upd H' lt (.lst [])) (41 - (m + 1))) os layer := Paired.mapP hos fun _ _ ⟨ms, g1, g2⟩ => ⟨ms, g1, Same.new hlt _ _ g2⟩
      refine for_sit (sit_list (os.map V.ref)) (fun i σ H4 => ∃ (kn' la' : List Wd) (os' : List Addr) (t4 t5 t6 t7 t8 : Option V), σ = [some (.ref r), some (.ref kd), some (.ref ly), some (.ref lt), t4, t5, t6, t7, t8] ∧ Same H H4 ∧ H4 ly = some (.lst (os.map V.ref)) ∧ Paired (LayA H4 (41 - (m + 1))) os layer ∧ H4 kd = some (.dK (kvK kn')) ∧ H4 lt = some (.lst (os'.map V.ref)) ∧ Paired (LayA H4 (41 - m)) os' la' ∧ layC fl ss (layer.drop i) kn' la' (fun kn la => wlkC fl ss m la kn) = some c ∧ KnOk kn' la') ?_ (fun i σ H4 _ h => ?_) ?_ ?_
      · exact ⟨kn, [], [], _, _, _, _, _, rfl, s.trans (.new hlt), hl1, hos1, Same.new hlt _ _ hd', upd_same, .nil, he, ⟨hkn.nd, hkn.l4, (fun w hw => by cases hw), Nat.zero_le _⟩⟩
      · obtain ⟨_, _, _, _, _, _, _, _, _, _, h2, _⟩ := h
        exact lq h2
      · rintro i x σ H4 hi hx ⟨kn', la', os', t4, t5, t6, t7, t8, rfl, s4, hl4, hos4, hd4, hlt4, hla4, he4, hk4⟩
        obtain ⟨oa, hoa, rfl⟩ := map_get hx
        obtain ⟨here, hhere, msg, hmsg, hoat⟩ := paired_get hos4 hoa
        have hh4 : here.length ≤ 4 := hkn.sub here (List.mem_of_getElem? hhere)
        have hdrop : layer.drop i = here :: layer.drop (i + 1) := by
          obtain ⟨h1, h2⟩ := List.getElem?_eq_some_iff.mp hhere
          rw [← h2]; exact List.drop_eq_getElem_cons h1
        rw [hdrop] at he4
        have he5 : bitC fl ss here [false, true] kn' la' (fun kn la => layC fl ss (layer.drop (i + 1)) kn la (fun kn la => wlkC fl ss m la kn)) = some c := he4
        refine ⟨oa, _, rfl, tq hoat, rfl, _, _, rfl, _, _, rfl, rfl, ?_⟩
        refine ⟨_, rfl, ?_⟩
        rw [S_01]
        refine for_sit (sit_word [false, true]) (fun j σ H5 => ∃ (kn' la' : List Wd) (os' : List Addr) (t6 t7 t8 : Option V), σ = [some (.ref r), some (.ref kd), some (.ref ly), some (.ref lt), some (.str (S msg)), some (.str (S here)), t6, t7, t8] ∧ Same H H5 ∧ H5 ly = some (.lst (os.map V.ref)) ∧ Paired (LayA H5 (41 - (m + 1))) os layer ∧ H5 kd = some (.dK (kvK kn')) ∧ H5 lt = some (.lst (os'.map V.ref)) ∧ Paired (LayA H5 (41 - m)) os' la' ∧ bitC fl ss here ([false, true].drop j) kn' la' (fun kn la => layC fl ss (layer.drop (i + 1)) kn la (fun kn la => wlkC fl ss m la kn)) = some c ∧ KnOk kn' la')
          ⟨kn', la', os', _, _, _, rfl, s4, hl4, hos4, hd4, hlt4, hla4, he5, hk4⟩ (fun _ _ _ _ _ => trivial) ?_ ?_
        · clear he4 he5 hk4 hla4 hlt4 hd4 hoat hos4 hl4
          rintro j x σ H5 hj ⟨bb, hbb, rfl⟩ ⟨kn', la', os', t6, t7, t8, rfl, s5, hl5, hos5, hd5, hlt5, hla5, he5, hk5⟩
          have hj2 : j < 2 := hj
          have hdr : [false, true].drop j = bb :: [false, true].drop (j + 1) := by
            obtain ⟨h1, h2⟩ := List.getElem?_eq_some_iff.mp hbb
            rw [← h2]; exact List.drop_eq_getElem_cons h1
          rw [hdr] at he5
          have hstep : bitC fl ss here (bb :: [false, true].drop (j + 1)) kn' la' (fun kn la => layC fl ss (layer.drop (i + 1)) kn la (fun kn la => wlkC fl ss m la kn)) = (match stC fl ss here bb kn' la' with
            | none => none
            | some none => some false
            | some (some v) => bitC fl ss here ([false, true].drop (j + 1)) v.1 v.2 (fun kn la => layC fl ss (layer.drop (i + 1)) kn la (fun kn la => wlkC fl ss m la kn))) := rfl
          rw [hstep] at he5
          cases ep : pin ss (lng ss) 20 (here ++ [bb]) [] [] with
          | none =>
            have : stC fl ss here bb kn' la' = none := by unfold stC; rw [ep]
            rw [this] at he5; cases he5
          | some o =>
          cases o with
          | none =>
            have : stC fl ss here bb kn' la' = none := by unfold stC; rw [ep]
            rw [this] at he5; cases he5
          | some more =>
          have hst : stC fl ss here bb kn' la' = (if inl' fl (here ++ [bb] ++ more) || !bc fl (tl (wd fl ss) (here ++ [bb] ++ more)) then some none
            else if mem (tl (wd fl ss) (here ++ [bb] ++ more)) kn' then some (some (kn', la')) else some (some (kn' ++ [tl (wd fl ss) (here ++ [bb] ++ more)], la' ++ [tl (wd fl ss) (here ++ [bb] ++ more)]))) := by unfold stC; rw [ep]
          rw [hst] at he5
          have hm := pin_len ss (lng ss) 20 _ _ _ _ ep
          have hml : more.length ≤ 20 := by simpa using hm
          have hll : (here ++ [bb] ++ more).length ≤ 25 := by simp; omega
          have htl := tl_len (wd fl ss) (here ++ [bb] ++ more)
          have hk31 := hk5.le31
          have hkle := hk5.le
          have hosl5 : os'.length = la'.length := Paired.length hla5
          refine ⟨_, rfl, _, rfl, _, rfl, r, fl, ss, here, bb, more, rfl, hR.same s5, by omega, ep, fun H6 s6 => ?_⟩
          have s56 := s5.trans s6
          refine ⟨_, rfl, _, rfl, r, fl, ss, rfl, hR.same s56, hf0, fun H7 s7 => ⟨here ++ [bb] ++ more, (wd fl ss : Nat), rfl, by omega, ?_⟩⟩
          have s67 := s6.trans s7
          have sH7 := s5.trans s67
          refine ⟨_, rfl, r, C, dx, _, _, rfl, sH7 _ _ hr', T.cl, T.nF, flds_flag _ _, _, rfl, _, _, rfl, rfl, _, rfl, ?_⟩
          show if inl' fl (here ++ [bb] ++ more) = true then _ else _
          have hret : ∀ pn, H7 pn = none → c = false → Q (.ref pn) (upd H7 pn (.tup [.str (S msg ++ S [bb]), .ref kd])) := fun pn hpn hc => q _ pn _ _ (sH7.trans (.new hpn)) upd_same (by rw [hc]; exact ⟨_, rfl⟩)
          have hms : msg.length ≤ 41 := by omega
          cases e1 : inl' fl (here ++ [bb] ++ more) with
          | true =>
            rw [e1] at he5
            have hc : c = false := by simpa using he5.symm
            rw [if_pos rfl]
            refine ⟨_, rfl, .inl ⟨_, rfl, S_sz (by omega), _, rfl, ?_, _, rfl, .inl ⟨_, rfl, S_sz (by simp), _, rfl, ?_, _, rfl, by show 2 ≤ sizeLine; decide, fun pn hpn => ?_⟩⟩⟩
            · rw [emp_app, S_len]; exact le_sz (by omega)
            · rw [emp_app, len_app, S_len, S_len]; exact le_sz (by simp; omega)
            · rw [emp_app]; exact hret pn hpn hc
          | false =>
            rw [e1] at he5
            rw [if_neg (by decide)]
            refine ⟨_, rfl, _, rfl, r, fl, ss, tl (wd fl ss) (here ++ [bb] ++ more), rfl, hR.same sH7, by omega, _, rfl, ?_⟩
            cases e2 : bc fl (tl (wd fl ss) (here ++ [bb] ++ more)) with
            | false =>
              rw [e2] at he5
              have hc : c = false := by simpa using he5.symm
              refine ⟨_, rfl, .inl ⟨_, rfl, S_sz (by omega), _, rfl, ?_, _, rfl, .inl ⟨_, rfl, S_sz (by simp), _, rfl, ?_, _, rfl, by show 2 ≤ sizeLine; decide, fun pn hpn => ?_⟩⟩⟩
              · rw [emp_app, S_len]; exact le_sz (by omega)
              · rw [emp_app, len_app, S_len, S_len]; exact le_sz (by simp; omega)
              · rw [emp_app]; exact hret pn hpn hc
            | true =>
              rw [e2] at he5
              simp only [Bool.not_true, Bool.or_false, Bool.false_eq_true, if_false] at he5
              have hd7 := s67 _ _ hd5
              have hl7 := s67 _ _ hl5
              have hlt7 := s67 _ _ hlt5
              have hos7 : Paired (LayA H7 (41 - (m + 1))) os layer := Paired.mapP hos5 fun _ _ ⟨ms, g1, g2⟩ => ⟨ms, g1, s67 _ _ g2⟩
              have hla7 : Paired (LayA H7 (41 - m)) os' la' := Paired.mapP hla5 fun _ _ ⟨ms, g1, g2⟩ => ⟨ms, g1, s67 _ _ g2⟩
              refine ⟨_, rfl, _, rfl, kd, _, rfl, DGet.k (k := .inr (S (tl (wd fl ss) (here ++ [bb] ++ more)))) hd7, _, rfl, ?_⟩
              rw [kvK_get]
              cases em : mem (tl (wd fl ss) (here ++ [bb] ++ more)) kn' with
              | true =>
                rw [em] at he5
                exact ⟨kn', la', os', _, _, _, rfl, sH7, hl7, hos7, hd7, hlt7, hla7, he5, hk5⟩
              | false =>
                rw [em] at he5
                refine ⟨_, rfl, _, rfl, kd, _, rfl, DPut.k (k := .inr (S (tl (wd fl ss) (here ++ [bb] ++ more)))) hd7 (by rw [kvK_len]; exact lt_sz (by omega)), ?_⟩
                rw [kvK_put em]
                have hl8 : upd H7 kd (.dK (kvK (kn' ++ [tl (wd fl ss) (here ++ [bb] ++ more)]))) ly = some (.lst (os.map V.ref)) := keepO hl7 hd7 (by intro q; cases q)
                have hlt8 : upd H7 kd (.dK (kvK (kn' ++ [tl (wd fl ss) (here ++ [bb] ++ more)]))) lt = some (.lst (os'.map V.ref)) := keepO hlt7 hd7 (by intro q; cases q)
                have hos8 : Paired (LayA (upd H7 kd (.dK (kvK (kn' ++ [tl (wd fl ss) (here ++ [bb] ++ more)])))) (41 - (m + 1))) os layer := Paired.mapP hos7 fun _ _ ⟨ms, g1, g2⟩ => ⟨ms, g1, keepO g2 hd7 (by intro q; cases q)⟩
                have hla8 : Paired (LayA (upd H7 kd (.dK (kvK (kn' ++ [tl (wd fl ss) (here ++ [bb] ++ more)])))) (41 - m)) os' la' := Paired.mapP hla7 fun _ _ ⟨ms, g1, g2⟩ => ⟨ms, g1, keepO g2 hd7 (by intro q; cases q)⟩
                have s8 : Same H (upd H7 kd (.dK (kvK (kn' ++ [tl (wd fl ss) (here ++ [bb] ++ more)])))) := sH7.mut hkd
                have hd8 : upd H7 kd (.dK (kvK (kn' ++ [tl (wd fl ss) (here ++ [bb] ++ more)]))) kd = some (.dK (kvK (kn' ++ [tl (wd fl ss) (here ++ [bb] ++ more)]))) := upd_same
                generalize upd H7 kd (.dK (kvK (kn' ++ [tl (wd fl ss) (here ++ [bb] ++ more)]))) = H8 at hl8 hlt8 hos8 hla8 s8 hd8
                refine ⟨_, rfl, .inl ⟨rfl, _, lq hlt8⟩, _, rfl, .inl ⟨_, rfl, S_sz (by omega), _, rfl, ?_, _, rfl, .inl ⟨_, rfl, S_sz (by simp), _, rfl, ?_, _, rfl, by show 2 ≤ sizeLine; decide, fun pn hpn => ?_⟩⟩⟩
                · rw [emp_app, S_len]; exact le_sz (by omega)
                · rw [emp_app, len_app, S_len, S_len]; exact le_sz (by simp; omega)
                rw [emp_app, S_app]
                have s9 := Same.new (o := .tup [.str (S (msg ++ [bb])), .str (S (tl (wd fl ss) (here ++ [bb] ++ more)))]) hpn
                have hpv : upd H8 pn (.tup [.str (S (msg ++ [bb])), .str (S (tl (wd fl ss) (here ++ [bb] ++ more)))]) pn = some (.tup [.str (S (msg ++ [bb])), .str (S (tl (wd fl ss) (here ++ [bb] ++ more)))]) := upd_same
                generalize upd H8 pn (.tup [.str (S (msg ++ [bb])), .str (S (tl (wd fl ss) (here ++ [bb] ++ more)))]) = H9 at s9 hpv
                have hlt9 := s9 _ _ hlt8
                refine ⟨lt, _, _, rfl, rfl, hlt9, by rw [List.length_map]; exact lt_sz (by omega), ?_⟩
                refine ⟨kn' ++ [tl (wd fl ss) (here ++ [bb] ++ more)], la' ++ [tl (wd fl ss) (here ++ [bb] ++ more)], os' ++ [pn], _, _, _, rfl, (s8.trans s9).mut hltH, ?_, ?_, ?_, ?_, ?_, he5, hk5.snoc (mem_false em) (by omega)⟩
                · rw [upd_ne nll]; exact s9 _ _ hl8
                · exact Paired.mapP hos8 fun _ _ ⟨ms, g1, g2⟩ => ⟨ms, g1, keepO (s9 _ _ g2) hlt9 (by intro q; cases q)⟩
                · exact keepO (s9 _ _ hd8) hlt9 (by intro q; cases q)
                · rw [upd_same, List.map_append]; rfl
                · refine paired_snoc (Paired.mapP hla8 fun _ _ ⟨ms, g1, g2⟩ => ⟨ms, g1, keepO (s9 _ _ g2) hlt9 (by intro q; cases q)⟩) ⟨msg ++ [bb], ?_, keepO hpv hlt9 (by intro q; cases q)⟩
                  rw [List.length_append]; simp; omega
        · rintro σ H5 ⟨kn', la', os', t6, t7, t8, rfl, s5, hl5, hos5, hd5, hlt5, hla5, he5, hk5⟩
          exact ⟨kn', la', os', _, _, _, _, _, rfl, s5, hl5, hos5, hd5, hlt5, hla5, he5, hk5⟩
      · rintro σ H4 ⟨kn', la', os', t4, t5, t6, t7, t8, rfl, s4, hl4, hos4, hd4, hlt4, hla4, he4, hk4⟩
        refine ⟨_, rfl, m, Nat.lt_succ_self _, kn', la', lt, os', _, _, _, _, _, _, rfl, s4, hlt4, hla4, hd4, ?_, by omega, hk4⟩
        rw [List.length_map, hosl, List.drop_length] at he4
        exact he4
abbrev s_spoiled : Stmt := top 25
theorem sc_spoiled : FnScope ["rule"] ["rule"] (defScope s_spoiled) := ⟨rfl, rfl, rfl, by decide +kernel, rfl, by decide +kernel, by decide +kernel⟩
-- slots: 0 rule
theorem ok_spoiled {P : Program} {w : World} {K : PySem.W.Frag} {mg : Str → Option Value} {base : Heap} {f C : Addr} {fd : FuncData} (F : FnP K "spoiled" "spoiled" s_spoiled [] f fd) (T : TX K mg C) (c_walk : Cal P w K mg base 4 "walk" ["rule"] (sp_walk K C)) : FnOk P w K mg base CX0 5 f fd ["rule"] (sp_spoiled K C) := by
  refine FunD.ok (k := 4) F sc_spoiled (fun vs H Q E h => ?_) (fun cdv A outer s H vs Q E hr h => ?_)
  · obtain ⟨r, fl, ss, c, rfl, _⟩ := h; rfl
  · obtain ⟨r, fl, ss, c, rfl, hR, hK, q⟩ := h
    refine ⟨_, (PSs.nox (pss_one (ps_ret (pe_ix (ixt (K := K) rfl) (c_walk.pe hr (by rfl) (pa_cons (pv 0) pa_nil)) pe_int (fun _ _ => rfl))))), ?_⟩
    exact ⟨_, rfl, r, fl, ss, c, rfl, hR, hK, fun H1 a x y s1 ha hx => ⟨_, _, _, _, rfl, rfl, tq ha, atI_nat (j := 0) rfl, q _ x s1 hx⟩⟩
abbrev s_is_clean : Stmt := top 26
theorem sc_is_clean : FnScope ["rule"] ["rule"] (defScope s_is_clean) := ⟨rfl, rfl, rfl, by decide +kernel, rfl, by decide +kernel, by decide +kernel⟩
-- slots: 0 rule
theorem ok_is_clean {P : Program} {w : World} {K : PySem.W.Frag} {mg : Str → Option Value} {base : Heap} {f C : Addr} {fd : FuncData} (F : FnP K "is_clean" "is_clean" s_is_clean [] f fd) (T : TX K mg C) (c_spoiled : Cal P w K mg base 5 "spoiled" ["rule"] (sp_spoiled K C)) : FnOk P w K mg base CX0 6 f fd ["rule"] (sp_is_clean K C) := by
  refine FunD.ok (k := 5) F sc_is_clean (fun vs H Q E h => ?_) (fun cdv A outer s H vs Q E hr h => ?_)
  · obtain ⟨r, fl, ss, c, rfl, _⟩ := h; rfl
  · obtain ⟨r, fl, ss, c, rfl, hR, hK, q⟩ := h
    refine ⟨_, (PSs.nox (pss_one (ps_ret (pe_cmpR op_isN (c_spoiled.pe hr (by rfl) (pa_cons (pv 0) pa_nil)) pe_non (nomark _))))), ?_⟩
    refine ⟨_, rfl, r, fl, ss, c, rfl, hR, hK, fun H1 x s1 hx => ?_⟩
    cases c with
    | true => cases (show x = .non from hx); exact ⟨rfl, q _ s1⟩
    | false => obtain ⟨z, rfl⟩ := (show ∃ z, x = .str z from hx); exact ⟨rfl, q _ s1⟩
end UF
set_option maxHeartbeats 4000000
namespace UF
open PySem PySem.Spec PyProof.Rows L2
open PySem.W (kxs_mw KxsFacts kxs_ValueError)
/-! ### super().__init__(..) of an exception class over ValueError -/
section
variable {prog : Program} {w : World} {A : Around} {E : Value → Shared → Prop} {h : Heap} {g : Array GenState} {d : Drawn} {t : Nat} {os : OsState}
variable {nm q : Str} {C N : Addr} {bs bm : List Value} {hdct : Bool} {sn : List Str} {sub : List Value} {ab : Bool} {col : Option Bool} {dd : Option Addr} {k0 k1 k2 k3 k5 : Option Value}
theorem call_mwV {u e t0 : Addr} {rest : List Value} {Q : Value → Shared → Prop}
    (hC : h.get? C = some (excClassObj nm q C N bs bm hdct sn sub ab col dd k0 k1 k2 k3 k5 "ValueError.__new__")) (he : h.get? e = some (HandSPX.excO C t0)) (hu : h.get? u = some (kxs_mw "ValueError.__init__" e)) (hrest : rest.length ≤ sizeLine)
    (hq : ∀ h' t1, (∀ b o, b ≠ e → h.get? b = some o → h'.get? b = some o) → h'.get? e = some (HandSPX.excO C t1) → Q .none ⟨h', g, d, t, os⟩) :
    wpAny (model prog w) A (call (.ref u) rest) Q E ⟨h, g, d, t, os⟩ := by
  refine wpAny_call (codeAny_of_tree ?_)
  show wpAny _ A.in1 (callAny (.ref u) ⟨rest, []⟩) _ _ _
  simp only [callAny]
  refine wpAny_bind (wpAny_load hu ?_)
  simp only [kxs_mw, show (Value.type "method-wrapper" == Value.type "method" || Value.type "method-wrapper" == Value.type "builtin_function_or_method" || Value.type "method-wrapper" == Value.type "method-wrapper") = true by decide, if_true]
  refine W.KFB.if_so (by decide) ?_
  refine wpAny_bind (PySem.ESX.check_bound F.excBase_ValueError hC he rfl ?_)
  refine wpAny_bind (wpAny_pure (wpAny_pure ?_))
  refine ⟨Code.quiet_builtin _ (by decide +kernel), codeAny_builtin F.excBase_ValueError.initEntry ?_⟩
  rw [Around.under_plainId F.excBase_ValueError.init.plain _]
  wp_walk
  refine hq _ h.objs.size (fun b o hb ho => ?_) ?_
  · rw [Heap.get?_update_other _ _ (Ne.symm hb)]
    exact Heap.get?_push_of_some _ ho
  · rw [Heap.get?_update_self _ (Heap.get?_push_of_some _ he) rfl]
    rfl
end
theorem cw1 {M : Model} {A : Around} {E : Value → Shared → Prop} {s : Shared} {i : String} {u x : Addr} {pos : Pos} {env : Env} {e : Expr} {rest : List Expr} {Q : Value → Shared → Prop}
    (h : wpAny M A (spliced (backTo pos (starEach (e :: rest) env))) (fun vs s₁ => PySem.W.KxsAt i u x s₁.heap ∧ wpAny M A (call (.ref u) vs) Q E s₁) E s)
    (he : starEach (e :: rest) env = (false, eval e env) :: starEach rest env := by rfl) (hplain : (backTo pos (starEach rest env)).any (·.1) = false := by rfl) :
    wpAny M A (callWith pos (.ref u) [] (backTo pos (starEach (e :: rest) env)) []) Q E s := by
  rw [he] at h ⊢
  refine PySem.W.kxs_callWith (i := i) (x := x) (by show (false || (backTo pos (starEach rest env)).any (·.1)) = false; rw [hplain]; rfl) ?_
  exact Calls.evalArgs_plain h
abbrev s_Inv : Stmt := inClass (top 6) 0
def sp_Inv (D : Addr) : Sp := fun vs H Q _ => ∃ (a : Addr) (x : Str), vs = [.ref a, .str x] ∧ H a = some (exo a D none) ∧ ∀ dx, H dx = none → dx ≠ a → Q .non (upd (upd H dx (exd dx [("word", .str x)])) a (exo a D (some dx)))
/-- what the written part says of such a class and its __init__ -/
structure SupI (P : Program) (K : PySem.W.Frag) (mg : Str → Option Value) (D fI : Addr) (fd : FuncData) : Prop where
  oex : OexC K D
  fn : ∃ (cc cda : Addr) (dV kV doc pm ct oc : Value) (an od : Option Addr) (osl : Array (Option Value)) (vs : Array Value) (file : Str) (tf : Tok) (ccl cl : Value) (cdd cld : Option Addr) (ccs csl : Array (Option Value)),
    fd = PySem.W.ksFn "__init__" "InvalidRule.__init__" (defArgs s_Inv) (defBody s_Inv) (defScope s_Inv) dV kV doc pm an (.ref cda) ct cc ∧ K.lookup fI = some ⟨oc, od, .func fd, osl⟩ ∧
    PySem.W.codeIn K (.ref cda) "InvalidRule.__init__" = true ∧ K.lookup cda = some ⟨ccl, cdd, .fields vs, ccs⟩ ∧ vs[2]? = some (.str file tf) ∧ ((P.main.file : Str) == file) = true ∧
    K.lookup cc = some ⟨cl, cld, .cell (some (.ref D)), csl⟩
  sub : PySem.W.mroIn K D (.ref D) = some true
  sup : PySem.W.ks_superIn K D D "__init__" = some (some (.builtin "ValueError.__init__"))
  val : PySem.W.subIn K (.ref D) (.type "ValueError") = some true
  st : PySem.W.nsIn K cStatics "thirdparty.any" = some none
  no : PySem.W.findIn K (.ref D) "word" = some none
  mgS : mg "super" = none
  top : (P.main.scope.names.lookup ("super" : Str)).isSome = false
section
variable {P : Program} {w : World} {K : PySem.W.Frag} {mg : Str → Option Value} {base : Heap} {D fI : Addr} {fd : FuncData}
def cxS (CX : CXT) (P : Program) (w : World) (K : PySem.W.Frag) (mg : Str → Option Value) (base : Heap) (N : List Str) (env : Env) (A : Around) (outer : List Env) (s : Shared) (H : Hp) (E : XK) : Cx where
  prog := P
  w := w
  K := K
  mg := mg
  base := base
  A := A.deeper env
  N := N
  s_0 := s
  H_0 := H
  env := env
  outer := outer
  stack := env :: outer
  ex := []
  calm := true
  fn := fun _ => false
  pn := []
  xe := fun e s' => wpAny (model P w) (A.deeper env) (leaving env e) (fun _ s'' => CX outer H s E e s'') (fun e' s'' => CX outer H s E e' s'') s'
theorem inv_startS {CX : CXT} {q : Str} {scope : Scope} {f cc : Addr} {cd : Value} {A : Around} {outer : List Env} {s : Shared} {H : Hp} {E : XK} {h₁ : Heap} {x y : Str} {u1 u2 : Value} {v1 v2 : V}
    (hk : scope.kind = .function) (hd : A.handled = none) (e0 : Env0 P w K mg base A outer s H) (r1 : RelV v1 u1) (r2 : RelV v2 u2) (hxy : x ≠ y)
    (hx : scope.names.lookup x = some .local) (hy : scope.names.lookup y = some .local) (hfree : ∀ z k, scope.names.lookup z = some k → (k = .cell ∨ k = .free) → z = "__class__")
    (hc : ∃ cl cld v csl, K.lookup cc = some ⟨cl, cld, .cell v, csl⟩)
    (hns : h₁.Ns s.heap.objs.size (fun z => [(x, u1), (y, u2)].reverse.lookup z)) (hk₁ : ∀ b o, s.heap.get? b = some o → h₁.get? b = some o) (t : Nat) :
    Inv (cxS CX P w K mg base [x, y] (PySem.W.ksEnv q scope s.heap.objs.size f cd cc) A outer s H E) [] [some v1, some v2] H { s with heap := h₁, toks := t } := by
  obtain ⟨cl, cld, v, csl, hc⟩ := hc
  have hcb := e0.mod.kin _ _ hc
  have noA : ∀ b : Addr, b ∉ (cxS CX P w K mg base [x, y] (PySem.W.ksEnv q scope s.heap.objs.size f cd cc) A outer s H E).ex := fun b z => absurd (show b ∈ ([] : List Addr) from z) (by simp)
  have hl : ∀ {z : Str} {c : Addr}, (cxS CX P w K mg base [x, y] (PySem.W.ksEnv q scope s.heap.objs.size f cd cc) A outer s H E).env.cells.lookup z = some c → z = "__class__" ∧ c = cc := fun {z c} h => by
    have h : List.lookup z [(("__class__" : Str), cc)] = some c := h
    by_cases e : z = "__class__"
    · subst e
      rw [List.lookup_cons_self] at h; cases h; exact ⟨rfl, rfl⟩
    · have : (z == ("__class__" : Str)) = false := by simpa using e
      simp only [List.lookup, this] at h
      cases h
  refine ⟨⟨e0.mod, hk, rfl, rfl, Nat.le_refl _, fun y z c h1 h2 => ?_, fun y hy => ?_, fun y c h _ => ?_, fun _ => hd, Around.frames_deeper e0.frames, .inr ⟨rfl, rfl⟩, fun b z => absurd z (noA b), e0.bs, e0.bsz, fun b _ _ => noA b, fun b z => absurd z (noA b), e0.funs, e0.frf⟩,
    rfl, e0.bare, Un.kept hk₁, ⟨_, hns, fun i z v h1 h2 h3 => ?_⟩, fun z c h => ?_, e0.hok.fresh (Nat.le_refl _), fun z c h => ?_, fun p hp => absurd (show p ∈ ([] : List (Addr × Obj)) from hp) (by simp), e0.hok.kept hk₁, rfl⟩
  · rw [(hl h1).1, (hl h2).1]
  · have hy : scope.names.lookup y = some .cell ∨ scope.names.lookup y = some .free := hy
    have e : y = "__class__" := by
      rcases hy with h | h
      · exact hfree y _ h (.inl rfl)
      · exact hfree y _ h (.inr rfl)
    refine ⟨cc, ?_⟩
    show List.lookup y [(("__class__" : Str), cc)] = some cc
    rw [e, List.lookup_cons_self]
  · cases h
  · match i, h1, h2 with
    | 0, h1, h2 =>
      cases h1; cases h2
      refine ⟨u1, r1, .inl ⟨hx, ?_⟩⟩
      show [(y, u2), (x, u1)].lookup x = some u1
      have : (x == y) = false := by simpa using hxy
      simp [List.lookup, this]
    | 1, h1, h2 =>
      cases h1; cases h2
      refine ⟨u2, r2, .inl ⟨hy, ?_⟩⟩
      show [(y, u2), (x, u1)].lookup y = some u2
      simp [List.lookup]
    | n + 2, h1, h2 => cases h1
  · rw [(hl h).2]
    exact ⟨_, _, hk₁ _ _ (e0.bs _ _ hcb).1, rfl⟩
  · rw [(hl h).2]
    exact (e0.bs _ _ hcb).2
theorem sI_cell : ∀ x ∈ (defScope s_Inv).names, x.2 ≠ .cell := by decide +kernel
theorem sI_self : (defScope s_Inv).names.lookup ("self" : Str) = some .local := by decide +kernel
theorem sI_word : (defScope s_Inv).names.lookup ("word" : Str) = some .local := by decide +kernel
theorem sI_super : (defScope s_Inv).names.lookup ("super" : Str) = some .globalImplicit := by decide +kernel
theorem sI_class : (defScope s_Inv).names.lookup ("__class__" : Str) = some .free := by decide +kernel
theorem sI_free : ∀ x ∈ (defScope s_Inv).names, (x.2 = .cell ∨ x.2 = .free) → x.1 = ("__class__" : Str) := by decide +kernel
theorem inv_init_ok {CX : CXT} (G : SupI P K mg D fI fd) : FnOk P w K mg base CX 3 fI fd ["self", "word"] (sp_Inv D) := by
  obtain ⟨cc, cda, dV, kV, doc, pm, ct, oc, an, od, osl, vs0, file, tf, ccl, cl, cdd, cld, ccs, csl, rfl, lk, hcd, lcd, hv2, hfile, lcc⟩ := G.fn
  refine ⟨fun vs H Q E h => by obtain ⟨a, x, rfl, _⟩ := h; rfl, fun A outer s H args us vs Q E hr e0 hb r hsp => ?_⟩
  obtain ⟨a, x, rfl, ha, q⟩ := hsp
  obtain ⟨u0, u1, rfl, r0, r1⟩ : ∃ u0 u1, us = [u0, u1] ∧ RelV (.ref a) u0 ∧ RelV (.str x) u1 := by
    cases r with
    | cons h1 t1 => cases t1 with
      | cons h2 t2 => cases t2; exact ⟨_, _, rfl, h1, h2⟩
  cases (show u0 = Value.ref a from r0)
  have KX : K.In s.heap := e0.mod.kin.keeps fun b o e => (e0.bs b o e).1
  have lim : s.heap.NoLimit := e0.mod.nolimit.keeps fun b o e => (e0.bs b o e).1
  obtain ⟨nm, qn, N, bs, bm, sn, sub, ab, col, dd, k0, k1, k2, k3, k5, hC, hbm⟩ := G.oex.cls
  obtain ⟨t1, ho⟩ := exo_at e0.hok ha
  refine PySem.ks_codeAny_call_defAt (binds := [("self", .ref a), ("word", u1)]) (Nat.lt_of_le_of_lt (Nat.le_trans (Nat.le_add_right _ _) (Nat.le_add_right _ _)) hr.dp) (KX _ _ lk) rfl lim (PySem.W.codeRec_of KX hcd) rfl hb sI_cell (fun y hy => ?_) (fun h₁ hns hk₁ => ?_) (by rfl) (by rfl) (by rfl)
  · rcases List.mem_cons.mp hy with rfl | hy
    · exact sI_self
    · rw [List.mem_singleton.mp hy]; exact sI_word
  have I : Inv (cxS CX P w K mg base ["self", "word"] (PySem.W.ksEnv "InvalidRule.__init__" (defScope s_Inv) s.heap.objs.size fI (.ref cda) cc) A outer s H E) [] [some (.ref a), some (.str x)] H { s with heap := h₁, toks := s.toks + 2 } :=
    inv_startS (by rfl) hr.hd e0 r0 r1 (by decide +kernel) sI_self sI_word (fun z k hz hk => sI_free (z, k) (PySem.mem_of_lookup hz) hk) ⟨_, _, _, _, lcc⟩ hns hk₁ _
  have hD : ∃ oD cdD, h₁.get? D = some oD ∧ oD.data = .cls cdD := ⟨_, _, hk₁ _ _ (KX _ _ hC), rfl⟩
  obtain ⟨oD, cdD, hD1, hD2⟩ := hD
  have ho1 := hk₁ _ _ ho
  have KX1 : K.In h₁ := KX.keeps hk₁
  have hkind : (PySem.W.ksEnv "InvalidRule.__init__" (defScope s_Inv) s.heap.objs.size fI (.ref cda) cc).scope.kind = .function := rfl
  refine PySem.ks_wpAt_execs_cons (PySem.ks_wpAt_Expr_any (PySem.ks_wpAt_MethodCall ?_))
  refine PySem.ks_wpAt_super_base (env := PySem.W.ksEnv "InvalidRule.__init__" (defScope s_Inv) s.heap.objs.size fI (.ref cda) cc) (ar := (defArgs s_Inv).args.head!) sI_super sI_class (by decide) rfl (KX1 _ _ lk) rfl (by rfl) rfl (KX1 _ _ lcd) rfl hv2 hfile G.top ?_
  obtain ⟨mb, hb1, hb2⟩ := e0.mod.blt
  refine PySem.W.ks_loadName_global hkind sI_super (Calls.loadGlobal_builtin (I.mod.glob.keeps I.bk) G.mgS (hb1.keeps I.bk) ((hb2 _ (by decide +kernel)).trans (by decide +kernel)) ⟨rfl, ?_⟩)
  refine wpAny_loadName_free hkind sI_class rfl ⟨_, KX1 _ _ lcc, rfl⟩ ?_
  refine wpAny_loadName_local hkind sI_self hns (by rfl) ?_
  refine PySem.ks_wpAny_isType_cls hD1 hD2 ⟨rfl, ?_⟩
  refine PySem.ks_wpAny_call_super hD1 hD2 ho1 rfl (fun c e => by cases e) (PySem.W.looks_mroIn KX1 G.sub) (fun h2 hs2 k2 => ?_)
  have KX2 := KX1.keeps k2
  have ho2 := k2 _ _ ho1
  have hcl : PySem.W.clsIn K D = some { name := nm, bases := bs, mro := .ref D :: bm, ns := N, qualname := qn, hasDict := true, slotNames := sn, subclasses := sub, abstract := ab, collection := col, hasDel := false } := by unfold PySem.W.clsIn; rw [hC] <;> rfl
  have hsup := G.sup
  unfold PySem.W.ks_superIn at hsup
  rw [hcl] at hsup
  have hIA : PySem.W.InstAt h2 a { cls := .ref D, dict := none, data := .fields #[.ref t1, .none, .none, .none, .bool false, .none] } D none := ⟨ho2, rfl, rfl, trivial⟩
  refine PySem.W.kxs_getMethod (l₀ := .ref D :: bm) kxs_ValueError hs2 (PySem.W.looks_opaque KX2 G.st) (fun A Q E s k q => wpAny_bind ((PySem.W.looks_clsIn KX2 hcl) A _ E s k (wpAny_pure q))) rfl KX2 hsup (hIA.type.andThen (PySem.W.looks_subIn KX2 G.val)) (PySem.W.ks_ne KX2 hIA hcl) (by decide) ?_
  have I2 := I.kept (h' := h2) (t' := s.toks + 2) k2
  have I3 := I2.kept (h' := h2.push (kxs_mw "ValueError.__init__" a)) (t' := s.toks + 2 + 1) (fun b o e => Heap.get?_push_of_some _ e)
  have hu : (h2.push (kxs_mw "ValueError.__init__" a)).get? h2.objs.size = some (kxs_mw "ValueError.__init__" a) := Heap.get?_push_at rfl rfl
  have hHu : H h2.objs.size = none := I2.hok.fresh (Nat.le_refl _)
  have I4 : Inv (cxS CX P w K mg base ["self", "word"] (PySem.W.ksEnv "InvalidRule.__init__" (defScope s_Inv) s.heap.objs.size fI (.ref cda) cc) A outer s H E) [(h2.objs.size, kxs_mw "ValueError.__init__" a)] [some (.ref a), some (.str x)] H { s with heap := h2.push (kxs_mw "ValueError.__init__" a), toks := s.toks + 2 + 1 } := by
    refine I3.pins_of fun p hp => ?_
    rw [List.mem_singleton.mp hp]
    refine ⟨hu, hHu, Nat.ne_of_gt I2.lt, fun hm => ?_, fun v e => by cases e⟩
    obtain ⟨_, o, ho', _⟩ := e0.funs.mem hm
    exact Nat.lt_irrefl _ (Heap.lt_size (k2 _ _ (hk₁ _ _ ho')))
  refine cw1 (i := "ValueError.__init__") (x := a) (thn ((show PA (cxS CX P w K mg base ["self", "word"] (PySem.W.ksEnv "InvalidRule.__init__" (defScope s_Inv) s.heap.objs.size fI (.ref cda) cc) A outer s H E) _ _ from pa_cons pe_str (pa_cons (pv 1) pa_nil)).run _ _ _ _ H (fun vs H' => (∃ y z, vs = [y, z]) ∧ H' = H) I4 ⟨_, rfl, ⟨_, _, rfl⟩, rfl⟩) fun us s3 ⟨vs3, H3, I5, r3, ⟨y, z, q3⟩, q4⟩ => ?_)
  subst q3 q4
  have hu5 := (I5.pin (h2.objs.size, kxs_mw "ValueError.__init__" a) (by simp [cxS])).1
  refine ⟨hu5, ?_⟩
  obtain ⟨hp, g, dr, t, os⟩ := s3
  obtain ⟨t5, ho5⟩ := exo_at I5.hok ha
  have hlen : us.length ≤ sizeLine := by
    have := Paired.length r3
    rw [← this]; show 2 ≤ sizeLine; decide
  refine call_mwV (I5.kIn _ _ hC) ho5 hu5 hlen fun h6 t6 k6 hx6 => ?_
  have J := I5.write (t' := t) (x := a) (e := a) (o := exo a D none) (by rw [ha]; exact True.intro) (.inl rfl) k6 ⟨_, hx6⟩ (exo_ok hx6)
  have eu : upd H3 a (exo a D none) = H3 := by
    funext b
    by_cases hb : b = a
    · rw [hb, upd_same, ha]
    · rw [upd_ne hb]
  rw [eu] at J
  have J0 := J.pins_of (pins' := []) fun p hp => by cases hp
  refine wpAt_of_wpAny ?_
  refine wpAny_mono ((show PSs (cxS CX P w K mg base ["self", "word"] (PySem.W.ksEnv "InvalidRule.__init__" (defScope s_Inv) s.heap.objs.size fI (.ref cda) cc) A outer s H3 E) _ _ from pss_one (ps_ost (pv 0) (pv 1))).run [] _ _ H3 { nx := fun _ H' => Q .non H', rt := Q } J0 ?_) (fun fl s' hs => ?_) fun e s' hs => hs
  · exact ⟨_, rfl, _, rfl, a, D, rfl, G.oex, G.no, .inl ⟨ha, fun dx hdx hne => q dx hdx hne⟩⟩
  · have fin : ∀ {σ' : L2.St} {H' : Hp} {v : V} {u : Value}, Inv (cxS CX P w K mg base ["self", "word"] (PySem.W.ksEnv "InvalidRule.__init__" (defScope s_Inv) s.heap.objs.size fI (.ref cda) cc) A outer s H3 E) [] σ' H' s' → RelV v u → Q v H' → CE outer P w H3 s Q u s' :=
      fun {σ' H' v u} J rv q => ⟨v, H', J.os, J.bare, J.base, J.hok, rv, q⟩
    cases fl with
    | ret u =>
      obtain ⟨v, σ', H', J, rv, q⟩ := hs
      exact fin J rv q
    | next =>
      obtain ⟨σ', H', J, q⟩ := hs
      exact fin (v := V.non) (u := Value.none) J rfl q
    | brk =>
      obtain ⟨_, _, _, q⟩ := hs
      exact False.elim q
    | cont =>
      obtain ⟨_, _, _, q⟩ := hs
      exact False.elim q
end
end UF
set_option maxHeartbeats 4000000
namespace UF
open PySem PySem.Spec PyProof.Rows L2
/-! ### the order of the stuffs -/
theorem wlt_eq : ∀ l m : Wd, decide (l.map cd < m.map cd) = wlt l m
  | [], [] => by decide
  | [], b :: m => by
    rw [show wlt [] (b :: m) = true from rfl, decide_eq_true_eq, List.map_nil, List.map_cons]
    exact List.nil_lt_cons _ _
  | a :: l, [] => by
    rw [show wlt (a :: l) [] = false from rfl, decide_eq_false_iff_not, List.map_nil, List.map_cons]
    exact List.not_lt_nil _
  | a :: l, b :: m => by
    have ih := wlt_eq l m
    show _ = if a = b then wlt l m else (!a && b)
    rw [← ih, List.map_cons, List.map_cons, Bool.eq_iff_iff, decide_eq_true_eq, List.cons_lt_cons_iff]
    cases a <;> cases b <;> simp [cd]
theorem wlt_asym : ∀ {l m : Wd}, wlt l m = true → wlt m l = false
  | [], [], h => by cases h
  | [], b :: m, h => rfl
  | a :: l, [], h => by cases h
  | a :: l, b :: m, h => by
    simp only [wlt] at h ⊢
    by_cases e : a = b
    · rw [if_pos e] at h
      rw [if_pos e.symm]; exact wlt_asym h
    · rw [if_neg e] at h
      rw [if_neg (Ne.symm e)]
      cases a <;> cases b <;> simp_all
theorem wlt_tot : ∀ {l m : Wd}, wlt l m = false → wlt m l = false → l = m
  | [], [], _, _ => rfl
  | [], b :: m, h, _ => by cases h
  | a :: l, [], _, h => by cases h
  | a :: l, b :: m, h, h2 => by
    simp only [wlt] at h h2
    by_cases e : a = b
    · rw [if_pos e] at h
      rw [if_pos e.symm] at h2
      rw [e, wlt_tot h h2]
    · rw [if_neg e] at h
      rw [if_neg (Ne.symm e)] at h2
      cases a <;> cases b <;> simp_all
theorem wlt_tr : ∀ {l m n : Wd}, wlt m l = false → wlt n m = false → wlt n l = false
  | l, m, [], h1, h2 => by
    cases l with
    | nil => rfl
    | cons a l =>
      cases m with
      | nil => cases h1
      | cons b m => cases h2
  | l, m, c :: n, h1, h2 => by
    cases l with
    | nil => rfl
    | cons a l =>
      cases m with
      | nil => cases h1
      | cons b m =>
        simp only [wlt] at h1 h2 ⊢
        have ih : wlt m l = false → wlt n m = false → wlt n l = false := wlt_tr
        cases a <;> cases b <;> cases c <;> simp_all
theorem slt_swo : SrtO.Swo slt' where
  asym := fun x y h => by
    unfold slt' at h ⊢
    by_cases e : x.1 = y.1
    · rw [if_pos e] at h
      rw [if_pos e.symm]
      revert h; cases x.2 <;> cases y.2 <;> decide
    · rw [if_neg e] at h
      rw [if_neg (Ne.symm e)]
      exact wlt_asym h
  tr := fun x y z h1 h2 => by
    unfold slt' at h1 h2 ⊢
    by_cases e1 : y.1 = x.1
    · rw [if_pos e1] at h1
      by_cases e2 : z.1 = y.1
      · rw [if_pos e2] at h2
        rw [if_pos (e2.trans e1)]
        revert h1 h2; cases x.2 <;> cases y.2 <;> cases z.2 <;> decide
      · rw [if_neg e2] at h2
        rw [if_neg (fun q => e2 (q.trans e1.symm)), ← e1]; exact h2
    · rw [if_neg e1] at h1
      by_cases e2 : z.1 = y.1
      · rw [if_neg (fun q => e1 (e2.symm.trans q)), e2]; exact h1
      · rw [if_neg e2] at h2
        by_cases e3 : z.1 = x.1
        · exact absurd (wlt_tot h1 (by rw [← e3]; exact h2)) e1
        · rw [if_neg e3]; exact wlt_tr h1 h2
theorem swo_key {α β : Type} {lt : β → β → Bool} (O : SrtO.Swo lt) (f : α → β) : SrtO.Swo fun x y => lt (f x) (f y) := ⟨fun _ _ h => O.asym _ _ h, fun _ _ _ h1 h2 => O.tr _ _ _ h1 h2⟩
/-! ### sorted -/
def IsSt (h : Heap) (v : Value) (st : Stf) : Prop := ∃ a o t u n, v = .ref a ∧ h.get? a = some o ∧ o.cls = .type "tuple" ∧ o.data = .seq #[.str (S st.1) t, .str (S [st.2]) u] n
theorem IsSt.keeps {h h' : Heap} {v : Value} {st : Stf} (p : IsSt h v st) (k : ∀ b o, h.get? b = some o → o.cls = .type "tuple" → h'.get? b = some o) : IsSt h' v st := by
  obtain ⟨a, o, t, u, n, e, ho, hc, hd⟩ := p
  exact ⟨a, o, t, u, n, e, k _ _ ho hc, hc, hd⟩
section
open PySem.W Calls SrtO
variable {prog : Program} {w : World} {A : Around} {E : Value → Shared → Prop} {s : Shared}
theorem st_cmp {vs : List Value} {k : Value → Stf} (hp : ∀ v ∈ vs, IsSt s.heap v (k v)) : SrtO.Cmp prog w A s (tuples' true) (fun p => p.1 ∈ vs) (SrtO.lt2 fun v u => slt' (k v) (k u)) := by
  intro p q hm hm'
  have h1 := hp _ hm
  have h2 := hp _ hm'
  show wpAny (model prog w) A (keyLt' (tuples' true) p.1 q.1) (fun r s' => s' = s ∧ r = slt' (k p.1) (k q.1)) (fun _ _ => False) s
  generalize k p.1 = x at h1 ⊢
  generalize k q.1 = y at h2 ⊢
  obtain ⟨a, o, t, u, n, e, ho, hc, hd⟩ := h1
  obtain ⟨a', o', t', u', n', e', ho', hc', hd'⟩ := h2
  rw [e, e']
  refine PySem.W.kat_lt ho hd ho' hd' ?_
  show PySem.W.KatLex prog w A true (decide (2 < 2)) _ [(.str (S x.1) t, .str (S y.1) t'), (.str (S [x.2]) u, .str (S [y.2]) u')] 0 s
  refine PySem.W.kat_cons (SeqAt.EqAt.str_str (S x.1) t (S y.1) t' prog w _ _ ?_)
  refine PySem.W.kat_go (fun e1 => ?_) (fun e1 => ?_)
  · have ex : x.1 = y.1 := S_inj (by simpa using e1)
    refine PySem.W.kat_yes (PySem.W.kat_cons (SeqAt.EqAt.str_str (S [x.2]) u (S [y.2]) u' prog w _ _ ?_))
    refine PySem.W.kat_go (fun e2 => ?_) (fun e2 => ?_)
    · have ey : x.2 = y.2 := by
        have := S_inj (show S [x.2] = S [y.2] by simpa using e2)
        simpa using this
      have e3 : slt' x y = false := by
        unfold slt'; rw [if_pos ex, ey]; cases y.2 <;> rfl
      exact PySem.W.kat_yes (PySem.W.kat_nil ⟨rfl, e3.symm⟩)
    · have e3 : slt' x y = decide ((S [x.2]).cps.toList < (S [y.2]).cps.toList) := by
        unfold slt'; rw [if_pos ex]
        show _ = decide ([x.2].map cd < [y.2].map cd)
        rw [wlt_eq]
        cases x.2 <;> cases y.2 <;> rfl
      refine PySem.W.kat_no (PySem.W.kat_one _ _ (PyProof.Rows.lt_str ?_))
      exact ⟨rfl, e3.symm⟩
  · have ex : ¬ x.1 = y.1 := fun q => by rw [q] at e1; simp at e1
    have e3 : slt' x y = decide ((S x.1).cps.toList < (S y.1).cps.toList) := by
      unfold slt'; rw [if_neg ex]
      show _ = decide (x.1.map cd < y.1.map cd)
      rw [wlt_eq]
    exact PySem.W.kat_no (oneLt_str ⟨rfl, e3.symm⟩)
theorem st_firsts {h : Heap} : ∀ {vs : List Value}, (∀ v ∈ vs, ∃ st, IsSt h v st) → ∃ fs : List Value, PySem.W.KatTups h vs fs ∧ fs.length = vs.length ∧ ∀ f ∈ fs, ∃ x t, f = Value.str x t
  | [], _ => ⟨[], PySem.W.KatTups.nil, rfl, fun _ hm => by simp at hm⟩
  | v :: vs, hp => by
    obtain ⟨fs, h1, h2, h3⟩ := st_firsts (vs := vs) fun v' hm => hp v' (List.mem_cons_of_mem _ hm)
    obtain ⟨st, a, o, t, u, n, e, ho, hc, hd⟩ := hp v (List.mem_cons_self ..)
    subst e
    refine ⟨.str (S st.1) t :: fs, PySem.W.KatTups.cons ho hc hd rfl h1, by rw [List.length_cons, List.length_cons, h2], fun f hm => ?_⟩
    rcases List.mem_cons.mp hm with rfl | hm
    · exact ⟨_, t, rfl⟩
    · exact h3 f hm
theorem st_sortable {a : Addr} {vs : List Value} {k : Value → Stf} (h0 : 0 < vs.length) (hp : ∀ v ∈ vs, IsSt s.heap v (k v)) (ha : ∀ o, s.heap.get? a = some o → o.cls ≠ .type "tuple") : SrtO.SortableO prog w A s a vs fun v u => slt' (k v) (k u) := by
  intro h' keep
  have hp' : ∀ v ∈ vs, IsSt h' v (k v) := fun v hm => (hp v hm).keeps fun b o e c => keep b o (fun z => by subst z; exact ha o e c) e
  obtain ⟨fs, h1, h2, h3⟩ := st_firsts fun v hm => ⟨_, hp' v hm⟩
  refine ⟨tuples' true, fun Q E hq => ?_, st_cmp hp'⟩
  refine PySem.W.kat_kind (T := .type "str") h1 (by omega) (fun f hm => ?_) (by rfl) ?_
  · obtain ⟨x, t, rfl⟩ := h3 f hm
    exact PySem.W.Looks.now
  · have e : (Value.type "str" != Value.type "tuple") = true := by first | decide +kernel | rfl | decide
    rw [e]
    exact hq
end
theorem isSt_uniq {h : Heap} {v : Value} {x y : Stf} (a : IsSt h v x) (b : IsSt h v y) : x = y := by
  obtain ⟨a1, o1, t1, u1, n1, e1, g1, c1, d1⟩ := a
  obtain ⟨a2, o2, t2, u2, n2, e2, g2, c2, d2⟩ := b
  rw [e1] at e2; cases e2
  rw [g1] at g2; cases g2
  rw [d1] at d2
  injection d2 with d2 _
  have h1 : [Value.str (S x.1) t1, Value.str (S [x.2]) u1] = [Value.str (S y.1) t2, Value.str (S [y.2]) u2] := congrArg Array.toList d2
  injection h1 with h1 h2
  injection h2 with h2 _
  injection h1 with h1 _
  injection h2 with h2 _
  have q1 := S_inj h1
  have q2 := S_inj h2
  simp at q2
  exact Prod.ext q1 q2
theorem its_refs : ∀ {its : List Value} {ts : List Addr}, its.map backV = ts.map V.ref → (∀ u ∈ its, ∃ a, u = Value.ref a) → its = ts.map Value.ref
  | [], [], _, _ => rfl
  | [], a :: t, h, _ => by cases h
  | v :: its, [], h, _ => by cases h
  | v :: its, a :: t, h, hr => by
    obtain ⟨b, rfl⟩ := hr v (List.mem_cons_self ..)
    rw [List.map_cons, List.map_cons] at h
    injection h with h1 h2
    injection h1 with h1
    rw [h1, its_refs h2 fun u hu => hr u (List.mem_cons_of_mem _ hu), List.map_cons]
theorem slt_first {x y : Stf} (h1 : slt' x y = false) (h2 : slt' y x = false) : x.1 = y.1 := by
  by_cases e : x.1 = y.1
  · exact e
  · unfold slt' at h1 h2
    rw [if_neg e] at h1
    rw [if_neg (Ne.symm e)] at h2
    exact wlt_tot h1 h2
theorem perm_two {α : Type} {c d a b : α} (h : [c, d].Perm [a, b]) : (c = a ∧ d = b) ∨ (c = b ∧ d = a) := by
  have hc : c ∈ [a, b] := h.mem_iff.mp (List.mem_cons_self ..)
  rcases List.mem_cons.mp hc with rfl | hc
  · exact .inl ⟨rfl, by simpa using h.cons_inv⟩
  · obtain rfl : c = b := List.mem_singleton.mp hc
    exact .inr ⟨rfl, by simpa using (h.trans (.swap _ _ _)).cons_inv⟩
theorem sort_key {H : Hp} {k : Value → Stf} {ts : List Addr} {ss : List Stf} {out : List Value} (hts : StsA H ts ss) (hl2 : ss.length ≤ 2) (hne : ∀ a b, ss = [a, b] → a.1 ≠ b.1) (hkA : ∀ {a : Addr} {st : Stf}, StA H a st → k (.ref a) = st)
    (hso : SrtO.Srtd (fun v u => slt' (k v) (k u)) out) (hst : SrtO.Stb (fun v u => slt' (k v) (k u)) out (ts.map Value.ref)) : ∃ ys : List Addr, out = ys.map Value.ref ∧ StsA H ys (srt ss) := by
  have hp := hst.perm
  have hso' : out.Pairwise fun v u => slt' (k u) (k v) = false := hso
  clear hst hso
  cases hts with
  | nil => exact ⟨[], List.length_eq_zero_iff.mp hp.length_eq, .nil⟩
  | @cons a x ts ss r1 t1 =>
    cases t1 with
    | nil => exact ⟨[a], List.perm_singleton.mp hp, .cons r1 .nil⟩
    | @cons b y ts ss r2 t2 =>
      cases t2 with
      | cons _ _ => simp at hl2
      | nil =>
        have e1 := hkA r1
        have e2 := hkA r2
        have hl := hp.length_eq
        match out, hl, hp, hso' with
        | [c, d], _, hp, hso' =>
          have h1 := (List.pairwise_cons.mp hso').1 d (List.mem_singleton.mpr rfl)
          have hsr : srt [x, y] = if slt' y x = true then [y, x] else [x, y] := rfl
          rcases perm_two hp with ⟨hc, hd⟩ | ⟨hc, hd⟩
          · rw [hc, hd, e1, e2] at h1
            refine ⟨[a, b], by rw [hc, hd]; rfl, ?_⟩
            rw [hsr, if_neg (by rw [h1]; decide)]; exact .cons r1 (.cons r2 .nil)
          · rw [hc, hd, e1, e2] at h1
            refine ⟨[b, a], by rw [hc, hd]; rfl, ?_⟩
            by_cases e : slt' y x = true
            · rw [hsr, if_pos e]; exact .cons r2 (.cons r1 .nil)
            · exact absurd (slt_first h1 (by simpa using e)) (hne x y rfl)
def rSortedSt (K : PySem.W.Frag) : List V → Hp → VK → Prop := fun vs H Q => ∃ (l : Addr) (ts : List Addr) (ss : List Stf), vs = [V.ref l] ∧ SqL K H l (ts.map V.ref) ∧ StsA H ts ss ∧ ss.length ≤ 2 ∧ (∀ a b, ss = [a, b] → a.1 ≠ b.1) ∧
  ∀ ys p, StsA H ys (srt ss) → H p = none → Q (.ref p) (upd H p (.lst (ys.map V.ref)))
theorem cr_sortedSt {X : Cx} {K : PySem.W.Frag} (eK : X.K = K) : CallR X (.builtin "sorted") (rSortedSt K) := by
  subst eK
  intro pins s σ H vs us Q I r h
  obtain ⟨l, ts, ss, rfl, hs, hts, hl2, hne, q⟩ := h
  obtain ⟨its, rv, hl, hz⟩ := I.list hs
  obtain ⟨u, rfl, ru⟩ := vals1 r
  obtain rfl : u = Value.ref l := ru
  obtain ⟨e1, e2⟩ := refs_back rv fun x m => by
    obtain ⟨t, _, e⟩ := List.mem_map.mp m
    exact ⟨t, e.symm⟩
  have eits : its = ts.map Value.ref := its_refs e1.symm e2
  subst eits
  have hIs : ∀ {v : Value}, v ∈ ts.map Value.ref → ∃ st, IsSt s.heap v st := by
    intro v hv
    obtain ⟨a, ha, rfl⟩ := List.mem_map.mp hv
    obtain ⟨i, hi⟩ := List.mem_iff_getElem?.mp ha
    obtain ⟨st, _, hA⟩ := paired_get hts hi
    obtain ⟨_, its2, r2, o, ho, hc, n, hd⟩ := I.hok _ _ hA
    obtain ⟨u1, u2, rfl, ri, rj⟩ := vals2 r2
    obtain ⟨t1, rfl⟩ := ri
    obtain ⟨t2, rfl⟩ := rj
    exact ⟨st, a, o, t1, t2, n, rfl, ho, hc, hd⟩
  have hAt : ∀ {a : Addr} {st : Stf}, StA H a st → IsSt s.heap (.ref a) st := by
    intro a st hA
    obtain ⟨_, its2, r2, o, ho, hc, n, hd⟩ := I.hok _ _ hA
    obtain ⟨u1, u2, rfl, ri, rj⟩ := vals2 r2
    obtain ⟨t1, rfl⟩ := ri
    obtain ⟨t2, rfl⟩ := rj
    exact ⟨a, o, t1, t2, n, rfl, ho, hc, hd⟩
  obtain ⟨k, hk⟩ : ∃ k : Value → Stf, ∀ v, (∃ st, IsSt s.heap v st) → IsSt s.heap v (k v) := by
    have _ : ∀ v, Decidable (∃ st, IsSt s.heap v st) := fun v => Classical.propDecidable _
    refine ⟨fun v => if h : ∃ st, IsSt s.heap v st then h.choose else ([], false), fun v h => ?_⟩
    simp only []
    rw [dif_pos h]; exact h.choose_spec
  have hkA : ∀ {a : Addr} {st : Stf}, StA H a st → k (.ref a) = st := fun hA => isSt_uniq (hk _ ⟨_, hAt hA⟩) (hAt hA)
  have hlen : (ts.map Value.ref).length ≤ sizeLine := by rw [← rv.length]; exact hz
  refine SrtO.sorted_ord (ltv := fun v u => slt' (k v) (k u)) (vs := ts.map Value.ref) (swo_key slt_swo k) hl.isList hlen ?_ ?_
  · intro h2 h₁ a ha kk
    have hps : ∀ v ∈ ts.map Value.ref, IsSt h₁ v (k v) := fun v hm => (hk _ (hIs hm)).keeps fun b o e _ => (kk b o e).2
    have h00 : 0 < (ts.map Value.ref).length := by omega
    refine st_sortable (s := { s with heap := h₁ }) (k := k) h00 hps ?_
    intro o e
    have e' : some o = some (seqObj "list" (ts.map Value.ref).toArray 0) := e.symm.trans ha
    cases e'
    intro c
    exact absurd (Value.type.inj c) (by decide)
  · intro out hso hst
    have kp : ∀ b o, s.heap.get? b = some o → (PyProof.Rows.sortedAll s.heap (ts.map Value.ref) out.toArray).get? b = some o := fun b o e => PyProof.Rows.sortedAll_old e
    obtain ⟨n, hn⟩ := PyProof.Rows.sortedAll_at s.heap (ts.map Value.ref) out.toArray
    have hd : s.heap.objs.size ≤ s.heap.objs.size + 1 := Nat.le_succ _
    have key := sort_key (k := k) hts hl2 hne hkA hso hst
    obtain ⟨ys, rfl, hys⟩ := key
    have hvals : Vals (ys.map V.ref) (ys.map Value.ref) := by
      clear hso hst kp hn hys
      induction ys with
      | nil => exact .nil
      | cons a t ih => exact .cons rfl ih
    have hly : (ys.map V.ref).length ≤ sizeLine := by
      have := hst.len
      rw [List.length_map] at this ⊢
      rw [this]; exact hlen
    have hnew : ObjOk X.prog X.w (upd H (s.heap.objs.size + 1) (.lst (ys.map V.ref))) (PyProof.Rows.sortedAll s.heap (ts.map Value.ref) (ys.map Value.ref).toArray) (s.heap.objs.size + 1) (.lst (ys.map V.ref)) := ⟨hly, ys.map Value.ref, n, hvals, hn⟩
    have I2 := I.laid (t' := s.toks) kp hd hnew
    exact ⟨.ref (s.heap.objs.size + 1), _, I2, rfl, q ys _ hys (I.hok.fresh hd)⟩
end UF
set_option maxHeartbeats 4000000
namespace UF
open PySem PySem.Spec PyProof.Rows L2
/-- the class of the error -/
structure InvR (P : Program) (K : PySem.W.Frag) (mg : Str → Option Value) (D : Addr) : Prop where
  ex : ∃ fI fd, SupI P K mg D fI fd ∧ PySem.W.findIn K (.ref D) "__init__" = some (some (.ref fI)) ∧ PySem.W.typeIn K (.ref fI) = some (.type "function") ∧ Binds K fd ["self", "word"] []
  mgD : mg "InvalidRule" = some (.ref D)
  exm : PySem.W.exmOne K (.ref D) (.ref D) = some true
/-- Rule(flag, stuffs): b: without end -/
def sp_Rule___init__ (K : Fg) (C D : Addr) : Sp := fun vs H Q E => ∃ (r dx l : Addr) (fl : Wd) (ts : List Addr) (ss : List Stf) (b : Bool), vs = [.ref r, .str (S fl), .ref l] ∧ H r = some (.ins C dx []) ∧ H l = some (.lst (ts.map V.ref)) ∧ StsA H ts ss ∧ Shr fl ss ∧
  apart ss = true ∧ ss.length ≤ 2 ∧ 2 ≤ fl.length ∧ edl (srt ss) (lng (srt ss)) 40 [[]] 0 = some b ∧ (b = false → ∀ H', Same (off H r) H' → RuleAt C H' r fl (srt ss) → Q .non H') ∧ (b = true → ∀ H' d, Same (off H r) H' → E (.ref D) (some d) H')
theorem srt_mem {ss : List Stf} {st : Stf} (h : st ∈ srt ss) : st ∈ ss := by
  unfold srt at h
  split at h
  · split at h
    · simp at h ⊢; exact h.symm
    · exact h
  · exact h
theorem srt_len (ss : List Stf) : (srt ss).length = ss.length := by
  unfold srt
  split
  · split <;> rfl
  · rfl
theorem Shr.srt {fl : Wd} {ss : List Stf} (h : Shr fl ss) : Shr fl (srt ss) := ⟨h.fl, by rw [srt_len]; exact h.n, fun st hs => h.st st (srt_mem hs)⟩
theorem apart_ne {a b : Stf} (h : apart [a, b] = true) : a.1 ≠ b.1 := fun e => by
  have h1 := apart1_get [a, b] [] h 0 a rfl b (by simp)
  unfold sfx at h1
  rw [e, Nat.sub_self, List.drop_zero, weq_self] at h1; cases h1
abbrev s_Rule___init__ : Stmt := inClass (top 31) 0
theorem sc_Rule___init__ : FnScope ["self", "flag", "stuffs"] ["self", "flag", "stuffs"] (defScope s_Rule___init__) := ⟨rfl, rfl, rfl, by decide +kernel, rfl, by decide +kernel, by decide +kernel⟩
theorem ok_Rule___init__ {P : Program} {w : World} {K : PySem.W.Frag} {mg : Str → Option Value} {base : Heap} {f C D : Addr} {fd : FuncData} {dvs : List V} (F : FnP K "__init__" "Rule.__init__" s_Rule___init__ dvs f fd) (T : TX K mg C) (GI : InvR P K mg D)
    (c_are_stuffs : Cal P w K mg base 4 "are_stuffs" ["value"] (sp_are_stuffs K C)) (c_is_endless : Mth P w K mg base 4 C "is_endless" ["self"] (sp_Rule_is_endless K C)) (c_is_word : Cal P w K mg base 1 "is_word" ["value"] (sp_is_word K C)) :
    FnOk P w K mg base (L2.CX P w) 5 f fd ["self", "flag", "stuffs"] (sp_Rule___init__ K C D) := by
  obtain ⟨fI, fdI, G, iC, tI, bI⟩ := GI.ex
  have hmI := GI.mgD
  refine FunD.ok (k := 4) F sc_Rule___init__ (fun vs H Q E h => ?_) (fun cdv A outer s H vs Q E hr h => ?_)
  · obtain ⟨r, dx, l, fl, ts, ss, b, rfl, _⟩ := h; rfl
  · obtain ⟨r, dx, l, fl, ts, ss, b, rfl, hr', hl, hts, sh, hap, hn, hfl, he, qn, qe⟩ := h
    refine ⟨_, (pss_cons (ps_if (PW.pt (pw_or (pt_not (pt_val (c_is_word.pe hr (by rfl) (pa_cons (pv 1) pa_nil)))) (pw_or1 (pt_cmpR op_lt (pe_callB (cln (K := K) rfl) (by rfl) T.n_len (by decide +kernel) (pa_cons (pv 1) pa_nil)) pe_int (nomark _))))) (pss_one ps_never) pss_nil)
      (pss_cons (ps_if (pt_not (pt_val (c_are_stuffs.pe hr (by rfl) (pa_cons (pv 2) pa_nil)))) (pss_one ps_never) pss_nil)
      (pss_cons (ps_fld (pv 0) (pv 1) rfl)
      (pss_cons (ps_fld (pv 0) (pe_callTy (ctup (K := K) rfl) (by rfl) T.n_tuple (by decide +kernel) (pa_cons (pe_callB (cr_sortedSt (K := K) rfl) (by rfl) T.n_sorted (by decide +kernel) (pa_cons (pv 2) pa_nil)) pa_nil)) rfl)
      (pss_one (ps_if (pt_val (c_is_endless.pe0 hr (pv 0))) (pss_one (ps_raise rfl (takes_of rfl rfl rfl rfl) (pmk_oex G.oex iC tI (inv_init_ok (CX := CX0) G) hr bI .nil pass0 (by rfl) hmI (pa_cons pe_str pa_nil)))) pss_nil)))))), ?_⟩
    have hfll := sh.fl
    refine ⟨_, rfl, fl, rfl, by omega, fun H1 s1 => ⟨_, rfl, ?_⟩⟩
    refine ⟨_, rfl, _, _, rfl, ⟨S_sz (by omega), rfl⟩, _, _, rfl, rfl, _, rfl, ?_⟩
    rw [show decide ((((S fl).length : Nat) : Int) < 2) = false by rw [decide_eq_false_iff_not, S_len]; omega]
    refine ⟨_, rfl, l, ts, ss, rfl, s1 _ _ hl, hts.same s1, ⟨by simp, sh.n, sh.st⟩, hap, fun H2 s2 => ⟨_, rfl, ?_⟩⟩
    have s12 := s1.trans s2
    have o2 : Same (off H r) H2 := off_same.trans s12
    have hr2 := s12 _ _ hr'
    refine ⟨_, rfl, _, rfl, r, C, dx, _, rfl, hr2, T.cl, T.nF, by decide, ?_⟩
    have o3 : Same (off H r) (upd H2 r (.ins C dx (putF "flag" (.str (S fl)) []))) := o2.mut off_at
    have nlr : l ≠ r := fun z => by rw [z, hr'] at hl; cases hl
    have hr3 : upd H2 r (.ins C dx (putF "flag" (.str (S fl)) [])) r = some (.ins C dx (putF "flag" (.str (S fl)) [])) := upd_same
    have hl3 : upd H2 r (.ins C dx (putF "flag" (.str (S fl)) [])) l = some (.lst (ts.map V.ref)) := by rw [upd_ne nlr]; exact s12 _ _ hl
    have hts3 : StsA (upd H2 r (.ins C dx (putF "flag" (.str (S fl)) []))) ts ss := Paired.mapP hts fun a st e => by
      have e : H a = some _ := e
      show upd H2 r _ a = _
      rw [upd_ne (fun z => by rw [z, hr'] at e; cases e)]; exact s12 _ _ e
    generalize upd H2 r (.ins C dx (putF "flag" (.str (S fl)) [])) = H3 at o3 hr3 hl3 hts3
    refine ⟨_, rfl, l, ts, ss, rfl, lq hl3, hts3, hn, fun a b e => apart_ne (by rw [← e]; exact hap), fun ys p hys hp => ?_⟩
    refine ⟨p, _, rfl, .inl ⟨lq upd_same, fun t ht => ?_⟩⟩
    have s45 := (Same.new (o := .lst (ys.map V.ref)) hp).trans (.new (o := .tup (ys.map V.ref)) ht)
    have o5 := o3.trans s45
    have hr5 := s45 _ _ hr3
    have hys5 := hys.same s45
    have ht5 : upd (upd H3 p (.lst (ys.map V.ref))) t (.tup (ys.map V.ref)) t = some (.tup (ys.map V.ref)) := upd_same
    generalize upd (upd H3 p (.lst (ys.map V.ref))) t (.tup (ys.map V.ref)) = H5 at o5 hr5 hys5 ht5
    refine ⟨_, rfl, r, C, dx, _, rfl, hr5, T.cl, T.nS, by show (putF "flag" (V.str (S fl)) []).length < 1000; exact by show 1 < 1000; decide, ?_⟩
    have eF : putF "stuffs" (V.ref t) (putF "flag" (V.str (S fl)) []) = flds fl t := by
      show (if ("flag" : Str) = ("stuffs" : Str) then _ else _) = _
      rw [if_neg (by decide +kernel)]; rfl
    rw [eF]
    have o6 : Same (off H r) (upd H5 r (.ins C dx (flds fl t))) := o5.mut off_at
    have hRA : RuleAt C (upd H5 r (.ins C dx (flds fl t))) r fl (srt ss) := by
      refine ⟨sh.srt, dx, t, ys, upd_same, keepO ht5 hr5 (by intro q; cases q), Paired.mapP hys5 fun a st e => keepO e hr5 (by intro q; cases q)⟩
    generalize hH6 : upd H5 r (.ins C dx (flds fl t)) = H6 at o6 hRA
    have hr6 : H6 r = some (.ins C dx (flds fl t)) := by rw [← hH6]; exact upd_same
    refine ⟨_, rfl, r, dx, _, rfl, hr6, flds_no _ _, r, fl, srt ss, b, rfl, hRA, he, fun H7 s7 => ⟨_, rfl, ?_⟩⟩
    cases b with
    | false => exact qn rfl H7 (o6.trans s7) (hRA.same s7)
    | true =>
      refine ⟨by show 1 ≤ 1000; decide, fun a ha => ⟨a, _, rfl, upd_same, fun d hd hne => ⟨rfl, d, [(("word" : Str), V.str "endless")], upd_same, ?_, ?_, ?_⟩⟩⟩
      · rw [upd_ne hne, upd_same]
      · rw [upd_ne hne] at hd; exact hd
      · refine qe rfl _ d fun b ob e => ?_
        have e7 := (o6.trans s7) _ _ e
        have hba : b ≠ a := fun z => by rw [z, ha] at e7; cases e7
        have hbd : b ≠ d := fun z => by rw [z] at e7; rw [upd_ne hne, e7] at hd; cases hd
        rw [upd_ne hbd, del_ne hba, upd_ne hba, upd_ne hbd, upd_ne hba]
        exact e7
end UF
set_option maxHeartbeats 4000000
namespace UF
open PySem PySem.Spec PyProof.Rows L2
def sp_rule_with (K : Fg) (C : Addr) : Sp := fun vs H Q _ => ∃ (fl : Wd) (st : Stf) (b : Bool), vs = [.str (S fl), .str (S st.1), Bt st.2] ∧ Shr fl [st] ∧ 2 ≤ fl.length ∧ edl [st] (lng [st]) 40 [[]] 0 = some b ∧
  (b = false → ∀ H' r, Same H H' → RuleAt C H' r fl [st] → Q (.ref r) H') ∧ (b = true → ∀ H', Same H H' → Q .non H')
abbrev s_rule_with : Stmt := top 35
theorem sc_rule_with : FnScope ["flag", "pattern", "bit"] ["flag", "pattern", "bit"] (defScope s_rule_with) := ⟨rfl, rfl, rfl, by decide +kernel, rfl, by decide +kernel, by decide +kernel⟩
theorem mk_same {H H1 : Hp} {x dx C : Addr} (s : Same H H1) (hx : H1 x = none) (hdx : H1 dx = none) : Same H (off (upd (upd H1 dx (.own x)) x (.ins C dx [])) x) := fun b o e => by
  have e1 := s _ _ e
  rw [off_ne (ne_of_none e1 hx), upd_ne (ne_of_none e1 hx), upd_ne (ne_of_none e1 hdx)]
  exact e1
theorem apart_one (st : Stf) : apart [st] = true := by
  unfold apart apart1; rfl
theorem ok_rule_with {P : Program} {w : World} {K : PySem.W.Frag} {mg : Str → Option Value} {base : Heap} {f C D : Addr} {fd : FuncData} (F : FnP K "rule_with" "rule_with" s_rule_with [] f fd) (T : TX K mg C) (GI : InvR P K mg D)
    (c_Rule : Rul P w K mg base 5 C (sp_Rule___init__ K C D)) : FnOk P w K mg base CX0 7 f fd ["flag", "pattern", "bit"] (sp_rule_with K C) := by
  have hmI := GI.mgD
  refine FunD.ok (k := 6) F sc_rule_with (fun vs H Q E h => ?_) (fun cdv A outer s H vs Q E hr h => ?_)
  · obtain ⟨fl, st, b, rfl, _⟩ := h; rfl
  · obtain ⟨fl, st, b, rfl, sh, hfl, he, qn, qe⟩ := h
    refine ⟨_, PSs.nox (pss_one (ps_try_only (c := .ref D) (tb := fun W => _) (ts := fun _ _ _ => _) rfl rfl ⟨by rfl, by decide, .inl hmI⟩ takes0
      (fun W pn xe tk po => pss_one (ps_ret (c_Rule.peT (E := fun cls d H => ∀ σ, W cls d σ H) hr (by rfl) (passes_call tk (fun _ _ σ _ h => h σ)) (pa_cons (pv 0) (pa_cons (pe_lst (pa_cons (pe_tup (pa_cons (pv 1) (pa_cons (pv 2) pa_nil))) pa_nil)) pa_nil)))))
      (fun a oe cls d pn hz hv => pss_one (ps_ret pe_non)))), ?_⟩
    refine ⟨_, rfl, _, rfl, _, rfl, by show 2 ≤ sizeLine; decide, fun pt hpt => ⟨by show 1 ≤ sizeLine; decide, fun pl hpl => fun x dx hx hdx hne => ?_⟩⟩
    have s1 := (Same.new (o := .tup [.str (S st.1), Bt st.2]) hpt).trans (.new (o := .lst [.ref pt]) hpl)
    have hl1 : upd (upd H pt (.tup [.str (S st.1), Bt st.2])) pl (.lst [.ref pt]) pl = some (.lst [.ref pt]) := upd_same
    have ht1 : StA (upd (upd H pt (.tup [.str (S st.1), Bt st.2])) pl (.lst [.ref pt])) pt st := Same.new hpl _ _ upd_same
    have sm := mk_same (C := C) s1 hx hdx
    have hxl : pl ≠ x := fun z => by rw [← z, hl1] at hx; cases hx
    have hdl : pl ≠ dx := fun z => by rw [← z, hl1] at hdx; cases hdx
    have hxt : pt ≠ x := ne_of_none ht1 hx
    have hdt : pt ≠ dx := ne_of_none ht1 hdx
    refine ⟨x, dx, pl, fl, [pt], [st], b, rfl, upd_same, by rw [upd_ne hxl, upd_ne hdl]; exact hl1, .cons ?_ .nil, sh, apart_one st, by simp, hfl, he, fun hb H' s' hR => ⟨rfl, qn hb H' x (sm.trans s') hR⟩, fun hb H' d s' σ => ⟨true, GI.exm, fun _ a ha => qe hb H' (sm.trans s'), fun h => by cases h⟩⟩
    show upd _ x _ pt = _
    rw [upd_ne hxt, upd_ne hdt]; exact ht1
/-! ### the rules of one stuff -/
def okS (st : Stf) : Bool := match edl [st] (lng [st]) 40 [[]] 0 with
  | some false => true
  | _ => false
def vst : List Stf := (stfs 2).filter okS
theorem sgl_all : (stfs 2).all (fun st => (edl [st] (lng [st]) 40 [[]] 0).isSome && decide (1 ≤ st.1.length) && decide (st.1.length ≤ 2)) = true := by decide +kernel
theorem sgl_edl {st : Stf} (h : st ∈ stfs 2) : ∃ b, edl [st] (lng [st]) 40 [[]] 0 = some b := by
  have := List.all_eq_true.mp sgl_all st h
  simp only [Bool.and_eq_true] at this
  exact Option.isSome_iff_exists.mp this.1.1
theorem sgl_len {st : Stf} (h : st ∈ stfs 2) : 1 ≤ st.1.length ∧ st.1.length ≤ 2 := by
  have := List.all_eq_true.mp sgl_all st h
  simp only [Bool.and_eq_true, decide_eq_true_eq] at this
  exact ⟨this.1.2, this.2⟩
theorem RuleAt.keepL {C : Addr} {H : Hp} {r l : Addr} {fl : Wd} {ss : List Stf} {xs : List V} {o : HO} (h : RuleAt C H r fl ss) (hl : H l = some (.lst xs)) : RuleAt C (upd H l o) r fl ss := by
  obtain ⟨b, dx, t, ts, h1, h2, h3⟩ := h
  exact ⟨b, dx, t, ts, keepO h1 hl (by intro q; cases q), keepO h2 hl (by intro q; cases q), Paired.mapP h3 fun _ _ e => keepO e hl (by intro q; cases q)⟩
theorem RuleAt.offL {C : Addr} {H : Hp} {r l : Addr} {fl : Wd} {ss : List Stf} {xs : List V} (h : RuleAt C H r fl ss) (hl : H l = some (.lst xs)) : RuleAt C (off H l) r fl ss := by
  obtain ⟨b, dx, t, ts, h1, h2, h3⟩ := h
  exact ⟨b, dx, t, ts, off_some hl h1 (by intro q; cases q), off_some hl h2 (by intro q; cases q), Paired.mapP h3 fun _ _ e => off_some hl e (by intro q; cases q)⟩
/-- what rule_with gives -/
def RvA (C : Addr) (H : Hp) (fl : Wd) (v : V) (st : Stf) : Prop := (okS st = true ∧ ∃ r, v = .ref r ∧ RuleAt C H r fl [st]) ∨ (okS st = false ∧ v = .non)
theorem RvA.same {C : Addr} {H H' : Hp} {fl : Wd} {v : V} {st : Stf} (s : Same H H') (h : RvA C H fl v st) : RvA C H' fl v st := by
  rcases h with ⟨a, r, b, c⟩ | h
  · exact .inl ⟨a, r, b, c.same s⟩
  · exact .inr h
theorem RvA.keepL {C : Addr} {H : Hp} {l : Addr} {fl : Wd} {v : V} {st : Stf} {xs : List V} {o : HO} (h : RvA C H fl v st) (hl : H l = some (.lst xs)) : RvA C (upd H l o) fl v st := by
  rcases h with ⟨a, r, b, c⟩ | h
  · exact .inl ⟨a, r, b, c.keepL hl⟩
  · exact .inr h
theorem RvA.offL {C : Addr} {H : Hp} {l : Addr} {fl : Wd} {v : V} {st : Stf} {xs : List V} (h : RvA C H fl v st) (hl : H l = some (.lst xs)) : RvA C (off H l) fl v st := by
  rcases h with ⟨a, r, b, c⟩ | h
  · exact .inl ⟨a, r, b, c.offL hl⟩
  · exact .inr h
def bits2 (w : Wd) : List Stf := [(w, false), (w, true)]
theorem stfs_succ (n : Nat) : stfs (n + 1) = stfs n ++ (words (n + 1)).flatMap bits2 := by
  unfold stfs
  rw [List.range_succ, List.flatMap_append]
  congr 1
  simp; rfl
theorem flatMap_take {α β : Type} {f : α → List β} {l : List α} {i : Nat} {x : α} (h : l[i]? = some x) : (l.take (i + 1)).flatMap f = (l.take i).flatMap f ++ f x := by
  rw [take_snoc h, List.flatMap_append]; simp
theorem bits2_len : ∀ l : List Wd, (l.flatMap bits2).length = 2 * l.length
  | [] => rfl
  | a :: l => by
    rw [List.flatMap_cons, List.length_append, bits2_len l]
    show 2 + _ = _
    rw [List.length_cons]; omega
theorem mem_stfs {n k : Nat} {w : Wd} {b : Bool} (hk : k < n) (hw : w ∈ words (k + 1)) : (w, b) ∈ stfs n :=
  List.mem_flatMap.mpr ⟨k, List.mem_range.mpr hk, List.mem_flatMap.mpr ⟨w, hw, by cases b <;> simp⟩⟩
def sp_single_rules (K : Fg) (C : Addr) : Sp := fun vs H Q _ => ∃ (fl : Wd), vs = [.str (S fl), .int 2] ∧ 2 ≤ fl.length ∧ fl.length ≤ 100 ∧ ∀ H' l rs, Same H H' → H' l = some (.lst (rs.map V.ref)) → Paired (fun r st => RuleAt C H' r fl [st]) rs vst → Q (.ref l) H'
abbrev s_single_rules : Stmt := top 36
theorem sc_single_rules : FnScope ["flag", "size", "found", "many", "pattern", "rule", "bit"] ["flag", "size"] (defScope s_single_rules) := ⟨rfl, rfl, rfl, by decide +kernel, rfl, by decide +kernel, by decide +kernel⟩
-- slots: 0 flag, 1 size, 2 found, 3 many, 4 pattern, 5 rule, 6 bit
theorem ok_single_rules {P : Program} {w : World} {K : PySem.W.Frag} {mg : Str → Option Value} {base : Heap} {f C : Addr} {fd : FuncData} (F : FnP K "single_rules" "single_rules" s_single_rules [] f fd) (T : TX K mg C) (c_all_words : Cal P w K mg base 1 "all_words" ["size"] (sp_all_words K C)) (c_rule_with : Cal P w K mg base 7 "rule_with" ["flag", "pattern", "bit"] (sp_rule_with K C)) : FnOk P w K mg base CX0 8 f fd ["flag", "size"] (sp_single_rules K C) := by
  refine FunD.ok (k := 7) F sc_single_rules (fun vs H Q E h => ?_) (fun cdv A outer s H vs Q E hr h => ?_)
  · obtain ⟨fl, rfl, _⟩ := h; rfl
  · obtain ⟨fl, rfl, h2, h100, q⟩ := h
    refine ⟨_, (PSs.nox (pss_cons (ps_set (i := 2) sc_single_rules.nd rfl (by first | exact Or.inl rfl | exact Or.inr rfl) (pe_lst pa_nil))
      (pss_cons (ps_for PassesOwn.never rfl (pi_range2 rfl T.n_range (pa_cons pe_int (pa_cons (pe_op op_add (pv 1) pe_int) pa_nil))) (pg_name (i := 3) sc_single_rules.nd rfl (by first | exact Or.inl rfl | exact Or.inr rfl)) (pss_one (ps_for PassesOwn.never rfl (pil (K := K) rfl (c_all_words.pe hr (by rfl) (pa_cons (pv 3) pa_nil))) (pg_name (i := 4) sc_single_rules.nd rfl (by first | exact Or.inl rfl | exact Or.inr rfl)) (pss_one (ps_expr (pext (K := K) rfl (pv 2) (pa_cons (pe_lc (own := [("bit", 6)]) rfl sc_single_rules.nd (pi_str T.bits) (blkOk_by (own := [("bit", 6)]) (by kernel_rfl)) (fun _ _ _ _ _ => (pg_name (i := 6) sc_single_rules.nd rfl (by first | exact Or.inl rfl | exact Or.inr rfl))) (fun _ _ _ _ _ => pts_nil) (fun _ _ _ _ _ => (c_rule_with.pe hr (by rfl) (pa_cons (pv 0) (pa_cons (pv 4) (pa_cons (pv 6) pa_nil)))))) pa_nil)))))))
      (pss_one (ps_ret (pe_lc (own := [("rule", 5)]) rfl sc_single_rules.nd (pil (K := K) rfl (pv 2)) (blkOk_by (own := [("rule", 5)]) (by kernel_rfl)) (fun _ _ _ _ _ => (pg_name (i := 5) sc_single_rules.nd rfl (by first | exact Or.inl rfl | exact Or.inr rfl))) (fun _ _ _ _ _ => (pts_one (pt_cmpR op_notN (pv 5) pe_non (nomark _)))) (fun _ _ _ _ _ => (pv 5)))))))), ?_⟩
    refine ⟨by show 0 ≤ sizeLine; exact Nat.zero_le _, fun l hl => ?_⟩
    refine ⟨_, rfl, _, _, rfl, rfl, _, _, rfl, ⟨by decide, by decide, by decide, by decide⟩, ?_⟩
    refine for_sit (sit_range 1 2) (fun i σ H' => ∃ (vs : List V) (t3 t4 t5 t6 : Option V), σ = [some (.str (S fl)), some (.int 2), some (.ref l), t3, t4, t5, t6] ∧ Same H H' ∧ H' l = some (.lst vs) ∧ Paired (RvA C H' fl) vs (stfs i)) ⟨[], _, _, _, _, rfl, .new hl, upd_same, .nil⟩ (fun _ _ _ _ _ => trivial) ?_ ?_
    · rintro i x σ H1 hi rfl ⟨vs, t3, t4, t5, t6, rfl, s1, hl1, hv1⟩
      have hi2 : i < 2 := hi
      refine ⟨_, rfl, i + 1, by rw [show (1 : Int) + ((i : Nat) : Int) = ((i + 1 : Nat) : Int) by omega]; rfl, by omega, fun H2 wl s2 hwl => ?_⟩
      refine ⟨wl, rfl, ⟨_, lq hwl⟩, ?_⟩
      have hwn := words_num (i + 1) (by omega)
      have nlw : l ≠ wl := fun z => by
        have e1 := s2 _ _ hl1
        rw [z, hwl] at e1
        have e2 : ((words (i + 1)).map fun w => V.str (S w)) = vs := by
          have e3 := Option.some.inj e1
          injection e3
        have h0 : 0 < (words (i + 1)).length := by
          match i, hi2 with
          | 0, _ => decide
          | 1, _ => decide
        obtain ⟨w0, hw0⟩ : ∃ w0, (words (i + 1))[0]? = some w0 := ⟨(words (i + 1))[0], by simp [h0]⟩
        have hv0 : vs[0]? = some (V.str (S w0)) := by rw [← e2]; exact map_at (f := fun w => V.str (S w)) hw0
        obtain ⟨st, _, hv⟩ := paired_get hv1 hv0
        rcases hv with ⟨_, r, h, _⟩ | ⟨_, h⟩ <;> cases h
      have hvl : vs.length = (stfs i).length := Paired.length hv1
      have hsi : (stfs i).length ≤ 12 := by
        match i, hi2 with
        | 0, _ => decide
        | 1, _ => decide
      refine for_sit (sit_list ((words (i + 1)).map fun w => V.str (S w))) (fun j σ H' => ∃ (vs : List V) (t4 t5 t6 : Option V), σ = [some (.str (S fl)), some (.int 2), some (.ref l), some (.int (1 + (i : Nat))), t4, t5, t6] ∧ Same H H' ∧ H' wl = some (.lst ((words (i + 1)).map fun w => V.str (S w))) ∧ H' l = some (.lst vs) ∧ Paired (RvA C H' fl) vs (stfs i ++ ((words (i + 1)).take j).flatMap bits2)) ?_ (fun j σ H' _ h => ?_) ?_ ?_
      · refine ⟨vs, _, _, _, rfl, s1.trans s2, hwl, s2 _ _ hl1, ?_⟩
        rw [List.take_zero, List.flatMap_nil, List.append_nil]
        exact Paired.mapP hv1 fun _ _ e => e.same s2
      · obtain ⟨_, _, _, _, _, _, h, _⟩ := h
        exact lq h
      · rintro j x σ H3 hj hx ⟨vs, t4, t5, t6, rfl, s3, hwl3, hl3, hv3⟩
        obtain ⟨w, hw, rfl⟩ := map_get hx
        have hwm := List.mem_of_getElem? hw
        have hwlen := words_len _ _ hwm
        have hv3l : vs.length ≤ 12 + 32 := by
          rw [Paired.length hv3, List.length_append, bits2_len, List.length_take]; omega
        refine ⟨_, rfl, .inl ⟨rfl, _, lq hl3⟩, ?_⟩
        refine ⟨_, rfl, fun D hD => ?_⟩
        rw [S_01]
        refine lc_sit (sit_word [false, true]) (fun _ _ _ h => trivial) hD (fun t acc H4 => Same H3 H4 ∧ Paired (RvA C H4 fl) acc ((bits2 w).take t)) ⟨.refl _, .nil⟩ (fun _ _ _ _ _ => trivial) ?_ ?_
        · rintro t x acc H4 ht ⟨bb, hbb, rfl⟩ hD4 ⟨s4, hacc⟩ Nx nx
          have ht2 : t < 2 := ht
          have s4' := s4.trans (off_same (H := H4) (D := D))
          have hbt : (bits2 w)[t]? = some (w, bb) := by
            match t, ht2, hbb with
            | 0, _, h => cases h; rfl
            | 1, _, h => cases h; rfl
          have hm := mem_stfs (b := bb) hi2 hwm
          obtain ⟨b, he⟩ := sgl_edl hm
          have hacl : acc.length ≤ 2 := by
            rw [Paired.length hacc, List.length_take]
            exact Nat.min_le_right _ _
          refine ⟨rfl, ?_⟩
          refine ⟨_, rfl, _, rfl, _, rfl, fl, (w, bb), b, rfl, ⟨h100, by simp, fun st hs => by rw [List.mem_singleton.mp hs]; exact ⟨by show 1 ≤ w.length; omega, by show w.length ≤ 100; omega⟩⟩, h2, he, fun hb H5 r s5 hR => ?_, fun hb H5 s5 => ?_⟩
          · refine ⟨_, s5 _ _ hD4, lt_sz (by omega), nx _ _ upd_same ⟨?_, ?_⟩⟩
            · rw [off_upd]; exact s4.trans (off_mono s5)
            · rw [take_snoc hbt, off_upd]
              refine paired_snoc (Paired.mapP hacc fun _ _ e => e.same (off_mono s5)) (.inl ⟨?_, r, rfl, hR.offL (s5 _ _ hD4)⟩)
              unfold okS; rw [he, hb]
          · refine ⟨_, s5 _ _ hD4, lt_sz (by omega), nx _ _ upd_same ⟨?_, ?_⟩⟩
            · rw [off_upd]; exact s4.trans (off_mono s5)
            · rw [take_snoc hbt, off_upd]
              refine paired_snoc (Paired.mapP hacc fun _ _ e => e.same (off_mono s5)) (.inr ⟨?_, rfl⟩)
              unfold okS; rw [he, hb]
        · rintro acc H4 hD4 ⟨s4, hacc⟩
          have s4' := s4.trans (off_same (H := H4) (D := D))
          have hl4 := s4' _ _ hl3
          have hacl : acc.length = 2 := Paired.length hacc
          refine ⟨l, D, vs, acc, rfl, rfl, hl4, hD4, le_sz (by omega), ?_⟩
          refine ⟨vs ++ acc, _, _, _, rfl, (s3.trans s4').mut hl, ?_, upd_same, ?_⟩
          · rw [upd_ne (Ne.symm nlw)]; exact s4' _ _ hwl3
          · rw [flatMap_take hw, ← List.append_assoc]
            exact paired_app (Paired.mapP hv3 fun _ _ e => (e.same s4').keepL hl4) (Paired.mapP hacc fun _ _ e => (e.same off_same).keepL hl4)
      · rintro σ H3 ⟨vs, t4, t5, t6, rfl, s3, hwl3, hl3, hv3⟩
        refine ⟨vs, _, _, _, _, rfl, s3, hl3, ?_⟩
        rw [List.length_map, List.take_length] at hv3
        rw [stfs_succ]; exact hv3
    · rintro σ H1 ⟨vs, t3, t4, t5, t6, rfl, s1, hl1, hv1⟩
      have hvl : vs.length = 12 := by rw [Paired.length hv1]; decide
      refine ⟨_, rfl, l, rfl, ⟨_, lq hl1⟩, fun D hD => ?_⟩
      refine lc_sit (sit_list vs) (fun _ _ s h => s.seq h) hD (fun i acc H2 => Same H1 H2 ∧ ∃ rs : List Addr, acc = rs.map V.ref ∧ rs.length ≤ i ∧ Paired (fun r st => RuleAt C H2 r fl [st]) rs (((stfs 2).take i).filter okS)) ⟨.refl _, [], rfl, Nat.le_refl _, .nil⟩ (fun _ _ _ _ h => h.1.seq (lq hl1)) ?_ ?_
      · rintro i x acc H2 hi hx hD2 ⟨s2, rs, rfl, hrl, hrs⟩ Nx nx
        obtain ⟨st, hst, hv⟩ := paired_get hv1 hx
        have s2' := s2.trans (off_same (H := H2) (D := D))
        rw [hvl] at hi
        refine ⟨rfl, ?_⟩
        rcases hv with ⟨hok, r, rfl, hR⟩ | ⟨hok, rfl⟩
        · refine ⟨_, rfl, rfl, _, rfl, ?_⟩
          refine ⟨_, rfl, _, hD2, by rw [List.length_map]; exact lt_sz (by omega), nx _ _ upd_same ⟨?_, rs ++ [r], by rw [List.map_append]; rfl, by rw [List.length_append]; simp; omega, ?_⟩⟩
          · rw [off_upd]; exact s2
          · rw [take_snoc hst, List.filter_append, off_upd]
            refine paired_app hrs ?_
            rw [List.filter_cons_of_pos hok]
            exact paired_one ((hR.same s2').offL hD2)
        · refine ⟨_, rfl, rfl, _, rfl, ?_⟩
          refine nx _ _ hD2 ⟨s2, rs, rfl, by omega, ?_⟩
          rw [take_snoc hst, List.filter_append, List.filter_cons_of_neg (by rw [hok]; decide), List.filter_nil, List.append_nil]
          exact hrs
      · rintro acc H2 hD2 ⟨s2, rs, rfl, hrl, hrs⟩
        have s2' := s2.trans (off_same (H := H2) (D := D))
        refine q H2 D rs (s1.trans s2') hD2 ?_
        rw [hvl] at hrs
        exact Paired.mapP hrs fun _ _ e => e.same off_same
end UF
set_option maxHeartbeats 4000000
namespace UF
open PySem PySem.Spec PyProof.Rows L2
theorem fnR_of {P : Program} {w : World} {K : PySem.W.Frag} {mg : Str → Option Value} {base : Heap} {CX : CXT} {k : Nat} {f : Addr} {fd : FuncData} {ps : List Str} {sp : Sp} (F : FnOk P w K mg base CX k f fd ps sp) (hb : Binds K fd ps []) : FnR P w K mg base CX k f sp :=
  fun A outer s H us vs Q E hr e0 r hsp => by
    have KX : K.In s.heap := e0.mod.kin.keeps fun b o e => (e0.bs b o e).1
    have hl : (us ++ []).length = ps.length := by rw [List.append_nil, ← r.length]; exact F.len _ _ _ _ hsp
    have h := hb s us KX hl
    rw [List.append_nil] at h
    exact F.run A outer s H _ us vs Q E hr e0 h r hsp
theorem u65 {k : Nat} {A : Around} (r : Room k A) : A.units + 65 < cLine := by have := r.un; omega
theorem oinD {X : Cx} {K : PySem.W.Frag} (eK : X.K = K) (hu : X.A.units + 65 < cLine) : OpR X (compareOp .In) (rInD K) := by subst eK; exact op_inD hu
/-! ### a rule from its text -/
theorem tl_flag : TL.tl ("flag" : Str) = [102, 108, 97, 103] := by decide +kernel
theorem tl_put : TL.tl ("put" : Str) = [112, 117, 116] := by decide +kernel
theorem tl_colon : TL.tl (":" : Str) = [58] := by decide +kernel
theorem tl_space : TL.tl (" " : Str) = [32] := by decide +kernel
theorem no32 (l : Wd) : 32 ∉ TL.tl (S l) := by
  rw [S_tl]; intro h
  obtain ⟨b, _, e⟩ := List.mem_map.mp h
  cases b <;> simp [cd] at e
theorem no32x (st : Stf) : 32 ∉ TL.tl (stx st) := by
  unfold stx
  rw [TL.tl_append, TL.tl_append, tl_colon, List.mem_append, List.mem_append]
  rintro ((h | h) | h)
  · exact no32 _ h
  · simp at h
  · exact no32 _ h
def parts (fl : Wd) (st : Stf) : List Str := [("flag" : Str), S fl, ("put" : Str), stx st]
theorem rtx_one (fl : Wd) (st : Stf) : rtx fl [st] = Txt.join " " (parts fl st) := by
  unfold rtx parts
  rw [if_neg (by simp)]; rfl
theorem split_rtx (fl : Wd) (st : Stf) : Txt.split (rtx fl [st]) " " = parts fl st := by
  rw [rtx_one]
  refine TL.split_join (s := 32) (S := []) tl_space (by decide +kernel) (by simp [parts]) fun p hp => ?_
  unfold parts at hp
  simp only [List.mem_cons, List.not_mem_nil, or_false] at hp
  rcases hp with rfl | rfl | rfl | rfl
  · rw [tl_flag]; simp
  · exact no32 _
  · rw [tl_put]; simp
  · exact no32x _
theorem rtx_len (fl : Wd) (st : Stf) : (rtx fl [st]).length = fl.length + st.1.length + 12 := by
  rw [rtx_one, TL.join_eq, TL.len_tl, TL.tl_join]
  unfold parts
  simp only [List.map_cons, List.map_nil, TL.joinL, List.length_append, tl_space, tl_flag, tl_put, S_tl, List.length_map, List.length_cons, List.length_nil]
  have : (TL.tl (stx st)).length = st.1.length + 2 := by rw [← TL.len_tl]; exact stx_len st
  rw [this]; omega
theorem rtx_inj {fl : Wd} {a b : Stf} (h : rtx fl [a] = rtx fl [b]) : a = b := by
  have e := split_rtx fl a
  rw [h, split_rtx] at e
  unfold parts at e
  have e2 : stx b = stx a := by simpa using e
  have e3 := part_stx b
  rw [e2, part_stx] at e3
  injection e3 with h1 h2
  injection h2 with _ h2
  have q1 := S_inj h1
  have q2 := S_inj h2
  simp at q2
  exact (Prod.ext q1 q2)
theorem strOk_S {l : Wd} (h : l.length ≤ 1000) : PyData.strOk (S l) = true := by
  unfold PyData.strOk
  rw [← Array.all_toList, show (S l).cps.toList = l.map cd from S_tl l, List.all_map, List.all_eq_true]
  intro b _
  cases b <;> decide
theorem shaped_st {st : Stf} (h : st.1.length ≤ 100) : SeqAt.shaped (.list [.tuple [.str (S st.1), .str (S [st.2])]]) = true := by
  simp [SeqAt.shaped, PyData.canLay0, PyData.canLayAll0, PyData.depth, PyData.depthAll, strOk_S (l := st.1) (by omega), strOk_S (l := [st.2]) (by simp)]
def sp_Rule_read (K : Fg) (C : Addr) : Sp := fun vs H Q _ => ∃ (fl : Wd) (st : Stf), vs = [.ref C, .str (rtx fl [st])] ∧ Shr fl [st] ∧ 2 ≤ fl.length ∧ okS st = true ∧ ∀ H' r, Same H H' → RuleAt C H' r fl [st] → Q (.ref r) H'
theorem okS_edl {st : Stf} (h : okS st = true) : edl [st] (lng [st]) 40 [[]] 0 = some false := by
  unfold okS at h
  split at h
  · rename_i e; exact e
  · cases h
abbrev s_Rule_read : Stmt := inClass (top 31) 1
theorem sc_Rule_read : FnScope ["cls", "text", "words", "stuffs", "word"] ["cls", "text"] (defScope s_Rule_read) := ⟨rfl, rfl, rfl, by decide +kernel, rfl, by decide +kernel, by decide +kernel⟩
-- slots: 0 cls, 1 text, 2 words, 3 stuffs, 4 word
theorem ok_Rule_read {P : Program} {w : World} {K : PySem.W.Frag} {mg : Str → Option Value} {base : Heap} {f C D : Addr} {fd : FuncData} (F : FnP K "read" "Rule.read" s_Rule_read [] f fd) (T : TX K mg C) (c_Rule : Rul P w K mg base 5 C (sp_Rule___init__ K C D)) (c_is_word : Cal P w K mg base 1 "is_word" ["value"] (sp_is_word K C)) (c_stuff_in : Cal P w K mg base 4 "stuff_in" ["word"] (sp_stuff_in K C)) : FnOk P w K mg base CX0 7 f fd ["cls", "text"] (sp_Rule_read K C) := by
  refine FunD.ok (k := 6) F sc_Rule_read (fun vs H Q E h => ?_) (fun cdv A outer s H vs Q E hr h => ?_)
  · obtain ⟨fl, st, rfl, _⟩ := h; rfl
  · obtain ⟨fl, st, rfl, sh, h2, hok, q⟩ := h
    have hfl := sh.fl
    have hst := sh.st st (List.mem_singleton.mpr rfl)
    refine ⟨_, (PSs.nox (pss_cons (ps_set (i := 2) sc_Rule_read.nd rfl (by first | exact Or.inl rfl | exact Or.inr rfl) (pe_ifExp (pt_val (pe_callB (cisi (K := K) rfl) (by rfl) T.n_isinstance (by decide +kernel) (pa_cons (pv 1) (pa_cons (pe_bltn (v := .ty "str") (u := .type "str") (by rfl) T.n_str (by decide +kernel) rfl) pa_nil)))) (pe_split (pv 1) pe_str) (pe_lst pa_nil)))
      (pss_cons (ps_if (PW.pt (pw_or (pt_cmpR op_lt (pe_callB (cln (K := K) rfl) (by rfl) T.n_len (by decide +kernel) (pa_cons (pv 2) pa_nil)) pe_int (nomark _)) (pw_or (pt_cmpR op_ne (pe_ix (ixl (K := K) rfl) (pv 2) pe_int (fun _ _ => rfl)) pe_str (nomark _)) (pw_or (pt_not (pt_val (c_is_word.pe hr (by rfl) (pa_cons (pe_ix (ixl (K := K) rfl) (pv 2) pe_int (fun _ _ => rfl)) pa_nil)))) (pw_or1 (pt_cmpR op_eq (pe_ix (ixl (K := K) rfl) (pv 2) pe_int (fun _ _ => rfl)) pe_str (nomark _))))))) (pss_one ps_never) pss_nil)
      (pss_cons (ps_if (PW.pt (pw_and (pt_cmpR op_gt (pe_callB (cln (K := K) rfl) (by rfl) T.n_len (by decide +kernel) (pa_cons (pv 2) pa_nil)) pe_int (nomark _)) (pw_and1 (PW.pt (pw_or (pt_cmpR op_ne (pe_ix (ixl (K := K) rfl) (pv 2) pe_int (fun _ _ => rfl)) pe_str (nomark _)) (pw_or1 (pt_cmpR op_eq (pe_callB (cln (K := K) rfl) (by rfl) T.n_len (by decide +kernel) (pa_cons (pv 2) pa_nil)) pe_int (nomark _)))))))) (pss_one ps_never) pss_nil)
      (pss_cons (ps_setLc (own := [("word", 4)]) (i := 3) rfl sc_Rule_read.nd rfl rfl (sw_true rfl rfl rfl (by decide +kernel)) (pil (K := K) rfl (pe_slice (sll (K := K) rfl) (pv 2) (po_some pe_int) po_none)) (blkOk_by (own := [("word", 4)]) (by kernel_rfl)) (fun _ _ _ _ _ => (pg_name (i := 4) sc_Rule_read.nd rfl (by first | exact Or.inl rfl | exact Or.inr rfl))) (fun _ _ _ _ _ => pts_nil) (fun _ _ _ _ _ => (c_stuff_in.pe hr (by rfl) (pa_cons (pv 4) pa_nil))))
      (pss_cons (ps_if (pt_cmpR (oinD (K := K) rfl (u65 hr)) pe_non (pv 3) rfl) (pss_one ps_never) pss_nil)
      (pss_one (ps_ret (c_Rule.peL hr (pv 0) (pa_cons (pe_ix (ixl (K := K) rfl) (pv 2) pe_int (fun _ _ => rfl)) (pa_cons (pv 3) pa_nil))))))))))), ?_⟩
    refine ⟨_, rfl, _, _, _, _, true, rfl, .ty _, .base (.str _), k_one _, _, rfl, ?_⟩
    refine ⟨_, rfl, ⟨_, rfl⟩, _, _, rfl, rfl, by decide +kernel, by rw [rtx_len]; exact le_sz (by omega), fun l hl => ?_⟩
    rw [split_rtx]
    have s1 : Same H (upd H l (.lst ((parts fl st).map V.str))) := .new hl
    have hl1 : upd H l (.lst ((parts fl st).map V.str)) l = some (.lst ((parts fl st).map V.str)) := upd_same
    generalize upd H l (.lst ((parts fl st).map V.str)) = H1 at s1 hl1
    refine ⟨_, rfl, _, _, rfl, .inl ⟨_, lq hl1, rfl⟩, _, _, rfl, rfl, _, rfl, ?_⟩
    rw [show decide (((((parts fl st).map V.str).length : Nat) : Int) < 2) = false from by show decide ((4 : Int) < 2) = false; decide]
    refine ⟨_, rfl, _, _, _, _, rfl, rfl, lq hl1, atI_nat (j := 0) rfl, rfl, _, rfl, ?_⟩
    rw [show (!decide (V.str (Str.ofString "flag") = V.str (Str.ofString "flag"))) = false by rw [decide_eq_true rfl]; rfl]
    refine ⟨_, rfl, _, _, _, _, rfl, rfl, lq hl1, atI_nat (j := 1) rfl, fl, rfl, by omega, fun H2 s2 => ⟨_, rfl, ?_⟩⟩
    have hl2 := s2 _ _ hl1
    refine ⟨_, rfl, _, _, _, _, rfl, rfl, lq hl2, atI_nat (j := 1) rfl, rfl, _, rfl, ?_⟩
    rw [show decide (V.str (S fl) = V.str (Str.ofString "")) = false by
      rw [decide_eq_false_iff_not]; intro z; injection z with z
      have := S_inj (z.trans S_nil)
      rw [this] at h2; simp at h2]
    refine ⟨_, rfl, _, _, rfl, .inl ⟨_, lq hl2, rfl⟩, _, _, rfl, rfl, _, rfl, ?_⟩
    rw [show decide ((((((parts fl st).map V.str).length : Nat) : Int)) > 2) = true from by show decide ((2 : Int) < 4) = true; decide]
    refine ⟨_, rfl, _, _, _, _, rfl, rfl, lq hl2, atI_nat (j := 2) rfl, rfl, _, rfl, ?_⟩
    rw [show (!decide (V.str (Str.ofString "put") = V.str (Str.ofString "put"))) = false by rw [decide_eq_true rfl]; rfl]
    refine ⟨_, rfl, _, _, rfl, .inl ⟨_, lq hl2, rfl⟩, rfl, _, rfl, ?_⟩
    rw [show decide (V.int (((((parts fl st).map V.str).length : Nat) : Int)) = V.int 3) = false by rw [decide_eq_false_iff_not]; intro z; injection z with z; exact absurd z (by show ¬ (4 : Int) = 3; decide)]
    refine ⟨_, rfl, _, rfl, l, _, rfl, lq hl2, fun p hp => ⟨p, rfl, ⟨_, lq upd_same⟩, fun D hD => ?_⟩⟩
    have ec : cutV ((parts fl st).map V.str) (some 3) none = [V.str (stx st)] := by
      rw [show (3 : Int) = ((3 : Nat) : Int) from rfl, cutV_drop]; rfl
    rw [ec] at hD ⊢
    have s3 := s2.trans (Same.new (o := .lst [V.str (stx st)]) hp)
    have hp3 : upd H2 p (.lst [V.str (stx st)]) p = some (.lst [V.str (stx st)]) := upd_same
    have hl3 := Same.new (o := .lst [V.str (stx st)]) hp _ _ hl2
    generalize upd H2 p (.lst [V.str (stx st)]) = H3 at s3 hp3 hD hl3
    refine lc_sit (sit_list [V.str (stx st)]) (fun _ _ s h => s.seq h) hD (fun i acc H4 => Same H3 H4 ∧ ∃ as : List Addr, acc = as.map V.ref ∧ Paired (StA H4) as ([st].take i)) ⟨.refl _, [], rfl, .nil⟩ (fun _ _ _ _ h => h.1.seq (lq hp3)) ?_ ?_
    · rintro i x acc H4 hi hx hD4 ⟨s4, as, rfl, has⟩ Nx nx
      have hi1 : i < 1 := hi
      have hx' : x = .str (stx st) ∧ [st][i]? = some st := by
        match i, hi1, hx with
        | 0, _, h => exact ⟨(Option.some.inj h).symm, rfl⟩
      obtain ⟨rfl, hst'⟩ := hx'
      refine ⟨rfl, ?_⟩
      refine ⟨_, rfl, st, rfl, hst.1, hst.2, fun H5 a s5 ha => ⟨_, s5 _ _ hD4, ?_, nx _ _ upd_same ⟨?_, as ++ [a], by rw [List.map_append]; rfl, ?_⟩⟩⟩
      · rw [List.length_map, Paired.length has, List.length_take]; exact lt_sz (by omega)
      · rw [off_upd]; exact s4.trans (off_mono s5)
      · rw [take_snoc hst', off_upd]
        exact paired_snoc (Paired.mapP has fun _ _ e => off_mono s5 _ _ e) (off_some (s5 _ _ hD4) ha (by intro q; cases q))
    · rintro acc H4 hD4 ⟨s4, as, rfl, has⟩
      have s4' := s4.trans (off_same (H := H4) (D := D))
      cases has with
      | @cons a _ as _ ha t =>
      cases t
      have ha4 : StA H4 a st := off_same _ _ ha
      refine ⟨_, rfl, .none, [.tuple [.str (S st.1), .str (S [st.2])]], .non, .lst (lq hD4) (.cons (.tup (tq ha4) (.cons (.str _) (.cons (.str _) .nil))) .nil), rfl, shaped_st hst.2, _, rfl, ?_⟩
      rw [show ([PyData.tuple [.str (S st.1), .str (S [st.2])]].any fun z => PyData.eqv z .none) = false from rfl]
      have hl4 := s4' _ _ hl3
      refine ⟨_, rfl, rfl, _, rfl, _, _, _, _, rfl, rfl, lq hl4, atI_nat (j := 1) rfl, _, rfl, fun x dx hx hdx hne => ?_⟩
      have s14 : Same H H4 := (s1.trans s3).trans s4'
      have sm := mk_same (C := C) s14 hx hdx
      refine ⟨x, dx, D, fl, [a], [st], false, rfl, upd_same, ?_, .cons ?_ .nil, sh, apart_one st, by simp, h2, okS_edl hok, fun _ H' s' hR => ⟨rfl, q H' x (sm.trans s') hR⟩, fun h => by cases h⟩
      · rw [upd_ne (ne_of_none hD4 hx), upd_ne (ne_of_none hD4 hdx)]; exact hD4
      · show upd _ x _ a = _
        rw [upd_ne (ne_of_none ha4 hx), upd_ne (ne_of_none ha4 hdx)]; exact ha4
end UF
set_option maxHeartbeats 4000000
namespace UF
open PySem PySem.Spec PyProof.Rows L2
def clnS (fl : Wd) (st : Stf) : Bool := match wlkC fl [st] 40 [[]] [[]] with
  | some true => true
  | _ => false
def vcl (fl : Wd) : List Stf := vst.filter (clnS fl)
def CleanTot (fl : Wd) : Prop := ∀ st ∈ vst, ∃ c, ClnOk fl [st] c
theorem clnS_of {fl : Wd} {st : Stf} {c : Bool} (h : ClnOk fl [st] c) : clnS fl st = c := by
  unfold clnS; rw [h.run]; cases c <;> rfl
def mvsOf (ss : List Stf) : Mvs := (mvs ss (lng ss) 60 [] [[]]).getD []
def rtS (st : Stf) : Int × Int := rt (mvsOf [st])
structure Gd (ss : List Stf) : Prop where
  mv : mvs ss (lng ss) 60 [] [[]] = some (mvsOf ss)
  clo : Clo (mvsOf ss)
  ok : rateOk (mvsOf ss) = true
def vrow (fl : Wd) : List Str := (vcl fl).map fun st => rtx fl [st]
def RsA (C : Addr) (H : Hp) (fl : Wd) (rs : List Addr) (sts : List Stf) : Prop := Paired (fun r st => RuleAt C H r fl [st]) rs sts
def sp_all_clean (K : Fg) (C : Addr) : Sp := fun vs H Q _ => ∃ (fl : Wd), vs = [.str (S fl), .int 2] ∧ 2 ≤ fl.length ∧ fl.length ≤ 100 ∧ CleanTot fl ∧ ∀ H' l rs, Same H H' → H' l = some (.lst (rs.map V.ref)) → RsA C H' fl rs (vcl fl) → Q (.ref l) H'
def sp_clean_rules (K : Fg) (C : Addr) : Sp := fun vs H Q _ => ∃ (fl : Wd), vs = [.str (S fl), .int 2] ∧ 2 ≤ fl.length ∧ fl.length ≤ 100 ∧ CleanTot fl ∧ ∀ H' t (ys : List Str), Same H H' → H' t = some (.tup (ys.map V.str)) → ys.Perm (vrow fl) → Q (.ref t) H'
def hitS (bits line : Wd) (st : Stf) : Bool := decide (bod [st] [] bits = some line)
def cbl (bits line : Wd) : List Stf := vst.filter (hitS bits line)
def sp_could_be (K : Fg) (C : Addr) : Sp := fun vs H Q _ => ∃ (fl bits line : Wd) (pl pt : Addr), vs = [.str (S fl), .int 2, .ref pl] ∧ 2 ≤ fl.length ∧ fl.length ≤ 100 ∧ H pl = some (.lst [.ref pt]) ∧ H pt = some (.tup [.str (S bits), .str (S line)]) ∧ bits.length ≤ 100 ∧
  (∀ st ∈ vst, ∃ x, bod [st] [] bits = some x) ∧ ∀ H' t (ys : List Str), Same H H' → H' t = some (.tup (ys.map V.str)) → ys.Perm ((cbl bits line).map fun st => rtx fl [st]) → Q (.ref t) H'
/-- none of the others is cheaper -/
def isLow (l : List Stf) (st : Stf) : Bool := !l.any fun s' => decide ((rtS s').1 * (rtS st).2 < (rtS st).1 * (rtS s').2)
def chp (fl : Wd) : List Stf := (vcl fl).filter (isLow (vcl fl))
def sp_cheapest (K : Fg) (C : Addr) : Sp := fun vs H Q _ => ∃ (fl : Wd), vs = [.str (S fl), .int 2] ∧ 2 ≤ fl.length ∧ fl.length ≤ 100 ∧ CleanTot fl ∧ (∀ st ∈ vst, Gd [st]) ∧ (∀ st ∈ vst, 0 < (rtS st).2 ∧ (rtS st).2 ≤ 100) ∧
  ∀ H' t (ys : List Str), Same H H' → H' t = some (.tup (ys.map V.str)) → ys.Perm ((chp fl).map fun st => rtx fl [st]) → Q (.ref t) H'
theorem vst_len : vst.length ≤ 12 := by
  unfold vst
  exact Nat.le_trans (List.length_filter_le _ _) (by decide)
theorem vst_sub {st : Stf} (h : st ∈ vst) : st ∈ stfs 2 := (List.mem_filter.mp h).1
abbrev s_all_clean : Stmt := top 53
theorem sc_all_clean : FnScope ["flag", "size", "rule"] ["flag", "size"] (defScope s_all_clean) := ⟨rfl, rfl, rfl, by decide +kernel, rfl, by decide +kernel, by decide +kernel⟩
-- slots: 0 flag, 1 size, 2 rule
theorem ok_all_clean {P : Program} {w : World} {K : PySem.W.Frag} {mg : Str → Option Value} {base : Heap} {f C : Addr} {fd : FuncData} (F : FnP K "all_clean" "all_clean" s_all_clean [] f fd) (T : TX K mg C) (c_is_clean : Cal P w K mg base 6 "is_clean" ["rule"] (sp_is_clean K C)) (c_single_rules : Cal P w K mg base 8 "single_rules" ["flag", "size"] (sp_single_rules K C)) : FnOk P w K mg base CX0 9 f fd ["flag", "size"] (sp_all_clean K C) := by
  refine FunD.ok (k := 8) F sc_all_clean (fun vs H Q E h => ?_) (fun cdv A outer s H vs Q E hr h => ?_)
  · obtain ⟨fl, rfl, _⟩ := h; rfl
  · obtain ⟨fl, rfl, h2, h100, hc, q⟩ := h
    have hv := vst_len
    refine ⟨_, (PSs.nox (pss_one (ps_ret (pe_lc (own := [("rule", 2)]) rfl sc_all_clean.nd (pil (K := K) rfl (c_single_rules.pe hr (by rfl) (pa_cons (pv 0) (pa_cons (pv 1) pa_nil)))) (blkOk_by (own := [("rule", 2)]) (by kernel_rfl)) (fun _ _ _ _ _ => (pg_name (i := 2) sc_all_clean.nd rfl (by first | exact Or.inl rfl | exact Or.inr rfl))) (fun _ _ _ _ _ => (pts_one (pt_val (c_is_clean.pe hr (by rfl) (pa_cons (pv 2) pa_nil))))) (fun _ _ _ _ _ => (pv 2)))))), ?_⟩
    refine ⟨_, rfl, _, rfl, fl, rfl, h2, h100, fun H1 l rs s1 hl hrs => ?_⟩
    have hrl : rs.length = vst.length := Paired.length hrs
    refine ⟨l, rfl, ⟨_, lq hl⟩, fun D hD => ?_⟩
    refine lc_sit (sit_list (rs.map V.ref)) (fun _ _ s h => s.seq h) hD (fun i acc H2 => Same H1 H2 ∧ ∃ qs : List Addr, acc = qs.map V.ref ∧ qs.length ≤ i ∧ RsA C H2 fl qs ((vst.take i).filter (clnS fl))) ⟨.refl _, [], rfl, Nat.le_refl _, .nil⟩ (fun _ _ _ _ h => h.1.seq (lq hl)) ?_ ?_
    · rintro i x acc H2 hi hx hD2 ⟨s2, qs, rfl, hql, hqs⟩ Nx nx
      obtain ⟨r, hr0, rfl⟩ := map_get hx
      obtain ⟨st, hst, hR⟩ := paired_get hrs hr0
      have s2' := s2.trans (off_same (H := H2) (D := D))
      obtain ⟨c, hcl⟩ := hc st (List.mem_of_getElem? hst)
      have hi2 := lt_of_get hst
      refine ⟨rfl, ?_⟩
      refine ⟨_, rfl, r, fl, [st], c, rfl, hR.same s2', hcl, fun H3 s3 => ⟨_, rfl, ?_⟩⟩
      have hD3 := s3 _ _ hD2
      cases c with
      | true =>
        refine ⟨_, rfl, _, hD3, by rw [List.length_map]; exact lt_sz (by omega), nx _ _ upd_same ⟨?_, qs ++ [r], by rw [List.map_append]; rfl, by rw [List.length_append]; simp; omega, ?_⟩⟩
        · rw [off_upd]; exact s2.trans (off_mono s3)
        · rw [take_snoc hst, List.filter_append, off_upd]
          refine paired_app (Paired.mapP hqs fun _ _ e => e.same (off_mono s3)) ?_
          rw [List.filter_cons_of_pos (clnS_of hcl)]
          exact paired_one ((hR.same (s2'.trans s3)).offL hD3)
      | false =>
        refine nx _ _ hD3 ⟨s2.trans (off_mono s3), qs, rfl, by omega, ?_⟩
        rw [take_snoc hst, List.filter_append, List.filter_cons_of_neg (by rw [clnS_of hcl]; decide), List.filter_nil, List.append_nil]
        exact Paired.mapP hqs fun _ _ e => e.same (off_mono s3)
    · rintro acc H2 hD2 ⟨s2, qs, rfl, hql, hqs⟩
      have s2' := s2.trans (off_same (H := H2) (D := D))
      refine q H2 D qs (s1.trans s2') hD2 ?_
      rw [List.length_map, hrl, List.take_length] at hqs
      exact Paired.mapP hqs fun _ _ e => e.same off_same
theorem vcl_len (fl : Wd) : (vcl fl).length ≤ 12 := Nat.le_trans (List.length_filter_le _ _) vst_len
/-- the texts of some rules -/
theorem strs_it {C D : Addr} {H1 : Hp} : True := trivial
abbrev s_clean_rules : Stmt := top 54
theorem sc_clean_rules : FnScope ["flag", "size", "rule"] ["flag", "size"] (defScope s_clean_rules) := ⟨rfl, rfl, rfl, by decide +kernel, rfl, by decide +kernel, by decide +kernel⟩
-- slots: 0 flag, 1 size, 2 rule
theorem ok_clean_rules {P : Program} {w : World} {K : PySem.W.Frag} {mg : Str → Option Value} {base : Heap} {f C : Addr} {fd : FuncData} (F : FnP K "clean_rules" "clean_rules" s_clean_rules [] f fd) (T : TX K mg C) (c_all_clean : Cal P w K mg base 9 "all_clean" ["flag", "size"] (sp_all_clean K C)) (c_str : Strr P w K mg base 1 C (sp_Rule___str__ K C)) : FnOk P w K mg base CX0 10 f fd ["flag", "size"] (sp_clean_rules K C) := by
  refine FunD.ok (k := 9) F sc_clean_rules (fun vs H Q E h => ?_) (fun cdv A outer s H vs Q E hr h => ?_)
  · obtain ⟨fl, rfl, _⟩ := h; rfl
  · obtain ⟨fl, rfl, h2, h100, hc, q⟩ := h
    have hv := vcl_len fl
    refine ⟨_, (PSs.nox (pss_one (ps_ret (pe_callTy (ctup (K := K) rfl) (by rfl) T.n_tuple (by decide +kernel) (pa_cons (pe_callB (csrtS (K := K) rfl) (by rfl) T.n_sorted (by decide +kernel) (pa_cons (pe_lc (own := [("rule", 2)]) rfl sc_clean_rules.nd (pil (K := K) rfl (c_all_clean.pe hr (by rfl) (pa_cons (pv 0) (pa_cons (pv 1) pa_nil)))) (blkOk_by (own := [("rule", 2)]) (by kernel_rfl)) (fun _ _ _ _ _ => (pg_name (i := 2) sc_clean_rules.nd rfl (by first | exact Or.inl rfl | exact Or.inr rfl))) (fun _ _ _ _ _ => pts_nil) (fun _ _ _ _ _ => (c_str.pe hr (by rfl) T.n_str (pa_cons (pv 2) pa_nil)))) pa_nil)) pa_nil))))), ?_⟩
    refine ⟨_, rfl, _, rfl, fl, rfl, h2, h100, hc, fun H1 l rs s1 hl hrs => ?_⟩
    have hrl : rs.length = (vcl fl).length := Paired.length hrs
    refine ⟨l, rfl, ⟨_, lq hl⟩, fun D hD => ?_⟩
    refine lc_sit (sit_list (rs.map V.ref)) (fun _ _ s h => s.seq h) hD (fun i acc H2 => Same H1 H2 ∧ acc = (((vcl fl).take i).map fun st => rtx fl [st]).map V.str) ⟨.refl _, rfl⟩ (fun _ _ _ _ h => h.1.seq (lq hl)) ?_ ?_
    · rintro i x acc H2 hi hx hD2 ⟨s2, rfl⟩ Nx nx
      obtain ⟨r, hr0, rfl⟩ := map_get hx
      obtain ⟨st, hst, hR⟩ := paired_get hrs hr0
      have s2' := s2.trans (off_same (H := H2) (D := D))
      have hR2 := hR.same s2'
      obtain ⟨_, dx, t, ts, hr', _, _⟩ := id hR2
      refine ⟨rfl, ?_⟩
      refine ⟨_, rfl, r, dx, _, rfl, hr', r, fl, [st], rfl, hR2, fun H3 s3 => ⟨_, rfl, _, s3 _ _ hD2, ?_, nx _ _ upd_same ⟨?_, ?_⟩⟩⟩
      · rw [List.length_map, List.length_map, List.length_take]; exact lt_sz (by omega)
      · rw [off_upd]; exact s2.trans (off_mono s3)
      · rw [take_snoc hst, List.map_append, List.map_append]; rfl
    · rintro acc H2 hD2 ⟨s2, rfl⟩
      have s2' := s2.trans (off_same (H := H2) (D := D))
      rw [List.length_map, hrl, List.take_length] at hD2
      refine ⟨D, vrow fl, rfl, lq hD2, by show ((vcl fl).map _).length < 64; rw [List.length_map]; omega, fun ys p hperm _ hp => ?_⟩
      refine ⟨p, _, rfl, .inl ⟨lq upd_same, fun t ht => ?_⟩⟩
      exact q _ t ys (((s1.trans s2').trans (.new hp)).trans (.new ht)) upd_same hperm
abbrev s_could_be : Stmt := top 37
theorem sc_could_be : FnScope ["flag", "size", "pairs", "found", "rule", "one", "other"] ["flag", "size", "pairs"] (defScope s_could_be) := ⟨rfl, rfl, rfl, by decide +kernel, rfl, by decide +kernel, by decide +kernel⟩
-- slots: 0 flag, 1 size, 2 pairs, 3 found, 4 rule, 5 one, 6 other
theorem ok_could_be {P : Program} {w : World} {K : PySem.W.Frag} {mg : Str → Option Value} {base : Heap} {f C : Addr} {fd : FuncData} (F : FnP K "could_be" "could_be" s_could_be [] f fd) (T : TX K mg C) (c_body : Cal P w K mg base 3 "body" ["rule", "message"] (sp_body K C)) (c_single_rules : Cal P w K mg base 8 "single_rules" ["flag", "size"] (sp_single_rules K C)) (c_str : Strr P w K mg base 1 C (sp_Rule___str__ K C)) : FnOk P w K mg base CX0 9 f fd ["flag", "size", "pairs"] (sp_could_be K C) := by
  refine FunD.ok (k := 8) F sc_could_be (fun vs H Q E h => ?_) (fun cdv A outer s H vs Q E hr h => ?_)
  · obtain ⟨fl, bits, line, pl, pt, rfl, _⟩ := h; rfl
  · obtain ⟨fl, bits, line, pl, pt, rfl, h2, h100, hpl, hpt, hb, htot, q⟩ := h
    have hv := vst_len
    refine ⟨_, (PSs.nox (pss_cons (ps_setLc (own := [("rule", 4)]) (i := 3) rfl sc_could_be.nd rfl rfl (sw_true rfl rfl rfl (by decide +kernel)) (pil (K := K) rfl (c_single_rules.pe hr (by rfl) (pa_cons (pv 0) (pa_cons (pv 1) pa_nil)))) (blkOk_by (own := [("rule", 4)]) (by kernel_rfl)) (fun _ _ _ _ _ => (pg_name (i := 4) sc_could_be.nd rfl (by first | exact Or.inl rfl | exact Or.inr rfl))) (fun _ _ _ _ _ => (pts_one (pt_val (pe_callB (call' (K := K) rfl rfl) (by rfl) T.n_all (by decide +kernel) (pa_cons (pe_lc (own := [("one", 5), ("other", 6)]) rfl sc_could_be.nd (pil (K := K) rfl (pv 2)) (blkOk_by (own := [("one", 5), ("other", 6)]) (by kernel_rfl)) (fun _ _ _ _ _ => (pgt (K := K) (n := 2) rfl rfl (pgs_cons (pg_name (i := 5) sc_could_be.nd rfl (by first | exact Or.inl rfl | exact Or.inr rfl)) (pgs_cons (pg_name (i := 6) sc_could_be.nd rfl (by first | exact Or.inl rfl | exact Or.inr rfl)) pgs_nil)))) (fun _ _ _ _ _ => pts_nil) (fun _ _ _ _ _ => (pe_cmpR op_eq (c_body.pe hr (by rfl) (pa_cons (pv 4) (pa_cons (pv 5) pa_nil))) (pv 6) (nomark _)))) pa_nil))))) (fun _ _ _ _ _ => (pv 4)))
      (pss_one (ps_ret (pe_callTy (ctup (K := K) rfl) (by rfl) T.n_tuple (by decide +kernel) (pa_cons (pe_callB (csrtS (K := K) rfl) (by rfl) T.n_sorted (by decide +kernel) (pa_cons (pe_lc (own := [("rule", 4)]) rfl sc_could_be.nd (pil (K := K) rfl (pv 3)) (blkOk_by (own := [("rule", 4)]) (by kernel_rfl)) (fun _ _ _ _ _ => (pg_name (i := 4) sc_could_be.nd rfl (by first | exact Or.inl rfl | exact Or.inr rfl))) (fun _ _ _ _ _ => pts_nil) (fun _ _ _ _ _ => (c_str.pe hr (by rfl) T.n_str (pa_cons (pv 4) pa_nil)))) pa_nil)) pa_nil)))))), ?_⟩
    refine ⟨_, rfl, _, rfl, fl, rfl, h2, h100, fun H1 l rs s1 hl hrs => ?_⟩
    have hrl : rs.length = vst.length := Paired.length hrs
    refine ⟨l, rfl, ⟨_, lq hl⟩, fun D hD => ?_⟩
    refine lc_sit (sit_list (rs.map V.ref)) (fun _ _ s h => s.seq h) hD (fun i acc H2 => Same H1 H2 ∧ ∃ qs : List Addr, acc = qs.map V.ref ∧ qs.length ≤ i ∧ RsA C H2 fl qs ((vst.take i).filter (hitS bits line))) ⟨.refl _, [], rfl, Nat.le_refl _, .nil⟩ (fun _ _ _ _ h => h.1.seq (lq hl)) ?_ ?_
    · rintro i x acc H2 hi hx hD2 ⟨s2, qs, rfl, hql, hqs⟩ Nx nx
      obtain ⟨r, hr0, rfl⟩ := map_get hx
      obtain ⟨st, hst, hR⟩ := paired_get hrs hr0
      have s2' := s2.trans (off_same (H := H2) (D := D))
      obtain ⟨x0, hx0⟩ := htot st (List.mem_of_getElem? hst)
      have hi2 := lt_of_get hst
      have sP := s1.trans s2'
      refine ⟨rfl, ?_⟩
      refine ⟨_, rfl, pl, rfl, ⟨_, lq (sP _ _ hpl)⟩, fun D2 hD2' => ?_⟩
      refine lc_sit (sit_list [V.ref pt]) (fun _ _ s h => s.seq h) hD2' (fun j acc2 H3 => Same H2 H3 ∧ acc2 = List.replicate j (V.bl (hitS bits line st))) ⟨.refl _, rfl⟩ (fun _ _ _ _ h => h.1.seq (lq (sP _ _ hpl))) ?_ ?_
      · rintro j x acc2 H3 hj hx3 hD3 ⟨s3, rfl⟩ Nx2 nx2
        have hj1 : j < 1 := hj
        have ex : x = V.ref pt := by
          match j, hj1, hx3 with
          | 0, _, h => exact (Option.some.inj h).symm
        subst ex
        have s3' := s3.trans (off_same (H := H3) (D := D2))
        refine ⟨pt, _, rfl, tq (s3' _ _ (sP _ _ hpt)), rfl, _, _, rfl, _, _, rfl, rfl, rfl, ?_⟩
        refine ⟨_, rfl, _, rfl, r, fl, [st], bits, x0, rfl, (hR.same s2').same s3', hb, hx0, _, rfl, rfl, _, hD3, ?_, nx2 _ _ upd_same ⟨?_, ?_⟩⟩
        · rw [List.length_replicate]; exact lt_sz (by omega)
        · rw [off_upd]; exact s3
        · rw [List.replicate_succ']
          have e : decide (V.str (S x0) = V.str (S line)) = hitS bits line st := by
            unfold hitS
            rw [hx0, Bool.eq_iff_iff, decide_eq_true_eq, decide_eq_true_eq]
            exact ⟨fun h => by injection h with h; rw [S_inj h], fun h => by rw [Option.some.inj h]⟩
          rw [e]
      · rintro acc2 H3 hD3 ⟨s3, rfl⟩
        have s3' := s3.trans (off_same (H := H3) (D := D2))
        refine ⟨D2, [hitS bits line st], rfl, lq hD3, _, rfl, ?_⟩
        have hD3' := s3' _ _ hD2
        cases e : hitS bits line st with
        | true =>
          refine ⟨_, rfl, _, hD3', by rw [List.length_map]; exact lt_sz (by omega), nx _ _ upd_same ⟨?_, qs ++ [r], by rw [List.map_append]; rfl, by rw [List.length_append]; simp; omega, ?_⟩⟩
          · rw [off_upd]; exact s2.trans (off_mono s3')
          · rw [take_snoc hst, List.filter_append, off_upd]
            refine paired_app (Paired.mapP hqs fun _ _ e => e.same (off_mono s3')) ?_
            rw [List.filter_cons_of_pos e]
            exact paired_one ((hR.same (s2'.trans s3')).offL hD3')
        | false =>
          refine nx _ _ hD3' ⟨s2.trans (off_mono s3'), qs, rfl, by omega, ?_⟩
          rw [take_snoc hst, List.filter_append, List.filter_cons_of_neg (by rw [e]; decide), List.filter_nil, List.append_nil]
          exact Paired.mapP hqs fun _ _ e => e.same (off_mono s3')
    · rintro acc H2 hD2 ⟨s2, qs, rfl, hql, hqs⟩
      rw [List.length_map, hrl, List.take_length] at hqs
      have hqs : RsA C (off H2 D) fl qs (cbl bits line) := hqs
      have hcl : (cbl bits line).length ≤ 12 := Nat.le_trans (List.length_filter_le _ _) hv
      have hql2 : qs.length = (cbl bits line).length := Paired.length hqs
      have s2' := s2.trans (off_same (H := H2) (D := D))
      refine ⟨_, rfl, D, rfl, ⟨_, lq hD2⟩, fun D2 hD2' => ?_⟩
      refine lc_sit (sit_list (qs.map V.ref)) (fun _ _ s h => s.seq h) hD2' (fun i acc H3 => Same H2 H3 ∧ acc = (((cbl bits line).take i).map fun st => rtx fl [st]).map V.str) ⟨.refl _, rfl⟩ (fun _ _ _ _ h => h.1.seq (lq hD2)) ?_ ?_
      · rintro i x acc H3 hi hx hD3 ⟨s3, rfl⟩ Nx nx
        obtain ⟨r, hr0, rfl⟩ := map_get hx
        obtain ⟨st, hst, hR⟩ := paired_get hqs hr0
        have s3' := s3.trans (off_same (H := H3) (D := D2))
        have hR2 := (hR.same off_same).same s3'
        obtain ⟨_, dx, t, ts, hr', _, _⟩ := id hR2
        refine ⟨rfl, ?_⟩
        refine ⟨_, rfl, r, dx, _, rfl, hr', r, fl, [st], rfl, hR2, fun H4 s4 => ⟨_, rfl, _, s4 _ _ hD3, ?_, nx _ _ upd_same ⟨?_, ?_⟩⟩⟩
        · rw [List.length_map, List.length_map, List.length_take]; exact lt_sz (by omega)
        · rw [off_upd]; exact s3.trans (off_mono s4)
        · rw [take_snoc hst, List.map_append, List.map_append]; rfl
      · rintro acc H3 hD3 ⟨s3, rfl⟩
        have s3' := s3.trans (off_same (H := H3) (D := D2))
        rw [List.length_map, hql2, List.take_length] at hD3
        refine ⟨D2, (cbl bits line).map fun st => rtx fl [st], rfl, lq hD3, by rw [List.length_map]; omega, fun ys p hperm _ hp => ?_⟩
        refine ⟨p, _, rfl, .inl ⟨lq upd_same, fun t ht => ?_⟩⟩
        exact q _ t ys (((((s1.trans s2').trans s3').trans (.new hp)).trans (.new ht))) upd_same hperm
end UF
set_option maxHeartbeats 4000000
namespace UF
open PySem PySem.Spec PyProof.Rows L2
def TldA (H : Hp) (fl : Wd) (e : Addr) (st : Stf) : Prop := ∃ a, H e = some (.tup [.ref a, .str (rtx fl [st])]) ∧ PrA H a (rtS st)
theorem TldA.same {H H' : Hp} {fl : Wd} {e : Addr} {st : Stf} (s : Same H H') (h : TldA H fl e st) : TldA H' fl e st := by
  obtain ⟨a, h1, h2⟩ := h
  exact ⟨a, s _ _ h1, s _ _ h2⟩
def ltR (st s' : Stf) : Bool := decide ((rtS s').1 * (rtS st).2 < (rtS st).1 * (rtS s').2)
abbrev s_cheapest : Stmt := top 55
theorem sc_cheapest : FnScope ["flag", "size", "told", "found", "text", "rule", "p", "q", "word", "r", "s"] ["flag", "size"] (defScope s_cheapest) := ⟨rfl, rfl, rfl, by decide +kernel, rfl, by decide +kernel, by decide +kernel⟩
-- slots: 0 flag, 1 size, 2 told, 3 found, 4 text, 5 rule, 6 p, 7 q, 8 word, 9 r, 10 s
theorem ok_cheapest {P : Program} {w : World} {K : PySem.W.Frag} {mg : Str → Option Value} {base : Heap} {f C : Addr} {fd : FuncData} (F : FnP K "cheapest" "cheapest" s_cheapest [] f fd) (T : TX K mg C) (c_all_clean : Cal P w K mg base 9 "all_clean" ["flag", "size"] (sp_all_clean K C)) (c_rate : Cal P w K mg base 6 "rate" ["rule"] (sp_rate K C)) (c_str : Strr P w K mg base 1 C (sp_Rule___str__ K C)) : FnOk P w K mg base CX0 10 f fd ["flag", "size"] (sp_cheapest K C) := by
  refine FunD.ok (k := 9) F sc_cheapest (fun vs H Q E h => ?_) (fun cdv A outer s H vs Q E hr h => ?_)
  · obtain ⟨fl, rfl, _⟩ := h; rfl
  · obtain ⟨fl, rfl, h2, h100, hc, hgd, hq, q⟩ := h
    have hv := vcl_len fl
    have hvm : ∀ {st : Stf}, st ∈ vcl fl → st ∈ vst := fun h => (List.mem_filter.mp h).1
    refine ⟨_, (PSs.nox (pss_cons (ps_setLc (own := [("rule", 5)]) (i := 2) rfl sc_cheapest.nd rfl rfl (sw_true rfl rfl rfl (by decide +kernel)) (pil (K := K) rfl (c_all_clean.pe hr (by rfl) (pa_cons (pv 0) (pa_cons (pv 1) pa_nil)))) (blkOk_by (own := [("rule", 5)]) (by kernel_rfl)) (fun _ _ _ _ _ => (pg_name (i := 5) sc_cheapest.nd rfl (by first | exact Or.inl rfl | exact Or.inr rfl))) (fun _ _ _ _ _ => pts_nil) (fun _ _ _ _ _ => (pe_tup (pa_cons (c_rate.pe hr (by rfl) (pa_cons (pv 5) pa_nil)) (pa_cons (c_str.pe hr (by rfl) T.n_str (pa_cons (pv 5) pa_nil)) pa_nil)))))
      (pss_cons (ps_set (i := 3) sc_cheapest.nd rfl (by first | exact Or.inl rfl | exact Or.inr rfl) (pe_lst pa_nil))
      (pss_cons (ps_for PassesOwn.never rfl (pil (K := K) rfl (pv 2)) (pgt (K := K) (n := 2) rfl rfl (pgs_cons (pgt (K := K) (n := 2) rfl rfl (pgs_cons (pg_name (i := 6) sc_cheapest.nd rfl (by first | exact Or.inl rfl | exact Or.inr rfl)) (pgs_cons (pg_name (i := 7) sc_cheapest.nd rfl (by first | exact Or.inl rfl | exact Or.inr rfl)) pgs_nil))) (pgs_cons (pg_name (i := 4) sc_cheapest.nd rfl (by first | exact Or.inl rfl | exact Or.inr rfl)) pgs_nil))) (pss_one (ps_if (pt_not (pt_val (pe_callB (cany (K := K) rfl rfl) (by rfl) T.n_any (by decide +kernel) (pa_cons (pe_lc (own := [("word", 8), ("r", 9), ("s", 10)]) rfl sc_cheapest.nd (pil (K := K) rfl (pv 2)) (blkOk_by (own := [("word", 8), ("r", 9), ("s", 10)]) (by kernel_rfl)) (fun _ _ _ _ _ => (pgt (K := K) (n := 2) rfl rfl (pgs_cons (pgt (K := K) (n := 2) rfl rfl (pgs_cons (pg_name (i := 9) sc_cheapest.nd rfl (by first | exact Or.inl rfl | exact Or.inr rfl)) (pgs_cons (pg_name (i := 10) sc_cheapest.nd rfl (by first | exact Or.inl rfl | exact Or.inr rfl)) pgs_nil))) (pgs_cons (pg_name (i := 8) sc_cheapest.nd rfl (by first | exact Or.inl rfl | exact Or.inr rfl)) pgs_nil)))) (fun _ _ _ _ _ => pts_nil) (fun _ _ _ _ _ => (pe_cmpR op_lt (pe_op op_mul (pv 9) (pv 7)) (pe_op op_mul (pv 6) (pv 10)) (nomark _)))) pa_nil)))) (pss_one (ps_expr (papp (K := K) rfl (pv 3) (pa_cons (pv 4) pa_nil)))) pss_nil)))
      (pss_one (ps_ret (pe_callTy (ctup (K := K) rfl) (by rfl) T.n_tuple (by decide +kernel) (pa_cons (pe_callB (csrtS (K := K) rfl) (by rfl) T.n_sorted (by decide +kernel) (pa_cons (pv 3) pa_nil)) pa_nil)))))))), ?_⟩
    refine ⟨_, rfl, _, rfl, fl, rfl, h2, h100, hc, fun H1 l rs s1 hl hrs => ?_⟩
    have hrl : rs.length = (vcl fl).length := Paired.length hrs
    refine ⟨l, rfl, ⟨_, lq hl⟩, fun D hD => ?_⟩
    refine lc_sit (sit_list (rs.map V.ref)) (fun _ _ s h => s.seq h) hD (fun i acc H2 => Same H1 H2 ∧ ∃ es : List Addr, acc = es.map V.ref ∧ Paired (TldA H2 fl) es ((vcl fl).take i)) ⟨.refl _, [], rfl, .nil⟩ (fun _ _ _ _ h => h.1.seq (lq hl)) ?_ ?_
    · rintro i x acc H2 hi hx hD2 ⟨s2, es, rfl, hes⟩ Nx nx
      obtain ⟨r, hr0, rfl⟩ := map_get hx
      obtain ⟨st, hst, hR⟩ := paired_get hrs hr0
      have s2' := s2.trans (off_same (H := H2) (D := D))
      have hR2 := hR.same s2'
      have hG := hgd st (hvm (List.mem_of_getElem? hst))
      refine ⟨rfl, ?_⟩
      refine ⟨_, rfl, r, fl, [st], mvsOf [st], rfl, hR2, hG.mv, hG.clo, hG.ok, fun H3 a s3 ha => ?_⟩
      have hR3 := hR2.same s3
      obtain ⟨_, dx, t, ts, hr', _, _⟩ := id hR3
      refine ⟨_, rfl, r, dx, _, rfl, hr', r, fl, [st], rfl, hR3, fun H4 s4 => ⟨_, rfl, by show 2 ≤ sizeLine; decide, fun e he => ?_⟩⟩
      have hD4 := s4 _ _ (s3 _ _ hD2)
      have s34 := s3.trans s4
      have s5 := s34.trans (.new (o := .tup [.ref a, .str (rtx fl [st])]) he)
      have hel : es.length ≤ 12 := by rw [Paired.length hes, List.length_take]; omega
      refine ⟨_, s5 _ _ hD2, by rw [List.length_map]; exact lt_sz (by omega), nx _ _ upd_same ⟨?_, es ++ [e], by rw [List.map_append]; rfl, ?_⟩⟩
      · rw [off_upd]; exact s2.trans (off_mono s5)
      · rw [take_snoc hst, off_upd]
        refine paired_snoc (Paired.mapP hes fun _ _ h => h.same (off_mono s5)) ⟨a, off_of hD4 he upd_same, ?_⟩
        have ha4 := s4 _ _ ha
        exact off_some (s5 _ _ hD2) (Same.new he _ _ ha4) (by intro q; cases q)
    · rintro acc H2 hD2 ⟨s2, es, rfl, hes⟩
      rw [List.length_map, hrl, List.take_length] at hes
      have hes2 : Paired (TldA H2 fl) es (vcl fl) := Paired.mapP hes fun _ _ h => h.same off_same
      have s2' := s2.trans (off_same (H := H2) (D := D))
      refine ⟨by show 0 ≤ sizeLine; exact Nat.zero_le _, fun p hp => ?_⟩
      have hD3 := Same.new (o := .lst []) hp _ _ hD2
      have hes3 : Paired (TldA (upd H2 p (.lst [])) fl) es (vcl fl) := Paired.mapP hes2 fun _ _ h => h.same (.new hp)
      have hp3 : upd H2 p (.lst []) p = some (.lst []) := upd_same
      have s3 := (s1.trans s2').trans (.new (o := .lst []) hp)
      have npD : p ≠ D := fun z => by rw [z, hD2] at hp; cases hp
      refine ⟨_, rfl, D, rfl, ⟨_, lq hD3⟩, ?_⟩
      refine for_sit (sit_list (es.map V.ref)) (fun i σ H4 => ∃ (t4 t5 t6 t7 t8 t9 t10 : Option V), σ = [some (.str (S fl)), some (.int 2), some (.ref D), some (.ref p), t4, t5, t6, t7, t8, t9, t10] ∧ Same H2 H4 ∧ H4 p = some (.lst (((((vcl fl).take i).filter (isLow (vcl fl))).map fun st => rtx fl [st]).map V.str))) ⟨_, _, _, _, _, _, _, rfl, .new hp, upd_same⟩ (fun i σ H4 _ h => ?_) ?_ ?_
      · obtain ⟨_, _, _, _, _, _, _, _, s4, _⟩ := h
        exact lq (s4 _ _ hD2)
      · rintro i x σ H4 hi hx ⟨t4, t5, t6, t7, t8, t9, t10, rfl, s4, hp4⟩
        obtain ⟨e, he, rfl⟩ := map_get hx
        obtain ⟨st, hst, a, hea, haa⟩ := paired_get hes2 he
        have hmem := List.mem_of_getElem? hst
        have hpos := hq st (hvm hmem)
        refine ⟨e, _, rfl, tq (s4 _ _ hea), rfl, _, _, rfl, a, _, rfl, tq (s4 _ _ haa), rfl, _, _, rfl, _, _, rfl, rfl, _, _, rfl, rfl, ?_⟩
        refine ⟨_, rfl, D, rfl, ⟨_, lq (s4 _ _ hD2)⟩, fun D2 hD2' => ?_⟩
        refine lc_sit (sit_list (es.map V.ref)) (fun _ _ s h => s.seq h) hD2' (fun j acc H5 => Same H4 H5 ∧ acc = (((vcl fl).take j).map (ltR st)).map V.bl) ⟨.refl _, rfl⟩ (fun _ _ _ _ h => h.1.seq (lq (s4 _ _ hD2))) ?_ ?_
        · rintro j x acc H5 hj hx5 hD5 ⟨s5, rfl⟩ Nx nx
          obtain ⟨e', he', rfl⟩ := map_get hx5
          obtain ⟨st', hst', a', hea', haa'⟩ := paired_get hes2 he'
          have hpos' := hq st' (hvm (List.mem_of_getElem? hst'))
          have s5' := s4.trans (s5.trans (off_same (H := H5) (D := D2)))
          refine ⟨e', _, rfl, tq (s5' _ _ hea'), rfl, _, _, rfl, a', _, rfl, tq (s5' _ _ haa'), rfl, _, _, rfl, _, _, rfl, rfl, _, _, rfl, rfl, rfl, ?_⟩
          refine ⟨_, rfl, _, rfl, _, _, rfl, rfl, cmR hpos.1 (by omega), _, rfl, _, rfl, _, _, rfl, rfl, cmR hpos'.1 (by omega), _, _, rfl, rfl, _, hD5, ?_, nx _ _ upd_same ⟨?_, ?_⟩⟩
          · rw [List.length_map, List.length_map, List.length_take]; exact lt_sz (by omega)
          · rw [off_upd]; exact s5
          · rw [take_snoc hst', List.map_append, List.map_append]; rfl
        · rintro acc H5 hD5 ⟨s5, rfl⟩
          have s5' := s5.trans (off_same (H := H5) (D := D2))
          rw [List.length_map, Paired.length hes2, List.take_length] at hD5
          refine ⟨D2, (vcl fl).map (ltR st), rfl, lq hD5, _, rfl, ?_⟩
          have hp5 := s5' _ _ hp4
          have eL : isLow (vcl fl) st = !((vcl fl).map (ltR st)).any id := by
            unfold isLow; rw [List.any_map]; rfl
          have hpl : (((((vcl fl).take i).filter (isLow (vcl fl))).map fun st => rtx fl [st]).map V.str).length < sizeLine := by
            rw [List.length_map, List.length_map]
            have h1 := List.length_filter_le (isLow (vcl fl)) ((vcl fl).take i)
            rw [List.length_take] at h1
            exact lt_sz (by omega)
          cases eb : ((vcl fl).map (ltR st)).any id with
          | true =>
            rw [eb] at eL
            refine ⟨_, _, _, _, _, _, _, rfl, s4.trans s5', ?_⟩
            rw [take_snoc hst, List.filter_append, List.filter_cons_of_neg (by rw [eL]; decide), List.filter_nil, List.append_nil]
            exact hp5
          | false =>
            rw [eb] at eL
            refine ⟨_, rfl, .inl ⟨rfl, _, lq hp5⟩, _, rfl, p, _, _, rfl, rfl, hp5, hpl, ?_⟩
            refine ⟨_, _, _, _, _, _, _, rfl, (s4.trans s5').mut hp, ?_⟩
            rw [upd_same, take_snoc hst, List.filter_append, List.filter_cons_of_pos (by rw [eL]; rfl), List.filter_nil, List.map_append, List.map_append]; rfl
      · rintro σ H4 ⟨t4, t5, t6, t7, t8, t9, t10, rfl, s4, hp4⟩
        rw [List.length_map, Paired.length hes2, List.take_length] at hp4
        refine ⟨_, rfl, p, (chp fl).map fun st => rtx fl [st], rfl, lq hp4, ?_, fun ys p2 hperm _ hp2 => ?_⟩
        · rw [List.length_map]
          have : (chp fl).length ≤ (vcl fl).length := List.length_filter_le _ _
          omega
        refine ⟨p2, _, rfl, .inl ⟨lq upd_same, fun t ht => ?_⟩⟩
        exact q _ t ys ((((s1.trans s2').trans s4).trans (.new hp2)).trans (.new ht)) upd_same hperm
end UF
set_option maxHeartbeats 4000000
namespace UF
open PySem PySem.Spec PyProof.Rows L2
/-! ### the law's box -/
def BoxA (H : Hp) (a : Addr) : Prop := ∃ x y : Int, H a = some (.lst [.int x, .int y]) ∧ 0 ≤ x ∧ 1 ≤ y ∧ y ≤ 2147483629
/-- all but what stands at a is kept -/
def SB (a : Addr) (H H' : Hp) : Prop := Same (off H a) H'
theorem SB.of {a : Addr} {H H' : Hp} (s : Same H H') : SB a H H' := off_same.trans s
theorem SB.trans {a : Addr} {H H' H'' : Hp} (s : SB a H H') (t : SB a H' H'') : SB a H H'' := fun b o e => by
  have hb : b ≠ a := fun z => by rw [z, off_at] at e; cases e
  exact t b o (by rw [off_ne hb]; exact s b o e)
theorem SB.at {a b : Addr} {H H' : Hp} {o : HO} (s : SB a H H') (hb : b ≠ a) (e : H b = some o) : H' b = some o := s b o (by rw [off_ne hb]; exact e)
theorem SB.upd {a : Addr} {H H' : Hp} {o : HO} (s : SB a H H') : SB a H (upd H' a o) := Same.mut s off_at
theorem SB.same {a : Addr} {H0 H H' : Hp} (s : SB a H H') (s0 : Same H0 H) (h : H0 a = none) : Same H0 H' := (same_off s0 h).trans s
theorem BoxA.ne {a b : Addr} {H : Hp} {o : HO} (h : BoxA H a) (e : H b = some o) (n : ∀ xs, o ≠ .lst xs) : b ≠ a := fun z => by
  obtain ⟨x, y, hx, _⟩ := h
  rw [z, hx] at e
  exact n _ (Option.some.inj e).symm
theorem BoxA.same {a : Addr} {H H' : Hp} (h : BoxA H a) (s : Same H H') : BoxA H' a := by
  obtain ⟨x, y, hx, r⟩ := h
  exact ⟨x, y, s _ _ hx, r⟩
theorem RuleAt.sb {C a : Addr} {H H' : Hp} {r : Addr} {fl : Wd} {ss : List Stf} (h : RuleAt C H r fl ss) (hb : BoxA H a) (s : SB a H H') : RuleAt C H' r fl ss := by
  obtain ⟨x, y, hx, _⟩ := hb
  exact (h.offL hx).same s
def sp__law_seed (K : Fg) (C : Addr) : Sp := fun vs H Q _ => ∃ (sl : Addr) (ns : List Int) (k : Nat), vs = [.ref sl, .int k] ∧ SqL K H sl (ns.map V.int) ∧ k ≤ 10 ∧ ns.length ≤ 1000 ∧ ∀ H' p, H p = none → Same H H' → BoxA H' p → Q (.ref p) H'
abbrev s__law_seed : Stmt := top 57
theorem sc__law_seed : FnScope ["_law_script", "_law_k", "_law_cell"] ["_law_script", "_law_k"] (defScope s__law_seed) := ⟨rfl, rfl, rfl, by decide +kernel, rfl, by decide +kernel, by decide +kernel⟩
-- slots: 0 _law_script, 1 _law_k, 2 _law_cell
theorem ok__law_seed {P : Program} {w : World} {K : PySem.W.Frag} {mg : Str → Option Value} {base : Heap} {f C : Addr} {fd : FuncData} (F : FnP K "_law_seed" "_law_seed" s__law_seed [] f fd) (T : TX K mg C)  : FnOk P w K mg base CX0 1 f fd ["_law_script", "_law_k"] (sp__law_seed K C) := by
  refine FunD.ok (k := 0) F sc__law_seed (fun vs H Q E h => ?_) (fun cdv A outer s H vs Q E hr h => ?_)
  · obtain ⟨sl, ns, k, rfl, _⟩ := h; rfl
  · obtain ⟨sl, ns, k, rfl, hsl, hk, hn, q⟩ := h
    refine ⟨_, (PSs.nox (pss_cons (ps_set (i := 2) sc__law_seed.nd rfl (by first | exact Or.inl rfl | exact Or.inr rfl) (pe_op op_add (pe_op op_mul pe_int (pv 1)) pe_int))
      (pss_cons (ps_if (pt_cmpR op_lt (pv 1) (pe_callB (cln (K := K) rfl) (by rfl) T.n_len (by decide +kernel) (pa_cons (pv 0) pa_nil)) (nomark _)) (pss_one (ps_set (i := 2) sc__law_seed.nd rfl (by first | exact Or.inl rfl | exact Or.inr rfl) (pe_callB call_abs (by rfl) T.n_abs (by decide +kernel) (pa_cons (pe_ix (ixl (K := K) rfl) (pv 0) (pv 1) (fun _ _ => rfl)) pa_nil)))) (pss_one (ps_if (pt_cmpR op_gt (pe_callB (cln (K := K) rfl) (by rfl) T.n_len (by decide +kernel) (pa_cons (pv 0) pa_nil)) pe_int (nomark _)) (pss_one (ps_set (i := 2) sc__law_seed.nd rfl (by first | exact Or.inl rfl | exact Or.inr rfl) (pe_op op_add (pv 2) (pe_op op_mul (pe_op op_mod (pe_callTy call_int1 (by rfl) T.n_int (by decide +kernel) (pa_cons (pe_callB call_abs (by rfl) T.n_abs (by decide +kernel) (pa_cons (pe_ix (ixl (K := K) rfl) (pv 0) (pe_op op_mod (pe_callTy call_int1 (by rfl) T.n_int (by decide +kernel) (pa_cons (pv 1) pa_nil)) (pe_callB (cln (K := K) rfl) (by rfl) T.n_len (by decide +kernel) (pa_cons (pv 0) pa_nil))) (fun _ _ => rfl)) pa_nil)) pa_nil)) pe_int) pe_int)))) pss_nil)))
      (pss_one (ps_ret (pe_lst (pa_cons (pe_ifExp (pt_cmpR op_ge (pv 2) (pe_op op_pow pe_int pe_int) (nomark _)) (pv 2) pe_int) (pa_cons (pe_op op_add (pe_op op_mod (pe_callTy call_int1 (by rfl) T.n_int (by decide +kernel) (pa_cons (pe_op op_add (pe_op op_mul (pe_op op_mod (pe_callTy call_int1 (by rfl) T.n_int (by decide +kernel) (pa_cons (pv 2) pa_nil)) pe_int) pe_int) (pe_op op_mul pe_int (pv 1))) pa_nil)) pe_int) pe_int) pa_nil)))))))), ?_⟩
    have fin : ∀ c : Int, 0 ≤ c → ∀ p, H p = none → Q (.ref p) (upd H p (.lst [.int (if c ≥ 10 ^ 18 then c else 0), .int ((c % 2147483629 * 48271 + 36007 * (k : Int)) % 2147483629 + 1)])) := fun c hc p hp => by
      refine q _ p hp (.new hp) ⟨_, _, upd_same, ?_, ?_, ?_⟩
      · split <;> omega
      · have := Int.emod_nonneg (c % 2147483629 * 48271 + 36007 * (k : Int)) (b := 2147483629) (by decide); omega
      · have := Int.emod_lt_of_pos (c % 2147483629 * 48271 + 36007 * (k : Int)) (b := 2147483629) (by decide); omega
    refine ⟨_, rfl, _, _, rfl, rfl, .inl ⟨by decide, by decide⟩, _, _, rfl, rfl, ?_⟩
    refine ⟨_, rfl, _, rfl, _, _, rfl, .inl ⟨_, hsl, rfl⟩, _, _, rfl, rfl, _, rfl, ?_⟩
    rw [List.length_map]
    by_cases hlt : k < ns.length
    · rw [show decide ((k : Int) < ((ns.length : Nat) : Int)) = true from decide_eq_true (by omega)]
      obtain ⟨v, hv⟩ : ∃ v, ns[k]? = some v := ⟨ns[k], by simp [hlt]⟩
      refine ⟨_, rfl, _, rfl, _, _, _, _, rfl, rfl, hsl, atI_nat (j := k) (map_at hv), _, rfl, ?_⟩
      have hc : 0 ≤ (if v < 0 then -v else v) := by split <;> omega
      generalize (if v < 0 then -v else v) = c at hc
      refine ⟨_, rfl, _, _, rfl, rfl, ⟨by decide, by decide, by decide⟩, _, _, rfl, rfl, _, rfl, ?_⟩
      by_cases hb : c ≥ 10 ^ 18
      · rw [show decide (c ≥ 10 ^ (18 : Int).toNat) = true from decide_eq_true hb]
        refine ⟨_, rfl, _, rfl, .inl ⟨_, rfl, _, _, rfl, rfl, (by show (0 : Int) < 2147483629; decide), _, _, rfl, rfl, .inr ⟨by decide, by decide⟩, _, rfl, _, _, rfl, rfl, .inl ⟨by decide, by decide⟩, _, _, rfl, rfl, .inl ⟨_, rfl, _, _, rfl, rfl, (by show (0 : Int) < 2147483629; decide), _, _, rfl, rfl, by show 2 ≤ sizeLine; decide, fun p hp => ?_⟩⟩⟩
        have := fin c hc p hp
        rw [if_pos hb] at this; exact this
      · rw [show decide (c ≥ 10 ^ (18 : Int).toNat) = false from decide_eq_false hb]
        refine ⟨_, rfl, .inl ⟨_, rfl, _, _, rfl, rfl, (by show (0 : Int) < 2147483629; decide), _, _, rfl, rfl, .inr ⟨by decide, by decide⟩, _, rfl, _, _, rfl, rfl, .inl ⟨by decide, by decide⟩, _, _, rfl, rfl, .inl ⟨_, rfl, _, _, rfl, rfl, (by show (0 : Int) < 2147483629; decide), _, _, rfl, rfl, by show 2 ≤ sizeLine; decide, fun p hp => ?_⟩⟩⟩
        have := fin c hc p hp
        rw [if_neg hb] at this; exact this
    · rw [show decide ((k : Int) < ((ns.length : Nat) : Int)) = false from decide_eq_false (by omega)]
      refine ⟨_, rfl, _, _, rfl, .inl ⟨_, hsl, rfl⟩, _, _, rfl, rfl, _, rfl, ?_⟩
      rw [List.length_map]
      by_cases hz : 0 < ns.length
      · rw [show decide (((ns.length : Nat) : Int) > 0) = true from decide_eq_true (by omega)]
        have hmod : k % ns.length < ns.length := Nat.mod_lt _ hz
        obtain ⟨v, hv⟩ : ∃ v, ns[k % ns.length]? = some v := ⟨ns[k % ns.length], by simp [hmod]⟩
        have hc : 0 ≤ (if v < 0 then -v else v) := by split <;> omega
        have hat : atI (ns.map V.int) ((k : Int) % ((((ns.map V.int).length : Nat)) : Int)) = some (V.int v) := by
          rw [List.length_map, show (k : Int) % ((ns.length : Nat) : Int) = ((k % ns.length : Nat) : Int) by omega]
          exact atI_nat (map_at hv)
        refine ⟨_, rfl, _, rfl, _, rfl, .inl ⟨_, rfl, _, rfl, _, _, rfl, .inl ⟨_, hsl, rfl⟩, _, _, rfl, rfl, by rw [List.length_map]; omega, _, _, _, _, rfl, rfl, hsl, hat, _, rfl, .inl ⟨_, rfl, _, _, rfl, rfl, (by show (0 : Int) < 2147483629; decide), _, _, rfl, rfl, .inr ⟨by decide, by decide⟩, _, _, rfl, rfl, ?_⟩⟩⟩
        generalize (if v < 0 then -v else v) = c0 at hc
        have hc2 : 0 ≤ 9137 * (k : Int) + 113 + c0 % 2147483629 * 40127 := by
          have := Int.emod_nonneg c0 (b := 2147483629) (by decide); omega
        refine ⟨_, rfl, _, _, rfl, rfl, ⟨by decide, by decide, by decide⟩, _, _, rfl, rfl, _, rfl, ?_⟩
        by_cases hb : 9137 * (k : Int) + 113 + c0 % 2147483629 * 40127 ≥ 10 ^ 18
        · rw [show decide (9137 * (k : Int) + 113 + c0 % 2147483629 * 40127 ≥ 10 ^ (18 : Int).toNat) = true from decide_eq_true hb]
          refine ⟨_, rfl, _, rfl, .inl ⟨_, rfl, _, _, rfl, rfl, (by show (0 : Int) < 2147483629; decide), _, _, rfl, rfl, .inr ⟨by decide, by decide⟩, _, rfl, _, _, rfl, rfl, .inl ⟨by decide, by decide⟩, _, _, rfl, rfl, .inl ⟨_, rfl, _, _, rfl, rfl, (by show (0 : Int) < 2147483629; decide), _, _, rfl, rfl, by show 2 ≤ sizeLine; decide, fun p hp => ?_⟩⟩⟩
          have := fin (9137 * (k : Int) + 113 + c0 % 2147483629 * 40127) hc2 p hp
          rw [if_pos hb] at this; exact this
        · rw [show decide (9137 * (k : Int) + 113 + c0 % 2147483629 * 40127 ≥ 10 ^ (18 : Int).toNat) = false from decide_eq_false hb]
          refine ⟨_, rfl, .inl ⟨_, rfl, _, _, rfl, rfl, (by show (0 : Int) < 2147483629; decide), _, _, rfl, rfl, .inr ⟨by decide, by decide⟩, _, rfl, _, _, rfl, rfl, .inl ⟨by decide, by decide⟩, _, _, rfl, rfl, .inl ⟨_, rfl, _, _, rfl, rfl, (by show (0 : Int) < 2147483629; decide), _, _, rfl, rfl, by show 2 ≤ sizeLine; decide, fun p hp => ?_⟩⟩⟩
          have := fin (9137 * (k : Int) + 113 + c0 % 2147483629 * 40127) hc2 p hp
          rw [if_neg hb] at this; exact this
      · rw [show decide (((ns.length : Nat) : Int) > 0) = false from decide_eq_false (by omega)]
        have hc2 : 0 ≤ 9137 * (k : Int) + 113 := by omega
        refine ⟨_, rfl, _, _, rfl, rfl, ⟨by decide, by decide, by decide⟩, _, _, rfl, rfl, _, rfl, ?_⟩
        by_cases hb : 9137 * (k : Int) + 113 ≥ 10 ^ 18
        · rw [show decide (9137 * (k : Int) + 113 ≥ 10 ^ (18 : Int).toNat) = true from decide_eq_true hb]
          refine ⟨_, rfl, _, rfl, .inl ⟨_, rfl, _, _, rfl, rfl, (by show (0 : Int) < 2147483629; decide), _, _, rfl, rfl, .inr ⟨by decide, by decide⟩, _, rfl, _, _, rfl, rfl, .inl ⟨by decide, by decide⟩, _, _, rfl, rfl, .inl ⟨_, rfl, _, _, rfl, rfl, (by show (0 : Int) < 2147483629; decide), _, _, rfl, rfl, by show 2 ≤ sizeLine; decide, fun p hp => ?_⟩⟩⟩
          have := fin (9137 * (k : Int) + 113) hc2 p hp
          rw [if_pos hb] at this; exact this
        · rw [show decide (9137 * (k : Int) + 113 ≥ 10 ^ (18 : Int).toNat) = false from decide_eq_false hb]
          refine ⟨_, rfl, .inl ⟨_, rfl, _, _, rfl, rfl, (by show (0 : Int) < 2147483629; decide), _, _, rfl, rfl, .inr ⟨by decide, by decide⟩, _, rfl, _, _, rfl, rfl, .inl ⟨by decide, by decide⟩, _, _, rfl, rfl, .inl ⟨_, rfl, _, _, rfl, rfl, (by show (0 : Int) < 2147483629; decide), _, _, rfl, rfl, by show 2 ≤ sizeLine; decide, fun p hp => ?_⟩⟩⟩
          have := fin (9137 * (k : Int) + 113) hc2 p hp
          rw [if_neg hb] at this; exact this
end UF
set_option maxHeartbeats 4000000
namespace UF
open PySem PySem.Spec PyProof.Rows L2
theorem boxq {K : PySem.W.Frag} {H : Hp} {a : Addr} {x y : Int} (h : H a = some (.lst [.int x, .int y])) : SqL K H a ([x, y].map V.int) := lq h
theorem SB.offD {a D : Addr} {H H1 H2 : Hp} (s1 : SB a H (off H1 D)) (s2 : SB a H1 H2) : SB a H (off H2 D) := fun b o e => by
  have hba : b ≠ a := fun z => by rw [z, off_at] at e; cases e
  have e1 := s1 b o e
  have hbD : b ≠ D := fun z => by rw [z, off_at] at e1; cases e1
  rw [off_ne hbD] at e1 ⊢
  exact s2.at hba e1
theorem BoxA.offD {a D : Addr} {H : Hp} (h : BoxA H a) (ne : a ≠ D) : BoxA (off H D) a := by
  obtain ⟨x, y, hx, r⟩ := h
  exact ⟨x, y, by rw [off_ne ne]; exact hx, r⟩
def sp__law_choose (K : Fg) (C : Addr) : Sp := fun vs H Q _ => ∃ (a : Addr) (n : Nat), vs = [.ref a, .int n] ∧ BoxA H a ∧ 1 ≤ n ∧ n ≤ 1000 ∧ ∀ H' (k : Nat), SB a H H' → BoxA H' a → k < n → Q (.int k) H'
theorem log_small {n : Nat} (h1 : 1 ≤ n) (h2 : n ≤ 1000) : ((n : Nat) : Int).natAbs.log2 < 9000 := by
  have : ((n : Nat) : Int).natAbs = n := rfl
  rw [this]
  have h3 : n.log2 < 10 := (Nat.log2_lt (by omega)).mpr (by omega)
  omega
theorem sb_set {a : Addr} {H : Hp} {o : HO} : SB a H (upd H a o) := SB.upd (SB.of (.refl _))
theorem nat_of {z : Int} {n : Nat} (h1 : 0 ≤ z) (h2 : z < (n : Int)) : ∃ k : Nat, z = (k : Int) ∧ k < n := ⟨z.toNat, by omega, by omega⟩
theorem mod_lo (z : Int) : 1 ≤ z % 2147483629 + 1 := by
  have := Int.emod_nonneg z (b := 2147483629) (by decide); omega
theorem mod_hi (z : Int) : z % 2147483629 + 1 ≤ 2147483629 := by
  have := Int.emod_lt_of_pos z (b := 2147483629) (by decide); omega
abbrev s__law_choose : Stmt := top 58
theorem sc__law_choose : FnScope ["_law_box", "_law_many", "_law_raw", "_law_digit"] ["_law_box", "_law_many"] (defScope s__law_choose) := ⟨rfl, rfl, rfl, by decide +kernel, rfl, by decide +kernel, by decide +kernel⟩
-- slots: 0 _law_box, 1 _law_many, 2 _law_raw, 3 _law_digit
theorem ok__law_choose {P : Program} {w : World} {K : PySem.W.Frag} {mg : Str → Option Value} {base : Heap} {f C : Addr} {fd : FuncData} (F : FnP K "_law_choose" "_law_choose" s__law_choose [] f fd) (T : TX K mg C)  : FnOk P w K mg base CX0 1 f fd ["_law_box", "_law_many"] (sp__law_choose K C) := by
  refine FunD.ok (k := 0) F sc__law_choose (fun vs H Q E h => ?_) (fun cdv A outer s H vs Q E hr h => ?_)
  · obtain ⟨a, n, rfl, _⟩ := h; rfl
  · obtain ⟨a, n, rfl, ⟨x, y, ha, hx, hy, hy2⟩, hn, hn2, q⟩ := h
    have fin2 : ∀ (Z : Int) (H' : Hp), SB a H H' → BoxA H' a → Q (.int (Z % (n : Int))) H' := fun Z H' s hb => by
      obtain ⟨k, hk, hkn⟩ := nat_of (n := n) (Int.emod_nonneg Z (b := (n : Int)) (by omega)) (Int.emod_lt_of_pos Z (by omega))
      rw [hk]; exact q _ k s hb hkn
    refine ⟨_, (PSs.nox (pss_cons (ps_if (pt_cmpR op_gt (pe_ix (ixl (K := K) rfl) (pv 0) pe_int (fun _ _ => rfl)) pe_int (nomark _)) (pss_cons (ps_set (i := 3) sc__law_choose.nd rfl (by first | exact Or.inl rfl | exact Or.inr rfl) (pe_op op_mod (pe_callTy call_int1 (by rfl) T.n_int (by decide +kernel) (pa_cons (pe_ix (ixl (K := K) rfl) (pv 0) pe_int (fun _ _ => rfl)) pa_nil)) (pv 1)))
      (pss_cons (ps_asg (pe_op op_fdivW (pe_ix (ixl (K := K) rfl) (pv 0) pe_int (fun _ _ => rfl)) (pv 1)) (pg_sub (pv 0) pe_int set_list))
      (pss_one (ps_ret (pv 3))))) pss_nil)
      (pss_cons (ps_set (i := 2) sc__law_choose.nd rfl (by first | exact Or.inl rfl | exact Or.inr rfl) (pe_op op_mod (pe_callTy call_int1 (by rfl) T.n_int (by decide +kernel) (pa_cons (pe_op op_add (pe_op op_mul (pe_ix (ixl (K := K) rfl) (pv 0) pe_int (fun _ _ => rfl)) pe_int) pe_int) pa_nil)) pe_int))
      (pss_cons (ps_asg (pe_op op_add (pe_op op_mod (pe_callTy call_int1 (by rfl) T.n_int (by decide +kernel) (pa_cons (pe_op op_add (pe_op op_mul (pv 2) pe_int) pe_int) pa_nil)) pe_int) pe_int) (pg_sub (pv 0) pe_int set_list))
      (pss_one (ps_ret (pe_op op_mod (pe_callTy call_int1 (by rfl) T.n_int (by decide +kernel) (pa_cons (pe_op op_fdivW (pe_op op_add (pe_op op_mul (pv 2) pe_int) (pe_ix (ixl (K := K) rfl) (pv 0) pe_int (fun _ _ => rfl))) pe_int) pa_nil)) (pv 1)))))))), ?_⟩
    refine ⟨_, rfl, _, _, _, _, rfl, rfl, lq ha, atI_nat (j := 0) rfl, _, _, rfl, rfl, _, rfl, ?_⟩
    by_cases hp : x > 0
    · rw [decide_eq_true hp]
      refine ⟨_, rfl, _, _, _, _, rfl, rfl, lq ha, atI_nat (j := 0) rfl, .inl ⟨_, rfl, _, rfl, _, _, rfl, rfl, by show (0 : Int) < (n : Int); omega, ?_⟩⟩
      refine ⟨_, rfl, _, _, _, _, rfl, rfl, lq ha, atI_nat (j := 0) rfl, _, rfl, _, _, rfl, rfl, ⟨by omega, log_small hn hn2⟩, ?_⟩
      refine ⟨_, rfl, a, _, _, 0, rfl, rfl, ha, rfl, ?_⟩
      obtain ⟨k, hk, hkn⟩ := nat_of (n := n) (Int.emod_nonneg x (b := (n : Int)) (by omega)) (Int.emod_lt_of_pos x (by omega))
      refine ⟨_, rfl, ?_⟩
      show Q (.int (x % (n : Int))) _
      rw [hk]
      exact q _ k sb_set ⟨_, _, upd_same, Int.ediv_nonneg hx (by omega), hy, hy2⟩ hkn
    · rw [decide_eq_false hp]
      refine ⟨_, rfl, _, _, _, _, rfl, rfl, lq ha, atI_nat (j := 1) rfl, _, _, rfl, rfl, .inr ⟨by decide, by decide⟩, _, _, rfl, rfl, .inl ⟨_, rfl, _, _, rfl, rfl, (by show (0 : Int) < 2147483563; decide), ?_⟩⟩
      refine ⟨_, rfl, _, _, rfl, rfl, .inr ⟨by decide, by decide⟩, _, _, rfl, rfl, .inl ⟨_, rfl, _, _, rfl, rfl, (by show (0 : Int) < 2147483629; decide), _, _, rfl, rfl, ?_⟩⟩
      refine ⟨_, rfl, a, _, _, 1, rfl, rfl, ha, rfl, ?_⟩
      refine ⟨_, rfl, _, _, rfl, rfl, .inr ⟨by decide, by decide⟩, _, rfl, _, _, _, _, rfl, rfl, lq upd_same, atI_nat (j := 1) rfl, _, _, rfl, rfl, _, _, rfl, rfl, ⟨by decide, by decide +kernel⟩, .inl ⟨_, rfl, _, rfl, _, _, rfl, rfl, by show (0 : Int) < (n : Int); omega, ?_⟩⟩
      refine fin2 _ _ sb_set ⟨_, _, upd_same, hx, ?_, ?_⟩
      · exact mod_lo _
      · exact mod_hi _
def sp__law_one_of (K : Fg) (C : Addr) : Sp := fun vs H Q _ => ∃ (a l : Addr) (xs : List V), vs = [.ref a, .ref l] ∧ BoxA H a ∧ H l = some (.lst xs) ∧ l ≠ a ∧ 1 ≤ xs.length ∧ xs.length ≤ 100 ∧ ∀ H' x, SB a H H' → BoxA H' a → x ∈ xs → Q x H'
abbrev s__law_one_of : Stmt := top 59
theorem sc__law_one_of : FnScope ["_law_box", "_law_some"] ["_law_box", "_law_some"] (defScope s__law_one_of) := ⟨rfl, rfl, rfl, by decide +kernel, rfl, by decide +kernel, by decide +kernel⟩
-- slots: 0 _law_box, 1 _law_some
theorem ok__law_one_of {P : Program} {w : World} {K : PySem.W.Frag} {mg : Str → Option Value} {base : Heap} {f C : Addr} {fd : FuncData} (F : FnP K "_law_one_of" "_law_one_of" s__law_one_of [] f fd) (T : TX K mg C) (c__law_choose : Cal P w K mg base 1 "_law_choose" ["_law_box", "_law_many"] (sp__law_choose K C)) : FnOk P w K mg base CX0 2 f fd ["_law_box", "_law_some"] (sp__law_one_of K C) := by
  refine FunD.ok (k := 1) F sc__law_one_of (fun vs H Q E h => ?_) (fun cdv A outer s H vs Q E hr h => ?_)
  · obtain ⟨a, l, xs, rfl, _⟩ := h; rfl
  · obtain ⟨a, l, xs, rfl, hb, hl, hne, h1, h2, q⟩ := h
    refine ⟨_, (PSs.nox (pss_one (ps_ret (pe_ix (ixl (K := K) rfl) (pv 1) (c__law_choose.pe hr (by rfl) (pa_cons (pv 0) (pa_cons (pe_callB (cln (K := K) rfl) (by rfl) T.n_len (by decide +kernel) (pa_cons (pv 1) pa_nil)) pa_nil))) (fun _ _ => rfl))))), ?_⟩
    refine ⟨_, rfl, _, rfl, _, rfl, _, _, rfl, .inl ⟨_, lq hl, rfl⟩, a, xs.length, rfl, hb, h1, by omega, fun H' k s hb' hk => ?_⟩
    refine ⟨l, xs, _, _, rfl, rfl, lq (s.at hne hl), atI_nat (j := k) (v := xs[k]) (by simp [hk]), q H' _ s hb' (List.getElem_mem _)⟩
def sp__law_word (K : Fg) (C : Addr) : Sp := fun vs H Q _ => ∃ (a : Addr) (n : Nat), vs = [.ref a, .int n] ∧ BoxA H a ∧ n ≤ 100 ∧ ∀ H' (w : Wd), SB a H H' → BoxA H' a → w.length = n → Q (.str (S w)) H'
abbrev s__law_word : Stmt := top 60
theorem sc__law_word : FnScope ["_law_box", "_law_size", "_law_turn_here"] ["_law_box", "_law_size"] (defScope s__law_word) := ⟨rfl, rfl, rfl, by decide +kernel, rfl, by decide +kernel, by decide +kernel⟩
-- slots: 0 _law_box, 1 _law_size, 2 _law_turn_here
theorem ok__law_word {P : Program} {w : World} {K : PySem.W.Frag} {mg : Str → Option Value} {base : Heap} {f C : Addr} {fd : FuncData} (F : FnP K "_law_word" "_law_word" s__law_word [] f fd) (T : TX K mg C) (c__law_one_of : Cal P w K mg base 2 "_law_one_of" ["_law_box", "_law_some"] (sp__law_one_of K C)) : FnOk P w K mg base CX0 3 f fd ["_law_box", "_law_size"] (sp__law_word K C) := by
  refine FunD.ok (k := 2) F sc__law_word (fun vs H Q E h => ?_) (fun cdv A outer s H vs Q E hr h => ?_)
  · obtain ⟨a, n, rfl, _⟩ := h; rfl
  · obtain ⟨a, n, rfl, hb, hn, q⟩ := h
    refine ⟨_, (PSs.nox (pss_one (ps_ret (pej (K := K) rfl pe_str (pe_lc (own := [("_law_turn_here", 2)]) rfl sc__law_word.nd (pi_range1 rfl T.n_range (pa_cons (pv 1) pa_nil)) (blkOk_by (own := [("_law_turn_here", 2)]) (by kernel_rfl)) (fun _ _ _ _ _ => (pg_name (i := 2) sc__law_word.nd rfl (by first | exact Or.inl rfl | exact Or.inr rfl))) (fun _ _ _ _ _ => pts_nil) (fun _ _ _ _ _ => (c__law_one_of.pe hr (by rfl) (pa_cons (pv 0) (pa_cons (pe_lst (pa_cons pe_str (pa_cons pe_str pa_nil))) pa_nil))))))))), ?_⟩
    refine ⟨⟨_, rfl⟩, _, rfl, (n : Int), rfl, by omega, by omega, fun D hD => ?_⟩
    have hDa : D ≠ a := fun z => by obtain ⟨x, y, hx, _⟩ := hb; rw [z, hx] at hD; cases hD
    refine lc_sit (sit_range 0 n) (fun _ _ s h => trivial) hD (fun i acc H' => SB a H H' ∧ BoxA H' a ∧ ∃ w : Wd, w.length = i ∧ acc = w.map Bt) ⟨SB.of (.refl _), hb, [], rfl, rfl⟩ (fun _ _ _ _ _ => trivial) ?_ ?_
    · rintro i x acc H1 hi rfl hD1 ⟨s1, hb1, w, hw, rfl⟩ Nx nx
      have hi2 : i < n := hi
      have hb1' := hb1.same off_same
      refine ⟨rfl, ?_⟩
      refine ⟨_, rfl, by show 2 ≤ sizeLine; decide, fun l hl => ?_⟩
      have hla : l ≠ a := fun z => by obtain ⟨x, y, hx, _⟩ := hb1'; rw [z, hx] at hl; cases hl
      have hb2 := hb1'.same (Same.new (o := .lst [.str "0", .str "1"]) hl)
      refine ⟨a, l, _, rfl, hb2, upd_same, hla, by simp, by simp, fun H2 x s2 hb3 hx => ?_⟩
      have hlD : D ≠ l := fun z => by rw [← z, hD1] at hl; cases hl
      have hD2 : H2 D = some (.lst (w.map Bt)) := s2.at hDa (by rw [upd_ne hlD]; exact hD1)
      obtain ⟨b, rfl⟩ : ∃ b, x = Bt b := by
        simp only [List.mem_cons, List.not_mem_nil, or_false] at hx
        rcases hx with rfl | rfl
        · exact ⟨false, by rw [S_0]⟩
        · exact ⟨true, by rw [S_1]⟩
      refine ⟨_, hD2, by rw [List.length_map]; exact lt_sz (by omega), nx _ _ upd_same ⟨?_, ?_, w ++ [b], by simp [hw], by rw [List.map_append]; rfl⟩⟩
      · rw [off_upd]
        exact s1.offD ((SB.of (.new hl)).trans s2)
      · rw [off_upd]; exact hb3.offD (Ne.symm hDa)
    · rintro acc H1 hD1 ⟨s1, hb1, w, hw, rfl⟩
      refine ⟨_, D, w.map (fun b => S [b]), rfl, rfl, .inl (lq ?_), ?_, ?_⟩
      · rw [hD1, List.map_map]; rfl
      · rw [bits_sum, List.length_map]
        have : ("" : Str).length = 0 := by rw [S_nil, S_len]; rfl
        rw [this]; omega
      · rw [join_bits]
        exact q _ w (s1.trans (SB.of off_same)) (hb1.same off_same) hw
def sp__law_turn (K : Fg) (C : Addr) : Sp := fun vs H Q _ => ∃ b : Bool, vs = [Bt b] ∧ Q (Bt (!b)) H
abbrev s__law_turn : Stmt := top 61
theorem sc__law_turn : FnScope ["_law_bit"] ["_law_bit"] (defScope s__law_turn) := ⟨rfl, rfl, rfl, by decide +kernel, rfl, by decide +kernel, by decide +kernel⟩
-- slots: 0 _law_bit
theorem ok__law_turn {P : Program} {w : World} {K : PySem.W.Frag} {mg : Str → Option Value} {base : Heap} {f C : Addr} {fd : FuncData} (F : FnP K "_law_turn" "_law_turn" s__law_turn [] f fd) (T : TX K mg C)  : FnOk P w K mg base CX0 1 f fd ["_law_bit"] (sp__law_turn K C) := by
  refine FunD.ok (k := 0) F sc__law_turn (fun vs H Q E h => ?_) (fun cdv A outer s H vs Q E hr h => ?_)
  · obtain ⟨b, rfl, _⟩ := h; rfl
  · obtain ⟨b, rfl, q⟩ := h
    refine ⟨_, (PSs.nox (pss_one (ps_ret (pe_ifExp (pt_cmpR op_eq (pv 0) pe_str (nomark _)) pe_str pe_str)))), ?_⟩
    refine ⟨_, rfl, rfl, _, rfl, ?_⟩
    rw [S_0]
    cases b with
    | false => rw [decide_eq_true rfl, S_1]; exact q
    | true =>
      rw [show decide (V.str (S [true]) = V.str (S [false])) = false by rw [decide_eq_false_iff_not]; intro z; injection z with z; have := S_inj z; cases this]
      exact q
def sp__law_ends (K : Fg) (C : Addr) : Sp := fun vs H Q _ => ∃ l p : Wd, vs = [.str (S l), .str (S p)] ∧ l.length ≤ 1000 ∧ p.length ≤ 1000 ∧ Q (.bl (sfx p l)) H
abbrev s__law_ends : Stmt := top 62
theorem sc__law_ends : FnScope ["_law_line", "_law_pattern"] ["_law_line", "_law_pattern"] (defScope s__law_ends) := ⟨rfl, rfl, rfl, by decide +kernel, rfl, by decide +kernel, by decide +kernel⟩
-- slots: 0 _law_line, 1 _law_pattern
theorem ok__law_ends {P : Program} {w : World} {K : PySem.W.Frag} {mg : Str → Option Value} {base : Heap} {f C : Addr} {fd : FuncData} (F : FnP K "_law_ends" "_law_ends" s__law_ends [] f fd) (T : TX K mg C)  : FnOk P w K mg base CX0 1 f fd ["_law_line", "_law_pattern"] (sp__law_ends K C) := by
  refine FunD.ok (k := 0) F sc__law_ends (fun vs H Q E h => ?_) (fun cdv A outer s H vs Q E hr h => ?_)
  · obtain ⟨l, p, rfl, _⟩ := h; rfl
  · obtain ⟨l, p, rfl, hl, hp, q⟩ := h
    refine ⟨_, (PSs.nox (pss_one (ps_ret (pe_and (pe_cmpR op_ge (pe_callB (cln (K := K) rfl) (by rfl) T.n_len (by decide +kernel) (pa_cons (pv 0) pa_nil)) (pe_callB (cln (K := K) rfl) (by rfl) T.n_len (by decide +kernel) (pa_cons (pv 1) pa_nil)) (nomark _)) (pe_one (pe_cmpR op_eq (pe_slice sl_str (pv 0) (po_some (pe_op op_sub (pe_callB (cln (K := K) rfl) (by rfl) T.n_len (by decide +kernel) (pa_cons (pv 0) pa_nil)) (pe_callB (cln (K := K) rfl) (by rfl) T.n_len (by decide +kernel) (pa_cons (pv 1) pa_nil)))) po_none) (pv 1) (nomark _))))))), ?_⟩
    refine ⟨_, rfl, _, _, rfl, ⟨S_sz (by omega), rfl⟩, _, rfl, _, _, rfl, ⟨S_sz (by omega), rfl⟩, _, _, rfl, rfl, _, rfl, ?_⟩
    rw [S_len, S_len]
    by_cases h : p.length ≤ l.length
    · rw [show decide (((l.length : Nat) : Int) ≥ ((p.length : Nat) : Int)) = true from decide_eq_true (by omega)]
      refine ⟨_, rfl, _, rfl, _, _, rfl, ⟨S_sz (by omega), rfl⟩, _, rfl, _, _, rfl, ⟨S_sz (by omega), rfl⟩, _, _, rfl, rfl, _, rfl, _, rfl, S_sz (by omega), _, rfl, rfl, ?_⟩
      have e : cutS (S l) (some ((((S l).length : Nat) : Int) - (((S p).length : Nat) : Int))) none = S (l.drop (l.length - p.length)) := by
        rw [S_len, S_len, show ((l.length : Nat) : Int) - ((p.length : Nat) : Int) = ((l.length - p.length : Nat) : Int) by omega, S_cut]
      have e2 : decide (V.str (cutS (S l) (some ((((S l).length : Nat) : Int) - (((S p).length : Nat) : Int))) none) = V.str (S p)) = sfx p l := by
        rw [e]; unfold sfx
        rw [Bool.eq_iff_iff, decide_eq_true_eq, weq_eq]
        exact ⟨fun z => by injection z with z; exact S_inj z, fun z => by rw [z]⟩
      exact e2 ▸ q
    · rw [show decide (((l.length : Nat) : Int) ≥ ((p.length : Nat) : Int)) = false from decide_eq_false (by omega)]
      have e : sfx p l = false := by
        unfold sfx
        cases hw : weq (l.drop (l.length - p.length)) p with
        | false => rfl
        | true =>
          have := congrArg List.length (weq_eq.mp hw)
          rw [List.length_drop] at this; omega
      rw [e] at q; exact q
/-! ### what comes next -/
def sp__law_due (K : Fg) (C : Addr) : Sp := fun vs H Q _ => ∃ (l : Addr) (ts : List Addr) (ss : List Stf) (line : Wd), vs = [.ref l, .str (S line)] ∧ H l = some (.lst (ts.map V.ref)) ∧ StsA H ts ss ∧ ss.length ≤ 8 ∧ (∀ st ∈ ss, st.1.length ≤ 100) ∧ line.length ≤ 500 ∧ ∀ H', Same H H' → Q (opt (put ss line)) H'
theorem put_filter (line : Wd) : ∀ ss : List Stf, ((ss.filter fun st => sfx st.1 line).map (·.2)).head? = put ss line
  | [] => rfl
  | (p, b) :: r => by
    unfold put
    cases h : sfx p line with
    | true => rw [List.filter_cons_of_pos (by exact h)]; rfl
    | false => rw [List.filter_cons_of_neg (by rw [h]; decide)]; exact put_filter line r
theorem dp_bits {K : PySem.W.Frag} {H : Hp} : ∀ bs : List Bool, DpAll K H (bs.map Bt) (bs.map fun b => .str (S [b]))
  | [] => .nil
  | b :: bs => .cons (.str _) (dp_bits bs)
theorem shaped_bits (bs : List Bool) : SeqAt.shaped (.list (bs.map fun b => .str (S [b]))) = true := by
  have h1 : ∀ l : List Bool, PyData.canLayAll0 (l.map fun b => .str (S [b])) = true := fun l => by
    induction l with
    | nil => simp [PyData.canLayAll0]
    | cons b l ih => simp [PyData.canLayAll0, PyData.canLay0, strOk_S (l := [b]) (by simp), ih]
  have h2 : ∀ l : List Bool, PyData.depthAll (l.map fun b => .str (S [b])) = 0 := fun l => by
    induction l with
    | nil => simp [PyData.depthAll]
    | cons b l ih => simp [PyData.depthAll, PyData.depth, ih]
  simp [SeqAt.shaped, PyData.canLay0, h1, PyData.depth, h2]
abbrev s__law_due : Stmt := top 63
theorem sc__law_due : FnScope ["_law_stuffs", "_law_line", "_law_found", "_law_pattern", "_law_bit"] ["_law_stuffs", "_law_line"] (defScope s__law_due) := ⟨rfl, rfl, rfl, by decide +kernel, rfl, by decide +kernel, by decide +kernel⟩
-- slots: 0 _law_stuffs, 1 _law_line, 2 _law_found, 3 _law_pattern, 4 _law_bit
theorem ok__law_due {P : Program} {w : World} {K : PySem.W.Frag} {mg : Str → Option Value} {base : Heap} {f C : Addr} {fd : FuncData} (F : FnP K "_law_due" "_law_due" s__law_due [] f fd) (T : TX K mg C) (c__law_ends : Cal P w K mg base 1 "_law_ends" ["_law_line", "_law_pattern"] (sp__law_ends K C)) : FnOk P w K mg base CX0 2 f fd ["_law_stuffs", "_law_line"] (sp__law_due K C) := by
  refine FunD.ok (k := 1) F sc__law_due (fun vs H Q E h => ?_) (fun cdv A outer s H vs Q E hr h => ?_)
  · obtain ⟨l, ts, ss, line, rfl, _⟩ := h; rfl
  · obtain ⟨l, ts, ss, line, rfl, hl, hts, hn, hst, hline, q⟩ := h
    refine ⟨_, (PSs.nox (pss_cons (ps_setLc (own := [("_law_pattern", 3), ("_law_bit", 4)]) (i := 2) rfl sc__law_due.nd rfl rfl (sw_true rfl rfl rfl (by decide +kernel)) (pil (K := K) rfl (pv 0)) (blkOk_by (own := [("_law_pattern", 3), ("_law_bit", 4)]) (by kernel_rfl)) (fun _ _ _ _ _ => (pgt (K := K) (n := 2) rfl rfl (pgs_cons (pg_name (i := 3) sc__law_due.nd rfl (by first | exact Or.inl rfl | exact Or.inr rfl)) (pgs_cons (pg_name (i := 4) sc__law_due.nd rfl (by first | exact Or.inl rfl | exact Or.inr rfl)) pgs_nil)))) (fun _ _ _ _ _ => (pts_one (pt_val (c__law_ends.pe hr (by rfl) (pa_cons (pv 1) (pa_cons (pv 3) pa_nil)))))) (fun _ _ _ _ _ => (pv 4)))
      (pss_one (ps_ret (pe_ifExp (pt_cmpR (oneD (K := K) rfl hr.units) (pv 2) (pe_lst pa_nil) (nomark _)) (pe_ix (ixl (K := K) rfl) (pv 2) pe_int (fun _ _ => rfl)) pe_non))))), ?_⟩
    refine ⟨_, rfl, l, rfl, ⟨_, lq hl⟩, fun D hD => ?_⟩
    refine lc_sit (sit_list (ts.map V.ref)) (fun _ _ s h => s.seq h) hD (fun i acc H' => Same H H' ∧ acc = (((ss.take i).filter fun st => sfx st.1 line).map (·.2)).map Bt) ⟨.refl _, rfl⟩ (fun _ _ _ _ h => h.1.seq (lq hl)) ?_ ?_
    · rintro i x acc H1 hi hx hD1 ⟨s1, rfl⟩ Nx nx
      obtain ⟨a, st, rfl, hs, ha⟩ := sts_at hts hx
      have s1' := s1.trans (off_same (H := H1) (D := D))
      have h100 := hst st (List.mem_of_getElem? hs)
      refine ⟨a, _, rfl, tq (s1' _ _ ha), rfl, _, _, rfl, _, _, rfl, rfl, rfl, ?_⟩
      refine ⟨_, rfl, _, rfl, line, st.1, rfl, by omega, by omega, _, rfl, ?_⟩
      cases e : sfx st.1 line with
      | true =>
        refine ⟨_, rfl, _, hD1, ?_, nx _ _ upd_same ⟨?_, ?_⟩⟩
        · rw [List.length_map, List.length_map]
          have h1 := List.length_filter_le (fun st : Stf => sfx st.1 line) (ss.take i)
          rw [List.length_take] at h1
          exact lt_sz (by omega)
        · rw [off_upd]; exact s1
        · rw [take_snoc hs, List.filter_append, List.filter_cons_of_pos (by exact e), List.filter_nil, List.map_append, List.map_append]; rfl
      | false =>
        refine nx _ _ hD1 ⟨s1, ?_⟩
        rw [take_snoc hs, List.filter_append, List.filter_cons_of_neg (by rw [e]; decide), List.filter_nil, List.append_nil]
    · rintro acc H1 hD1 ⟨s1, rfl⟩
      have s1' := s1.trans (off_same (H := H1) (D := D))
      rw [List.length_map, sts_len hts, List.take_length] at hD1
      have hpf := put_filter line ss
      generalize hm : (ss.filter fun st => sfx st.1 line).map (·.2) = bs at hD1 hpf
      have hbl : bs.length ≤ 8 := by
        rw [← hm, List.length_map]
        exact Nat.le_trans (List.length_filter_le _ _) hn
      refine ⟨_, rfl, by show 0 ≤ sizeLine; exact Nat.zero_le _, fun p hp => ?_⟩
      have hD2 := Same.new (o := .lst []) hp _ _ hD1
      have hp2 : upd H1 p (.lst []) p = some (.lst []) := upd_same
      have s2 := s1'.trans (Same.new (o := .lst []) hp)
      generalize upd H1 p (.lst []) = H2 at hD2 hp2 s2
      refine ⟨.list (bs.map fun b => .str (S [b])), .list [], .lst (lq hD2) (dp_bits bs), .lst (lq hp2) .nil, shaped_bits bs, by rfl, _, rfl, ?_⟩
      cases bs with
      | nil =>
        rw [show (!PyData.eqv (.list (List.map (fun b => PyData.str (S [b])) [])) (.list [])) = false from rfl]
        have := q H2 s2
        rw [← hpf] at this; exact this
      | cons b bs =>
        rw [show (!PyData.eqv (.list (List.map (fun b => PyData.str (S [b])) (b :: bs))) (.list [])) = true from rfl]
        refine ⟨_, rfl, D, _, _, _, rfl, rfl, lq hD2, atI_nat (j := 0) rfl, ?_⟩
        have := q H2 s2
        rw [← hpf] at this; exact this
def sp__law_chain (K : Fg) (C : Addr) : Sp := fun vs H Q _ => ∃ (l : Addr) (ts : List Addr) (ss : List Stf) (line : Wd), vs = [.ref l, .str (S line)] ∧ H l = some (.lst (ts.map V.ref)) ∧ StsA H ts ss ∧ ss.length ≤ 8 ∧ (∀ st ∈ ss, st.1.length ≤ 100) ∧ line.length ≤ 100 ∧ ∀ H', Same H H' → Q (optW (pbh ss 40 line [])) H'
abbrev s__law_chain : Stmt := top 64
theorem sc__law_chain : FnScope ["_law_stuffs", "_law_line", "_law_found", "_law_turn_here", "_law_bit"] ["_law_stuffs", "_law_line"] (defScope s__law_chain) := ⟨rfl, rfl, rfl, by decide +kernel, rfl, by decide +kernel, by decide +kernel⟩
-- slots: 0 _law_stuffs, 1 _law_line, 2 _law_found, 3 _law_turn_here, 4 _law_bit
theorem ok__law_chain {P : Program} {w : World} {K : PySem.W.Frag} {mg : Str → Option Value} {base : Heap} {f C : Addr} {fd : FuncData} (F : FnP K "_law_chain" "_law_chain" s__law_chain [] f fd) (T : TX K mg C) (c__law_due : Cal P w K mg base 2 "_law_due" ["_law_stuffs", "_law_line"] (sp__law_due K C)) : FnOk P w K mg base CX0 3 f fd ["_law_stuffs", "_law_line"] (sp__law_chain K C) := by
  refine FunD.ok (k := 2) F sc__law_chain (fun vs H Q E h => ?_) (fun cdv A outer s H vs Q E hr h => ?_)
  · obtain ⟨l, ts, ss, line, rfl, _⟩ := h; rfl
  · obtain ⟨l, ts, ss, line, rfl, hl, hts, hn, hst, hline, q⟩ := h
    refine ⟨_, (PSs.nox (pss_cons (ps_set (i := 2) sc__law_chain.nd rfl (by first | exact Or.inl rfl | exact Or.inr rfl) pe_str)
      (pss_cons (ps_for PassesOwn.never rfl (pi_range1 rfl T.n_range (pa_cons pe_int pa_nil)) (pg_name (i := 3) sc__law_chain.nd rfl (by first | exact Or.inl rfl | exact Or.inr rfl)) (pss_cons (ps_set (i := 4) sc__law_chain.nd rfl (by first | exact Or.inl rfl | exact Or.inr rfl) (c__law_due.pe hr (by rfl) (pa_cons (pv 0) (pa_cons (pe_op op_add_str (pv 1) (pv 2)) pa_nil))))
      (pss_cons (ps_if (pt_cmpR op_isN (pv 4) pe_non (nomark _)) (pss_one (ps_ret (pv 2))) pss_nil)
      (pss_one (ps_set (i := 2) sc__law_chain.nd rfl (by first | exact Or.inl rfl | exact Or.inr rfl) (pe_op op_add_str (pv 2) (pv 4)))))))
      (pss_one (ps_ret pe_non))))), ?_⟩
    refine ⟨(40 : Int), rfl, by decide, by decide, ?_⟩
    refine for_sit (sit_range 0 40) (fun i σ H' => ∃ (found : Wd) (t3 t4 : Option V), σ = [some (.ref l), some (.str (S line)), some (.str (S found)), t3, t4] ∧ Same H H' ∧ found.length ≤ i ∧ pbh ss 40 line [] = pbh ss (40 - i) line found) ⟨[], _, _, by rw [S_nil]; rfl, .refl _, Nat.le_refl _, rfl⟩ (fun _ _ _ _ _ => trivial) ?_ ?_
    · rintro i x σ H1 hi rfl ⟨found, t3, t4, rfl, s1, hf, hp⟩
      have hi2 : i < 40 := hi
      refine ⟨_, rfl, _, rfl, _, rfl, _, _, rfl, rfl, S_sz2 (by omega), l, ts, ss, line ++ found, by rw [S_app]; rfl, s1 _ _ hl, hts.same s1, hn, hst, by rw [List.length_append]; omega, fun H2 s2 => ?_⟩
      have hstep : pbh ss (40 - i) line found = (match put ss (line ++ found) with
        | none => some found
        | some b => pbh ss (40 - (i + 1)) line (found ++ [b])) := by
        rw [show 40 - i = (40 - (i + 1)) + 1 by omega]; rfl
      rw [hstep] at hp
      cases e : put ss (line ++ found) with
      | none =>
        rw [e] at hp
        refine ⟨_, rfl, rfl, _, rfl, ?_⟩
        refine ⟨_, rfl, ?_⟩
        have := q H2 (s1.trans s2)
        rw [hp] at this; exact this
      | some b =>
        rw [e] at hp
        refine ⟨_, rfl, rfl, _, rfl, ?_⟩
        refine ⟨_, rfl, _, rfl, _, _, rfl, rfl, S_sz2 (by simp; omega), ?_⟩
        exact ⟨found ++ [b], _, _, by rw [← S_app]; rfl, s1.trans s2, by rw [List.length_append]; simp; omega, hp⟩
    · rintro σ H1 ⟨found, t3, t4, rfl, s1, hf, hp⟩
      have := q H1 s1
      rw [hp] at this
      exact this
theorem S_cut4 (l : Wd) : cutS (S l) (some (-4)) none = S (tl 4 l) := by
  have e : HT.sIx (S l).length 0 (some (-4)) = HT.sIx (S l).length 0 (some ((l.length - 4 : Nat) : Int)) := by
    rw [HT.sIx_nat]
    show (if (-4 : Int) < 0 then (-4 + (((S l).length : Nat) : Int)).toNat else min (-4 : Int).toNat (S l).length) = _
    rw [if_pos (by decide), S_len]
    omega
  have h : cutS (S l) (some (-4)) none = cutS (S l) (some ((l.length - 4 : Nat) : Int)) none := by
    unfold cutS
    rw [e]
  rw [h, S_cut]; rfl
/-- a step for each of some bits -/
def lbs (ss : List Stf) (here : Wd) : List Bool → List Wd → (List Wd → Option Bool) → Option Bool
  | [], wt, k => k wt
  | b :: r, wt, k => match stepL ss here b wt with
    | none => some false
    | some wt' => lbs ss here r wt' k
theorem ltl_eq (ss : List Stf) (f : Nat) (wt : List Wd) (i : Nat) : ltl ss (f + 1) wt i = (match wt[i]? with
    | none => some true
    | some here => lbs ss here [false, true] wt fun wt' => ltl ss f wt' (i + 1)) := rfl
theorem inV_words (x : Wd) : ∀ l : List Wd, inV (.str (S x)) (l.map fun w => V.str (S w)) = mem x l
  | [] => rfl
  | y :: r => by
    unfold mem
    show (eqV (.str (S y)) (.str (S x)) || inV (.str (S x)) (r.map fun w => V.str (S w))) = _
    rw [inV_words x r]
    show ((S y == S x) || mem x r) = _
    cases h : weq x y with
    | true => rw [weq_eq.mp h]; simp
    | false =>
      have hn : (S y == S x) = false := by
        rw [beq_eq_false_iff_ne]
        intro z
        rw [S_inj z, weq_self] at h; cases h
      rw [hn]; rfl
theorem flat_words (l : List Wd) : (l.map fun w => V.str (S w)).all flatV = true := by
  rw [List.all_eq_true]
  intro v hv
  obtain ⟨w, _, rfl⟩ := List.mem_map.mp hv
  rfl
def sp__law_tails (K : Fg) (C : Addr) : Sp := fun vs H Q _ => ∃ (l : Addr) (ts : List Addr) (ss : List Stf) (b : Bool), vs = [.ref l] ∧ H l = some (.lst (ts.map V.ref)) ∧ StsA H ts ss ∧ ss.length ≤ 8 ∧ (∀ st ∈ ss, st.1.length ≤ 100) ∧ ltl ss 40 [[]] 0 = some b ∧
  (b = true → ∀ H' x, Same H H' → Q (.ref x) H') ∧ (b = false → ∀ H', Same H H' → Q .non H')
abbrev s__law_tails : Stmt := top 65
theorem sc__law_tails : FnScope ["_law_stuffs", "_law_found", "_law_at", "_law_bit", "_law_more", "_law_last"] ["_law_stuffs"] (defScope s__law_tails) := ⟨rfl, rfl, rfl, by decide +kernel, rfl, by decide +kernel, by decide +kernel⟩
-- slots: 0 _law_stuffs, 1 _law_found, 2 _law_at, 3 _law_bit, 4 _law_more, 5 _law_last
theorem ok__law_tails {P : Program} {w : World} {K : PySem.W.Frag} {mg : Str → Option Value} {base : Heap} {f C : Addr} {fd : FuncData} (F : FnP K "_law_tails" "_law_tails" s__law_tails [] f fd) (T : TX K mg C) (c__law_chain : Cal P w K mg base 3 "_law_chain" ["_law_stuffs", "_law_line"] (sp__law_chain K C)) : FnOk P w K mg base CX0 4 f fd ["_law_stuffs"] (sp__law_tails K C) := by
  refine FunD.ok (k := 3) F sc__law_tails (fun vs H Q E h => ?_) (fun cdv A outer s H vs Q E hr h => ?_)
  · obtain ⟨l, ts, ss, b, rfl, _⟩ := h; rfl
  · obtain ⟨l, ts, ss, b, rfl, hl, hts, hn, hst, hb, q1, q0⟩ := h
    refine ⟨_, (PSs.nox (pss_cons (ps_set (i := 1) sc__law_tails.nd rfl (by first | exact Or.inl rfl | exact Or.inr rfl) (pe_lst (pa_cons pe_str pa_nil)))
      (pss_cons (ps_set (i := 2) sc__law_tails.nd rfl (by first | exact Or.inl rfl | exact Or.inr rfl) pe_int)
      (pss_cons (ps_while PassesOwn.never (pt_cmpR op_lt (pv 2) (pe_callB (cln (K := K) rfl) (by rfl) T.n_len (by decide +kernel) (pa_cons (pv 1) pa_nil)) (nomark _)) (pss_cons (ps_for PassesOwn.never rfl (pit (K := K) rfl (pe_tup (pa_cons pe_str (pa_cons pe_str pa_nil)))) (pg_name (i := 3) sc__law_tails.nd rfl (by first | exact Or.inl rfl | exact Or.inr rfl)) (pss_cons (ps_set (i := 4) sc__law_tails.nd rfl (by first | exact Or.inl rfl | exact Or.inr rfl) (c__law_chain.pe hr (by rfl) (pa_cons (pv 0) (pa_cons (pe_op op_add_str (pe_ix (ixl (K := K) rfl) (pv 1) (pv 2) (fun _ _ => rfl)) (pv 3)) pa_nil))))
      (pss_cons (ps_if (pt_cmpR op_isN (pv 4) pe_non (nomark _)) (pss_one (ps_ret pe_non)) pss_nil)
      (pss_cons (ps_set (i := 5) sc__law_tails.nd rfl (by first | exact Or.inl rfl | exact Or.inr rfl) (pe_slice sl_str (pe_op op_add_str (pe_op op_add_str (pe_ix (ixl (K := K) rfl) (pv 1) (pv 2) (fun _ _ => rfl)) (pv 3)) (pv 4)) (po_some (pe_un un_neg pe_int)) po_none))
      (pss_one (ps_if (pt_cmpR (onin (K := K) rfl) (pv 5) (pv 1) (by rfl)) (pss_one (ps_expr (papp (K := K) rfl (pv 1) (pa_cons (pv 5) pa_nil)))) pss_nil))))))
      (pss_one (ps_set (i := 2) sc__law_tails.nd rfl (by first | exact Or.inl rfl | exact Or.inr rfl) (pe_op op_add (pv 2) pe_int)))))
      (pss_one (ps_ret (pv 1))))))), ?_⟩
    refine ⟨by show 1 ≤ sizeLine; decide, fun lw hlw => ?_⟩
    refine ⟨fun m σ H' => ∃ (wt : List Wd) (i : Nat) (t3 t4 t5 : Option V), σ = [some (.ref l), some (.ref lw), some (.int (i : Nat)), t3, t4, t5] ∧ Same H H' ∧ H' lw = some (.lst (wt.map fun w => .str (S w))) ∧ ltl ss m wt i = some b ∧ wt.length + 2 * m ≤ 100 ∧ ∀ w ∈ wt, w.length ≤ 4,
      ⟨40, [[]], 0, none, none, none, rfl, .new hlw, by rw [upd_same, S_nil]; rfl, hb, by simp, by simp⟩, ?_⟩
    rintro m σ H' ⟨wt, i, t3, t4, t5, rfl, s, hl', he, hnm, hw⟩
    cases m with
    | zero => cases he
    | succ m =>
    refine ⟨_, rfl, _, rfl, _, _, rfl, .inl ⟨_, lq hl', rfl⟩, _, _, rfl, rfl, _, rfl, ?_⟩
    rw [ltl_eq] at he
    cases e : wt[i]? with
    | none =>
      rw [e] at he
      cases he
      have hlt : wt.length ≤ i := List.getElem?_eq_none_iff.mp e
      rw [show decide ((i : Int) < (((wt.map fun w => V.str (S w)).length : Nat) : Int)) = false by rw [decide_eq_false_iff_not, List.length_map]; omega]
      exact ⟨_, rfl, q1 rfl _ lw s⟩
    | some here =>
      rw [e] at he
      have hlt := lt_of_get e
      rw [show decide ((i : Int) < (((wt.map fun w => V.str (S w)).length : Nat) : Int)) = true by rw [decide_eq_true_eq, List.length_map]; omega]
      refine ⟨fun σ' H2 => ∃ m', m' < m + 1 ∧ ∃ (wt : List Wd) (i : Nat) (t3 t4 t5 : Option V), σ' = [some (.ref l), some (.ref lw), some (.int (i : Nat)), t3, t4, t5] ∧ Same H H2 ∧ H2 lw = some (.lst (wt.map fun w => .str (S w))) ∧ ltl ss m' wt i = some b ∧ wt.length + 2 * m' ≤ 100 ∧ ∀ w ∈ wt, w.length ≤ 4, fun σ' H' n => n, ?_⟩
      refine ⟨by show 2 ≤ sizeLine; decide, fun pt hpt => ⟨pt, rfl, ⟨_, tq upd_same⟩, ?_⟩⟩
      have hpl : lw ≠ pt := fun z => by rw [← z, hl'] at hpt; cases hpt
      refine for_sit (sit_tup [V.str "0", V.str "1"]) (fun j σ' H2 => ∃ (wt' : List Wd) (t3 t4 t5 : Option V), σ' = [some (.ref l), some (.ref lw), some (.int (i : Nat)), t3, t4, t5] ∧ Same H H2 ∧ H2 pt = some (.tup [V.str "0", V.str "1"]) ∧ H2 lw = some (.lst (wt'.map fun w => .str (S w))) ∧ lbs ss here ([false, true].drop j) wt' (fun wt' => ltl ss m wt' (i + 1)) = some b ∧ wt'.length + 2 * m + 2 ≤ 100 + j ∧ wt'[i]? = some here ∧ ∀ w ∈ wt', w.length ≤ 4)
        ⟨wt, _, _, _, rfl, s.trans (.new hpt), upd_same, by rw [upd_ne hpl]; exact hl', he, by omega, e, hw⟩ (fun _ _ _ _ h => ?_) ?_ ?_
      · obtain ⟨_, _, _, _, _, _, h, _⟩ := h
        exact tq h
      · rintro j x σ' H2 hj hx ⟨wt', t3, t4, t5, rfl, s2, hpt2, hl2, he2, hn2, e2, hw2⟩
        have hj2 : j < 2 := hj
        obtain ⟨bb, hbb, rfl⟩ : ∃ bb, [false, true][j]? = some bb ∧ x = Bt bb := by
          match j, hj2, hx with
          | 0, _, h => exact ⟨false, rfl, by rw [← Option.some.inj h, S_0]⟩
          | 1, _, h => exact ⟨true, rfl, by rw [← Option.some.inj h, S_1]⟩
        have hdr : [false, true].drop j = bb :: [false, true].drop (j + 1) := by
          obtain ⟨h1, h2⟩ := List.getElem?_eq_some_iff.mp hbb
          rw [← h2]; exact List.drop_eq_getElem_cons h1
        rw [hdr] at he2
        have hstep : lbs ss here (bb :: [false, true].drop (j + 1)) wt' (fun wt' => ltl ss m wt' (i + 1)) = (match stepL ss here bb wt' with
          | none => some false
          | some wt2 => lbs ss here ([false, true].drop (j + 1)) wt2 (fun wt' => ltl ss m wt' (i + 1))) := rfl
        rw [hstep] at he2
        have hh : here.length ≤ 4 := hw2 here (List.mem_of_getElem? e2)
        refine ⟨_, rfl, _, rfl, _, rfl, _, _, _, _, rfl, rfl, lq hl2, atI_nat (j := i) (map_at e2), _, rfl, _, _, rfl, rfl, S_sz2 (by simp; omega), l, ts, ss, here ++ [bb], by rw [S_app]; rfl, s2 _ _ hl, hts.same s2, hn, hst, by simp; omega, fun H3 s3 => ?_⟩
        have s23 := s2.trans s3
        have hl3 := s3 _ _ hl2
        cases ep : pbh ss 40 (here ++ [bb]) [] with
        | none =>
          have : stepL ss here bb wt' = none := by unfold stepL; rw [ep]
          rw [this] at he2
          refine ⟨_, rfl, rfl, _, rfl, ?_⟩
          exact q0 (by simpa using he2.symm) _ s23
        | some more =>
          have hml := pbh_len _ _ _ _ _ ep
          simp at hml
          have hst2 : stepL ss here bb wt' = (match mem (tl 4 (here ++ [bb] ++ more)) wt' with
            | true => some wt'
            | false => some (wt' ++ [tl 4 (here ++ [bb] ++ more)])) := by unfold stepL; rw [ep] <;> rfl
          rw [hst2] at he2
          refine ⟨_, rfl, rfl, _, rfl, ?_⟩
          refine ⟨_, rfl, _, rfl, _, _, _, _, rfl, rfl, lq hl3, atI_nat (j := i) (map_at e2), _, rfl, _, _, rfl, rfl, S_sz2 (by simp; omega), _, rfl, _, _, rfl, rfl, ?_, _, rfl, _, rfl, _, rfl, ?_, ?_⟩
          · rw [S_app]; exact S_sz2 (by simp; omega)
          · rw [S_app, S_app]; exact S_sz (by simp; omega)
          have hcut : cutS (S here ++ S [bb] ++ S more) (some (-4)) none = S (tl 4 (here ++ [bb] ++ more)) := by rw [S_app, S_app, S_cut4]
          rw [hcut]
          have htl := tl_len 4 (here ++ [bb] ++ more)
          refine ⟨_, rfl, _, rfl, lw, _, rfl, .inl (lq hl3), rfl, flat_words _, _, rfl, ?_⟩
          rw [inV_words]
          cases em : mem (tl 4 (here ++ [bb] ++ more)) wt' with
          | true =>
            rw [em] at he2
            exact ⟨wt', _, _, _, rfl, s23, s3 _ _ hpt2, hl3, he2, by omega, e2, hw2⟩
          | false =>
            rw [em] at he2
            refine ⟨_, rfl, .inl ⟨rfl, _, lq hl3⟩, _, rfl, lw, _, _, rfl, rfl, hl3, by rw [List.length_map]; exact lt_sz (by omega), ?_⟩
            refine ⟨wt' ++ [tl 4 (here ++ [bb] ++ more)], _, _, _, rfl, s23.mut hlw, ?_, by rw [upd_same, List.map_append]; rfl, he2, by rw [List.length_append]; simp; omega, by rw [List.getElem?_append_left (lt_of_get e2)]; exact e2, ?_⟩
            · rw [upd_ne (Ne.symm hpl)]; exact s3 _ _ hpt2
            · intro w hw'
              rcases List.mem_append.mp hw' with h | h
              · exact hw2 w h
              · rw [List.mem_singleton.mp h]; exact htl
      · rintro σ' H2 ⟨wt', t3, t4, t5, rfl, s2, hpt2, hl2, he2, hn2, e2, hw2⟩
        refine ⟨_, rfl, _, _, rfl, rfl, ?_⟩
        exact ⟨m, Nat.lt_succ_self _, wt', i + 1, _, _, _, rfl, s2, hl2, he2, by have h2 : ([V.str "0", V.str "1"] : List V).length = 2 := rfl; omega, hw2⟩
end UF
set_option maxHeartbeats 4000000
namespace UF
open PySem PySem.Spec PyProof.Rows L2
theorem apart1_of : ∀ (r pre : List Stf), (∀ i st, r[i]? = some st → ∀ sc, sc ∈ pre ++ (r.take i ++ r.drop (i + 1)) → sfx sc.1 st.1 = false) → apart1 pre r = true
  | [], _, _ => rfl
  | x :: r, pre, h => by
    unfold apart1
    rw [Bool.and_eq_true]
    constructor
    · rw [List.all_eq_true]
      intro y hy
      rw [h 0 x rfl y (by simpa using hy)]; rfl
    · refine apart1_of r (pre ++ [x]) fun i st hi sc hsc => h (i + 1) st (by simpa using hi) sc ?_
      simp only [List.take_succ_cons, List.drop_succ_cons, List.mem_append, List.mem_cons, List.mem_singleton, List.not_mem_nil, or_false] at hsc ⊢
      rcases hsc with (h1 | h1) | h1 | h1
      · exact .inl h1
      · exact .inr (.inl (.inl h1))
      · exact .inr (.inl (.inr h1))
      · exact .inr (.inr h1)
theorem sts_cut {H : Hp} {ts : List Addr} {ss : List Stf} (i : Nat) (h : StsA H ts ss) : StsA H (ts.take i ++ ts.drop (i + 1)) (ss.take i ++ ss.drop (i + 1)) := by
  have tk : ∀ {l : List Addr} {m : List Stf} (n : Nat), Paired (StA H) l m → Paired (StA H) (l.take n) (m.take n) ∧ Paired (StA H) (l.drop n) (m.drop n) := by
    intro l m n h
    induction h generalizing n with
    | nil => rw [List.take_nil, List.take_nil, List.drop_nil, List.drop_nil]; exact ⟨.nil, .nil⟩
    | cons r t ih =>
      cases n with
      | zero => exact ⟨.nil, .cons r t⟩
      | succ n => exact ⟨.cons r (ih n).1, (ih n).2⟩
  exact paired_app (tk i h).1 (tk (i + 1) h).2
def sp__law_are_stuffs (K : Fg) (C : Addr) : Sp := fun vs H Q _ => ∃ (l : Addr) (ts : List Addr) (ss : List Stf), vs = [.ref l] ∧ H l = some (.lst (ts.map V.ref)) ∧ StsA H ts ss ∧ ss.length ≤ 8 ∧ (∀ st ∈ ss, st.1.length ≤ 100) ∧
  (apart ss = true → ∃ b, ltl ss 40 [[]] 0 = some b) ∧ ∀ H', Same H H' → Q (.bl (lawAre ss)) H'
abbrev s__law_are_stuffs : Stmt := top 66
theorem sc__law_are_stuffs : FnScope ["_law_stuffs", "_law_spot", "_law_pattern", "_law_bit", "_law_mate", "_law_more"] ["_law_stuffs"] (defScope s__law_are_stuffs) := ⟨rfl, rfl, rfl, by decide +kernel, rfl, by decide +kernel, by decide +kernel⟩
-- slots: 0 _law_stuffs, 1 _law_spot, 2 _law_pattern, 3 _law_bit, 4 _law_mate, 5 _law_more
theorem ok__law_are_stuffs {P : Program} {w : World} {K : PySem.W.Frag} {mg : Str → Option Value} {base : Heap} {f C : Addr} {fd : FuncData} (F : FnP K "_law_are_stuffs" "_law_are_stuffs" s__law_are_stuffs [] f fd) (T : TX K mg C) (c__law_ends : Cal P w K mg base 1 "_law_ends" ["_law_line", "_law_pattern"] (sp__law_ends K C)) (c__law_tails : Cal P w K mg base 4 "_law_tails" ["_law_stuffs"] (sp__law_tails K C)) : FnOk P w K mg base CX0 5 f fd ["_law_stuffs"] (sp__law_are_stuffs K C) := by
  refine FunD.ok (k := 4) F sc__law_are_stuffs (fun vs H Q E h => ?_) (fun cdv A outer s H vs Q E hr h => ?_)
  · obtain ⟨l, ts, ss, rfl, _⟩ := h; rfl
  · obtain ⟨l, ts, ss, rfl, hl, hts, hn, hst, hb, q⟩ := h
    refine ⟨_, (PSs.nox (pss_cons (ps_for PassesOwn.never rfl (pien (K := K) rfl rfl T.n_enumerate (pa_cons (pv 0) pa_nil)) (pgt (K := K) (n := 2) rfl rfl (pgs_cons (pg_name (i := 1) sc__law_are_stuffs.nd rfl (by first | exact Or.inl rfl | exact Or.inr rfl)) (pgs_cons (pgt (K := K) (n := 2) rfl rfl (pgs_cons (pg_name (i := 2) sc__law_are_stuffs.nd rfl (by first | exact Or.inl rfl | exact Or.inr rfl)) (pgs_cons (pg_name (i := 3) sc__law_are_stuffs.nd rfl (by first | exact Or.inl rfl | exact Or.inr rfl)) pgs_nil))) pgs_nil))) (pss_one (ps_for PassesOwn.never rfl (pil (K := K) rfl (pe_op op_cat (pe_slice (sll (K := K) rfl) (pv 0) po_none (po_some (pv 1))) (pe_slice (sll (K := K) rfl) (pv 0) (po_some (pe_op op_add (pv 1) pe_int)) po_none))) (pgt (K := K) (n := 2) rfl rfl (pgs_cons (pg_name (i := 4) sc__law_are_stuffs.nd rfl (by first | exact Or.inl rfl | exact Or.inr rfl)) (pgs_cons (pg_name (i := 5) sc__law_are_stuffs.nd rfl (by first | exact Or.inl rfl | exact Or.inr rfl)) pgs_nil))) (pss_one (ps_if (pt_val (c__law_ends.pe hr (by rfl) (pa_cons (pv 2) (pa_cons (pv 4) pa_nil)))) (pss_one (ps_ret pe_bl)) pss_nil)))))
      (pss_one (ps_ret (pe_cmpR op_notN (c__law_tails.pe hr (by rfl) (pa_cons (pv 0) pa_nil)) pe_non (nomark _)))))), ?_⟩
    refine ⟨_, rfl, l, _, rfl, lq hl, ?_⟩
    refine for_enum (xs := ts.map V.ref) (fun i σ H' => ∃ (t1 t2 t3 t4 t5 : Option V), σ = [some (.ref l), t1, t2, t3, t4, t5] ∧ Same H H' ∧ ∀ i' st, i' < i → ss[i']? = some st → ∀ sc, sc ∈ ss.take i' ++ ss.drop (i' + 1) → sfx sc.1 st.1 = false) ⟨_, _, _, _, _, rfl, .refl _, fun i' st h => absurd h (Nat.not_lt_zero _)⟩ (fun i σ H' _ h => ?_) ?_ ?_
    · obtain ⟨_, _, _, _, _, _, s, _⟩ := h
      exact lq (s _ _ hl)
    · rintro i x σ H1 T' hx ⟨t1, t2, t3, t4, t5, rfl, s1, hap⟩ hT
      obtain ⟨a, st, rfl, hs, ha⟩ := sts_at hts hx
      have hi : i < ss.length := lt_of_get hs
      have s2 : Same H (upd H1 T' (.tup [.int (i : Nat), .ref a])) := s1.trans (.new hT)
      refine ⟨T', _, rfl, tq upd_same, rfl, _, _, rfl, _, _, rfl, a, _, rfl, tq (s2 _ _ ha), rfl, _, _, rfl, _, _, rfl, rfl, rfl, ?_⟩
      generalize upd H1 T' (.tup [.int (i : Nat), .ref a]) = H2 at s2
      refine ⟨_, rfl, _, rfl, _, rfl, l, _, rfl, lq (s2 _ _ hl), fun p hp => ?_⟩
      have s3 := s2.trans (Same.new (o := .lst (cutV (ts.map V.ref) none (some ((i : Nat) : Int)))) hp)
      have hpv : upd H2 p (.lst (cutV (ts.map V.ref) none (some ((i : Nat) : Int)))) p = some (.lst (cutV (ts.map V.ref) none (some ((i : Nat) : Int)))) := upd_same
      generalize upd H2 p (.lst (cutV (ts.map V.ref) none (some ((i : Nat) : Int)))) = H3 at s3 hpv
      refine ⟨_, rfl, _, rfl, _, _, rfl, rfl, _, rfl, l, _, rfl, lq (s3 _ _ hl), fun p2 hp2 => ?_⟩
      have e1 : ((i : Nat) : Int) + 1 = ((i + 1 : Nat) : Int) := by omega
      have s4 := s3.trans (Same.new (o := .lst (cutV (ts.map V.ref) (some (((i : Nat) : Int) + 1)) none)) hp2)
      have hpv4 := Same.new (o := .lst (cutV (ts.map V.ref) (some (((i : Nat) : Int) + 1)) none)) hp2 _ _ hpv
      have er : cutV (ts.map V.ref) none (some ((i : Nat) : Int)) ++ cutV (ts.map V.ref) (some (((i : Nat) : Int) + 1)) none = ((ts.take i ++ ts.drop (i + 1)).map V.ref) := by
        rw [e1, cutV_take, cutV_drop, List.map_append, List.map_take, List.map_drop]
      have hsz : (cutV (ts.map V.ref) none (some ((i : Nat) : Int))).length + (cutV (ts.map V.ref) (some (((i : Nat) : Int) + 1)) none).length ≤ sizeLine := by
        rw [← List.length_append, er, List.length_map, List.length_append, List.length_take, List.length_drop]
        have := sts_len hts
        exact le_sz (by omega)
      refine ⟨p, p2, _, _, rfl, rfl, hpv4, upd_same, hsz, fun p3 hp3 => ?_⟩
      rw [er]
      have s5 := s4.trans (Same.new (o := .lst ((ts.take i ++ ts.drop (i + 1)).map V.ref)) hp3)
      refine ⟨p3, rfl, ⟨_, lq upd_same⟩, ?_⟩
      have hpv5 : upd (upd H3 p2 (.lst (cutV (ts.map V.ref) (some (((i : Nat) : Int) + 1)) none))) p3 (.lst ((ts.take i ++ ts.drop (i + 1)).map V.ref)) p3 = some (.lst ((ts.take i ++ ts.drop (i + 1)).map V.ref)) := upd_same
      generalize upd (upd H3 p2 (.lst (cutV (ts.map V.ref) (some (((i : Nat) : Int) + 1)) none))) p3 (.lst ((ts.take i ++ ts.drop (i + 1)).map V.ref)) = H5 at s5 hpv5
      have hr3 := sts_cut i hts
      refine for_sit (sit_list ((ts.take i ++ ts.drop (i + 1)).map V.ref)) (fun j σ H6 => ∃ (t4 t5 : Option V), σ = [some (.ref l), some (.int (i : Nat)), some (.str (S st.1)), some (Bt st.2), t4, t5] ∧ Same H5 H6 ∧ ∀ sc, sc ∈ (ss.take i ++ ss.drop (i + 1)).take j → sfx sc.1 st.1 = false) ⟨_, _, rfl, .refl _, fun sc h => by simp at h⟩ (fun j σ H6 _ h => ?_) ?_ ?_
      · obtain ⟨_, _, _, s, _⟩ := h
        exact lq (s _ _ hpv5)
      · rintro j x σ H6 hj hx ⟨t4, t5, rfl, s6, hf⟩
        obtain ⟨c, sc, rfl, hsc, hc⟩ := sts_at hr3 hx
        have s56 := s5.trans s6
        have hscm : sc ∈ ss := by
          have := List.mem_of_getElem? hsc
          rcases List.mem_append.mp this with h | h
          · exact List.mem_of_mem_take h
          · exact List.mem_of_mem_drop h
        have h1 := hst st (List.mem_of_getElem? hs)
        have h2 := hst sc hscm
        refine ⟨c, _, rfl, tq (s56 _ _ hc), rfl, _, _, rfl, _, _, rfl, rfl, ?_⟩
        refine ⟨_, rfl, _, rfl, st.1, sc.1, rfl, by omega, by omega, _, rfl, ?_⟩
        cases e : sfx sc.1 st.1 with
        | true =>
          have hna : lawAre ss = false := by
            unfold lawAre
            cases ea : apart ss with
            | false => rfl
            | true =>
              have := apart1_get ss [] ea i st hs sc (by simpa using List.mem_of_getElem? hsc)
              rw [e] at this; cases this
          have := q H6 s56
          rw [hna] at this
          exact this
        | false =>
          refine ⟨_, _, rfl, s6, fun sc' h => ?_⟩
          rw [take_snoc hsc] at h
          rcases List.mem_append.mp h with h | h
          · exact hf sc' h
          · rw [List.mem_singleton.mp h]; exact e
      · rintro σ H6 ⟨t4, t5, rfl, s6, hf⟩
        refine ⟨_, _, _, _, _, rfl, s5.trans s6, fun i' st' hi' hs' sc hsc => ?_⟩
        by_cases hii : i' < i
        · exact hap i' st' hii hs' sc hsc
        · have : i' = i := by omega
          subst this
          rw [hs] at hs'; cases hs'
          rw [List.length_map, sts_len hr3, List.take_length] at hf
          exact hf sc hsc
    · rintro σ H1 ⟨t1, t2, t3, t4, t5, rfl, s1, hap⟩
      rw [List.length_map, sts_len hts] at hap
      have ha : apart ss = true := apart1_of ss [] fun i st hi sc hsc => hap i st (lt_of_get hi) hi sc (by simpa using hsc)
      obtain ⟨b, hb⟩ := hb ha
      have hq : lawAre ss = b := by
        unfold lawAre
        rw [ha, hb]; cases b <;> rfl
      rw [hq] at q
      refine ⟨_, rfl, l, ts, ss, b, rfl, s1 _ _ hl, hts.same s1, hn, hst, hb, fun e H2 x s2 => ⟨rfl, ?_⟩, fun e H2 s2 => ⟨rfl, ?_⟩⟩
      · have := q H2 (s1.trans s2); rw [e] at this; exact this
      · have := q H2 (s1.trans s2); rw [e] at this; exact this
/-! ### what is drawn -/
theorem argN (a : Addr) (c k : Nat) : [V.ref a, V.int ((c : Int) + (k : Int))] = [V.ref a, V.int ((c + k : Nat) : Int)] := by rw [Int.natCast_add]
def sp__law_stuff (K : Fg) (C : Addr) : Sp := fun vs H Q _ => ∃ (a : Addr) (fl : Wd) (m : Nat), vs = [.ref a, .str (S fl), .int m] ∧ BoxA H a ∧ 2 ≤ fl.length ∧ fl.length ≤ 50 ∧ 1 ≤ m ∧ m ≤ 50 ∧ ∀ H' t st, SB a H H' → BoxA H' a → StA H' t st → 1 ≤ st.1.length → st.1.length ≤ m → Q (.ref t) H'
abbrev s__law_stuff : Stmt := top 67
theorem sc__law_stuff : FnScope ["_law_box", "_law_flag", "_law_most", "_law_size", "_law_at"] ["_law_box", "_law_flag", "_law_most"] (defScope s__law_stuff) := ⟨rfl, rfl, rfl, by decide +kernel, rfl, by decide +kernel, by decide +kernel⟩
-- slots: 0 _law_box, 1 _law_flag, 2 _law_most, 3 _law_size, 4 _law_at
theorem ok__law_stuff {P : Program} {w : World} {K : PySem.W.Frag} {mg : Str → Option Value} {base : Heap} {f C : Addr} {fd : FuncData} (F : FnP K "_law_stuff" "_law_stuff" s__law_stuff [] f fd) (T : TX K mg C) (c__law_choose : Cal P w K mg base 1 "_law_choose" ["_law_box", "_law_many"] (sp__law_choose K C)) (c__law_turn : Cal P w K mg base 1 "_law_turn" ["_law_bit"] (sp__law_turn K C)) (c__law_word : Cal P w K mg base 3 "_law_word" ["_law_box", "_law_size"] (sp__law_word K C)) : FnOk P w K mg base CX0 4 f fd ["_law_box", "_law_flag", "_law_most"] (sp__law_stuff K C) := by
  refine FunD.ok (k := 3) F sc__law_stuff (fun vs H Q E h => ?_) (fun cdv A outer s H vs Q E hr h => ?_)
  · obtain ⟨a, fl, m, rfl, _⟩ := h; rfl
  · obtain ⟨a, fl, m, rfl, hb, h2, h50, hm1, hm, q⟩ := h
    refine ⟨_, (PSs.nox (pss_cons (ps_set (i := 3) sc__law_stuff.nd rfl (by first | exact Or.inl rfl | exact Or.inr rfl) (pe_op op_add pe_int (c__law_choose.pe hr (by rfl) (pa_cons (pv 0) (pa_cons (pv 2) pa_nil)))))
      (pss_cons (ps_set (i := 4) sc__law_stuff.nd rfl (by first | exact Or.inl rfl | exact Or.inr rfl) (c__law_choose.pe hr (by rfl) (pa_cons (pv 0) (pa_cons (pe_callB (cln (K := K) rfl) (by rfl) T.n_len (by decide +kernel) (pa_cons (pv 1) pa_nil)) pa_nil))))
      (pss_cons (ps_if (PW.pt (pw_and (pt_cmpR op_gt (c__law_choose.pe hr (by rfl) (pa_cons (pv 0) (pa_cons pe_int pa_nil))) pe_int (nomark _)) (pw_and1 (pt_cmpR op_lt (pe_op op_add (pv 4) (pv 3)) (pe_callB (cln (K := K) rfl) (by rfl) T.n_len (by decide +kernel) (pa_cons (pv 1) pa_nil)) (nomark _))))) (pss_one (ps_ret (pe_tup (pa_cons (pe_slice sl_str (pv 1) (po_some (pv 4)) (po_some (pe_op op_add (pv 4) (pv 3)))) (pa_cons (c__law_turn.pe hr (by rfl) (pa_cons (pe_ix ix_str (pv 1) (pe_op op_add (pv 4) (pv 3)) (fun _ _ => rfl)) pa_nil)) pa_nil))))) pss_nil)
      (pss_one (ps_ret (pe_tup (pa_cons (c__law_word.pe hr (by rfl) (pa_cons (pv 0) (pa_cons (pv 3) pa_nil))) (pa_cons (c__law_word.pe hr (by rfl) (pa_cons (pv 0) (pa_cons pe_int pa_nil))) pa_nil))))))))), ?_⟩
    refine ⟨_, rfl, _, rfl, a, m, rfl, hb, hm1, by omega, fun H1 k1 s1 hb1 hk1 => ⟨_, _, rfl, rfl, ?_⟩⟩
    refine ⟨_, rfl, _, rfl, _, _, rfl, ⟨S_sz (by omega), rfl⟩, a, fl.length, by rw [S_len]; rfl, hb1, by omega, by omega, fun H2 k2 s2 hb2 hk2 => ?_⟩
    refine ⟨_, rfl, a, 3, rfl, hb2, by omega, by omega, fun H3 k3 s3 hb3 hk3 => ⟨_, _, rfl, rfl, _, rfl, ?_⟩⟩
    have s13 := (s1.trans s2).trans s3
    have alt : (∀ H5 (w : Wd), SB a H H5 → BoxA H5 a → w.length = 1 + k1 → ∀ H6 (b : Wd), SB a H H6 → BoxA H6 a → b.length = 1 → ∀ pt, H6 pt = none → Q (.ref pt) (upd H6 pt (.tup [.str (S w), .str (S b)]))) := fun H5 w s5 hb5 hw H6 b s6 hb6 hbl pt hpt => by
      obtain ⟨bb, rfl⟩ : ∃ bb, b = [bb] := by
        match b, hbl with
        | [x], _ => exact ⟨x, rfl⟩
      exact q _ pt (w, bb) (s6.trans (SB.of (.new hpt))) (hb6.same (.new hpt)) upd_same (by show 1 ≤ w.length; omega) (by show w.length ≤ m; omega)
    by_cases hc : (0 : Int) < (k3 : Nat)
    · rw [show decide (((k3 : Nat) : Int) > 0) = true from decide_eq_true hc]
      refine ⟨_, rfl, _, rfl, _, _, rfl, rfl, _, rfl, _, _, rfl, ⟨S_sz (by omega), rfl⟩, _, _, rfl, rfl, _, rfl, ?_⟩
      rw [S_len]
      by_cases hlt : k2 + (1 + k1) < fl.length
      · rw [show decide (((k2 : Nat) : Int) + ((1 : Int) + ((k1 : Nat) : Int)) < ((fl.length : Nat) : Int)) = true from decide_eq_true (by omega)]
        obtain ⟨b, hb'⟩ : ∃ b, fl[k2 + (1 + k1)]? = some b := ⟨fl[k2 + (1 + k1)], by simp [hlt]⟩
        have ei : ((k2 : Nat) : Int) + ((1 : Int) + ((k1 : Nat) : Int)) = ((k2 + (1 + k1) : Nat) : Int) := by omega
        refine ⟨_, rfl, _, rfl, _, rfl, _, rfl, _, rfl, _, _, rfl, rfl, _, rfl, _, rfl, S_sz (by omega), ?_⟩
        refine ⟨_, rfl, _, rfl, _, rfl, _, _, rfl, rfl, _, _, _, rfl, rfl, S_sz (by omega), by rw [ei]; exact atI_nat (S_at hb'), b, by rw [S_one]; rfl, ?_⟩
        refine ⟨by show 2 ≤ sizeLine; decide, fun pt hpt => ?_⟩
        have ec : cutS (S fl) (some ((k2 : Nat) : Int)) (some (((k2 : Nat) : Int) + ((1 : Int) + ((k1 : Nat) : Int)))) = S ((fl.drop k2).take (1 + k1)) := by
          rw [ei, S_cut2 fl k2 (k2 + (1 + k1)) (by omega) (by omega), show k2 + (1 + k1) - k2 = 1 + k1 by omega]
        have hl : ((fl.drop k2).take (1 + k1)).length = 1 + k1 := by rw [List.length_take, List.length_drop]; omega
        refine q _ pt ((fl.drop k2).take (1 + k1), !b) (s13.trans (SB.of (.new hpt))) (hb3.same (.new hpt)) ?_ (by show 1 ≤ ((fl.drop k2).take (1 + k1)).length; rw [hl]; omega) (by show ((fl.drop k2).take (1 + k1)).length ≤ m; rw [hl]; omega)
        show upd H3 pt _ pt = _
        rw [upd_same]
        show some (HO.tup [V.str (cutS (S fl) (some ((k2 : Nat) : Int)) (some (((k2 : Nat) : Int) + ((1 : Int) + ((k1 : Nat) : Int))))), Bt (!b)]) = _
        rw [ec]
      · rw [show decide (((k2 : Nat) : Int) + ((1 : Int) + ((k1 : Nat) : Int)) < ((fl.length : Nat) : Int)) = false from decide_eq_false (by omega)]
        refine ⟨_, rfl, _, rfl, a, 1 + k1, argN a 1 k1, hb3, by omega, fun H5 w s5 hb5 hw => ⟨_, rfl, a, 1, rfl, hb5, by omega, fun H6 b s6 hb6 hbl => ⟨by show 2 ≤ sizeLine; decide, fun pt hpt => alt H5 w (s13.trans s5) hb5 hw H6 b ((s13.trans s5).trans s6) hb6 hbl pt hpt⟩⟩⟩
    · rw [show decide (((k3 : Nat) : Int) > 0) = false from decide_eq_false hc]
      refine ⟨_, rfl, _, rfl, a, 1 + k1, argN a 1 k1, hb3, by omega, fun H5 w s5 hb5 hw => ⟨_, rfl, a, 1, rfl, hb5, by omega, fun H6 b s6 hb6 hbl => ⟨by show 2 ≤ sizeLine; decide, fun pt hpt => alt H5 w (s13.trans s5) hb5 hw H6 b ((s13.trans s5).trans s6) hb6 hbl pt hpt⟩⟩⟩
/-- lists of stuffs that are drawn -/
def Dom (ss : List Stf) : Prop := ss.length ≤ 2 ∧ ∀ st ∈ ss, 1 ≤ st.1.length ∧ st.1.length ≤ 3
def DomOk : Prop := ∀ ss, Dom ss → apart ss = true → ∃ b, ltl ss 40 [[]] 0 = some b
def sp__law_rule (K : Fg) (C : Addr) : Sp := fun vs H Q _ => ∃ (a : Addr), vs = [.ref a, .int 5, .int 3] ∧ BoxA H a ∧ DomOk ∧ ∀ H' t l ts fl ss, SB a H H' → BoxA H' a → H' t = some (.tup [.str (S fl), .ref l]) → H' l = some (.lst (ts.map V.ref)) → l ≠ a → StsA H' ts ss → Dom ss → lawAre ss = true → 2 ≤ fl.length → fl.length ≤ 5 → Q (.ref t) H'
theorem StsA.sb {a : Addr} {H H' : Hp} {ts : List Addr} {ss : List Stf} (h : StsA H ts ss) (hb : BoxA H a) (s : SB a H H') : StsA H' ts ss := Paired.mapP h fun _ _ e => s.at (hb.ne e (fun _ z => by cases z)) e
theorem law_nil : lawAre [] = true := by decide +kernel
theorem S_01110 : ("01110" : Str) = S [false, true, true, true, false] := by decide +kernel
abbrev s__law_rule : Stmt := top 68
theorem sc__law_rule : FnScope ["_law_box", "_law_top", "_law_most", "_law_flag", "_law_turn_here", "_law_stuffs", "_law_more"] ["_law_box", "_law_top", "_law_most"] (defScope s__law_rule) := ⟨rfl, rfl, rfl, by decide +kernel, rfl, by decide +kernel, by decide +kernel⟩
-- slots: 0 _law_box, 1 _law_top, 2 _law_most, 3 _law_flag, 4 _law_turn_here, 5 _law_stuffs, 6 _law_more
theorem ok__law_rule {P : Program} {w : World} {K : PySem.W.Frag} {mg : Str → Option Value} {base : Heap} {f C : Addr} {fd : FuncData} (F : FnP K "_law_rule" "_law_rule" s__law_rule [] f fd) (T : TX K mg C) (c__law_are_stuffs : Cal P w K mg base 5 "_law_are_stuffs" ["_law_stuffs"] (sp__law_are_stuffs K C)) (c__law_choose : Cal P w K mg base 1 "_law_choose" ["_law_box", "_law_many"] (sp__law_choose K C)) (c__law_one_of : Cal P w K mg base 2 "_law_one_of" ["_law_box", "_law_some"] (sp__law_one_of K C)) (c__law_stuff : Cal P w K mg base 4 "_law_stuff" ["_law_box", "_law_flag", "_law_most"] (sp__law_stuff K C)) (c__law_word : Cal P w K mg base 3 "_law_word" ["_law_box", "_law_size"] (sp__law_word K C)) : FnOk P w K mg base CX0 6 f fd ["_law_box", "_law_top", "_law_most"] (sp__law_rule K C) := by
  refine FunD.ok (k := 5) F sc__law_rule (fun vs H Q E h => ?_) (fun cdv A outer s H vs Q E hr h => ?_)
  · obtain ⟨a, rfl, _⟩ := h; rfl
  · obtain ⟨a, rfl, hb, hD, q⟩ := h
    refine ⟨_, (PSs.nox (pss_cons (ps_set (i := 3) sc__law_rule.nd rfl (by first | exact Or.inl rfl | exact Or.inr rfl) (c__law_word.pe hr (by rfl) (pa_cons (pv 0) (pa_cons (pe_op op_add pe_int (c__law_choose.pe hr (by rfl) (pa_cons (pv 0) (pa_cons (pe_op op_sub (pv 1) pe_int) pa_nil)))) pa_nil))))
      (pss_cons (ps_set (i := 3) sc__law_rule.nd rfl (by first | exact Or.inl rfl | exact Or.inr rfl) (pe_ifExp (PW.pt (pw_and (pt_cmpR op_gt (pv 1) pe_int (nomark _)) (pw_and1 (pt_cmpR op_eq (c__law_choose.pe hr (by rfl) (pa_cons (pv 0) (pa_cons pe_int pa_nil))) pe_int (nomark _))))) pe_str (pv 3)))
      (pss_cons (ps_for PassesOwn.never rfl (pi_range1 rfl T.n_range (pa_cons pe_int pa_nil)) (pg_name (i := 4) sc__law_rule.nd rfl (by first | exact Or.inl rfl | exact Or.inr rfl)) (pss_cons (ps_setLc (own := [("_law_more", 6)]) (i := 5) rfl sc__law_rule.nd rfl rfl (sw_true rfl rfl rfl (by decide +kernel)) (pi_range1 rfl T.n_range (pa_cons (c__law_one_of.pe hr (by rfl) (pa_cons (pv 0) (pa_cons (pe_lst (pa_cons pe_int (pa_cons pe_int (pa_cons pe_int (pa_cons pe_int (pa_cons pe_int (pa_cons pe_int pa_nil))))))) pa_nil))) pa_nil)) (blkOk_by (own := [("_law_more", 6)]) (by kernel_rfl)) (fun _ _ _ _ _ => (pg_name (i := 6) sc__law_rule.nd rfl (by first | exact Or.inl rfl | exact Or.inr rfl))) (fun _ _ _ _ _ => pts_nil) (fun _ _ _ _ _ => (c__law_stuff.pe hr (by rfl) (pa_cons (pv 0) (pa_cons (pv 3) (pa_cons (pv 2) pa_nil))))))
      (pss_one (ps_if (pt_val (c__law_are_stuffs.pe hr (by rfl) (pa_cons (pv 5) pa_nil))) (pss_one (ps_ret (pe_tup (pa_cons (pv 3) (pa_cons (pv 5) pa_nil))))) pss_nil))))
      (pss_one (ps_ret (pe_tup (pa_cons (pv 3) (pa_cons (pe_lst pa_nil) pa_nil))))))))), ?_⟩
    refine ⟨_, rfl, _, rfl, _, rfl, _, _, rfl, rfl, a, 4, rfl, hb, by omega, by omega, fun H1 k1 s1 hb1 hk1 => ⟨_, _, rfl, rfl, ?_⟩⟩
    refine ⟨a, 2 + k1, argN a 2 k1, hb1, by omega, fun H2 fl0 s2 hb2 hfl0 => ?_⟩
    refine ⟨_, rfl, _, _, rfl, rfl, _, rfl, ?_⟩
    rw [show decide ((5 : Int) > 4) = true from by decide]
    refine ⟨_, rfl, a, 4, rfl, hb2, by omega, by omega, fun H3 k3 s3 hb3 hk3 => ⟨rfl, _, rfl, ?_⟩⟩
    have s13 := (s1.trans s2).trans s3
    have hD0 := hD
    clear hD
    by_cases hc : V.int (k3 : Nat) = V.int 0
    · rw [decide_eq_true hc, S_01110]
      have hfl2 : 2 ≤ [false, true, true, true, false].length := by decide
      have hfl5 : [false, true, true, true, false].length ≤ 5 := by decide
      generalize [false, true, true, true, false] = fl at hfl2 hfl5
      refine ⟨(8 : Int), rfl, by decide, by decide, ?_⟩
      refine for_sit (sit_range 0 8) (fun i σ H' => ∃ (t4 t5 t6 : Option V), σ = [some (.ref a), some (.int 5), some (.int 3), some (.str (S fl)), t4, t5, t6] ∧ SB a H H' ∧ BoxA H' a) ⟨_, _, _, rfl, s13, hb3⟩ (fun _ _ _ _ _ => trivial) ?_ ?_
      · rintro i x σ H4 hi rfl ⟨t4, t5, t6, rfl, s4, hb4⟩
        refine ⟨_, rfl, by show 6 ≤ sizeLine; decide, fun l0 hl0 => ?_⟩
        have hne0 : l0 ≠ a := fun z => by obtain ⟨x, y, hx, _⟩ := hb4; rw [z, hx] at hl0; cases hl0
        have sN : Same H4 (upd H4 l0 (.lst [.int 0, .int 1, .int 1, .int 1, .int 2, .int 2])) := .new hl0
        refine ⟨a, l0, _, rfl, hb4.same sN, upd_same, hne0, by simp, by simp, fun H5 x s5 hb5 hx => ?_⟩
        obtain ⟨n, hn2, rfl⟩ : ∃ n : Nat, n ≤ 2 ∧ x = .int n := by
          simp only [List.mem_cons, List.not_mem_nil, or_false] at hx
          rcases hx with rfl | rfl | rfl | rfl | rfl | rfl
          · exact ⟨0, by omega, rfl⟩
          · exact ⟨1, by omega, rfl⟩
          · exact ⟨1, by omega, rfl⟩
          · exact ⟨1, by omega, rfl⟩
          · exact ⟨2, by omega, rfl⟩
          · exact ⟨2, by omega, rfl⟩
        have s45 : SB a H H5 := (s4.trans (SB.of sN)).trans s5
        refine ⟨(n : Int), rfl, by omega, by omega, fun D hD => ?_⟩
        have hDa : D ≠ a := fun z => by obtain ⟨x, y, hx, _⟩ := hb5; rw [z, hx] at hD; cases hD
        refine lc_sit (sit_range 0 n) (fun _ _ s h => trivial) hD (fun i acc H' => SB a H5 H' ∧ BoxA H' a ∧ ∃ (ts : List Addr) (ss : List Stf), acc = ts.map V.ref ∧ StsA H' ts ss ∧ ss.length = i ∧ ∀ st ∈ ss, 1 ≤ st.1.length ∧ st.1.length ≤ 3) ⟨SB.of (.refl _), hb5, [], [], rfl, .nil, rfl, by simp⟩ (fun _ _ _ _ _ => trivial) ?_ ?_
        · rintro i x acc H6 hi6 rfl hD6 ⟨s6, hb6, ts, ss, rfl, hts, hssl, hss⟩ Nx nx
          have hi7 : i < n := hi6
          have hb6' := hb6.same off_same
          have hts6 : StsA H6 ts ss := hts.same off_same
          refine ⟨rfl, ?_⟩
          refine ⟨_, rfl, _, rfl, _, rfl, a, fl, 3, rfl, hb6', hfl2, by omega, by omega, by omega, fun H7 t st s7 hb7 ht h1 h3 => ?_⟩
          have hD7 : H7 D = some (.lst (ts.map V.ref)) := s7.at hDa hD6
          refine ⟨_, hD7, by rw [List.length_map, sts_len hts]; exact lt_sz (by omega), nx _ _ upd_same ⟨?_, ?_, ts ++ [t], ss ++ [st], by rw [List.map_append]; rfl, ?_, by simp [hssl], ?_⟩⟩
          · rw [off_upd]; exact s6.offD s7
          · rw [off_upd]; exact hb7.offD (Ne.symm hDa)
          · rw [off_upd]
            exact paired_snoc (Paired.mapP (hts6.sb hb6' s7) fun _ _ e => off_some hD7 e (by intro q; cases q)) (off_some hD7 ht (by intro q; cases q))
          · intro st' h
            rcases List.mem_append.mp h with h | h
            · exact hss st' h
            · rw [List.mem_singleton.mp h]; exact ⟨h1, h3⟩
        · rintro acc H6 hD6 ⟨s6, hb6, ts, ss, rfl, hts, hssl, hss⟩
          have hb6' := hb6.same off_same
          have hts6 : StsA H6 ts ss := hts.same off_same
          have s6' : SB a H H6 := s45.trans (s6.trans (SB.of off_same))
          have hdom : Dom ss := ⟨by omega, hss⟩
          refine ⟨_, rfl, D, ts, ss, rfl, hD6, hts6, by omega, fun st h => by have := hss st h; omega, fun ha => hD0 ss hdom ha, fun H7 s7 => ⟨_, rfl, ?_⟩⟩
          have hb7 := hb6'.same s7
          have s7' := s6'.trans (SB.of s7)
          cases el : lawAre ss with
          | true =>
            refine ⟨_, rfl, _, rfl, by show 2 ≤ sizeLine; decide, fun pt hpt => ?_⟩
            exact q _ pt D ts fl ss (s7'.trans (SB.of (.new hpt))) (hb7.same (.new hpt)) upd_same (Same.new hpt _ _ (s7 _ _ hD6)) hDa ((hts6.same s7).same (.new hpt)) hdom el hfl2 hfl5
          | false => exact ⟨_, _, _, rfl, s7', hb7⟩
      · rintro σ H4 ⟨t4, t5, t6, rfl, s4, hb4⟩
        refine ⟨_, rfl, by show 0 ≤ sizeLine; exact Nat.zero_le _, fun pl hpl => ⟨by show 2 ≤ sizeLine; decide, fun pt hpt => ?_⟩⟩
        have hne0 : pl ≠ a := fun z => by obtain ⟨x, y, hx, _⟩ := hb4; rw [z, hx] at hpl; cases hpl
        have sN := (Same.new (o := .lst []) hpl).trans (.new (o := .tup [.str (S fl), .ref pl]) hpt)
        exact q _ pt pl [] fl [] (s4.trans (SB.of sN)) (hb4.same sN) upd_same (Same.new hpt _ _ upd_same) hne0 .nil ⟨by simp, by simp⟩ law_nil hfl2 hfl5
    · rw [decide_eq_false hc]
      have hfl2 : 2 ≤ fl0.length := by omega
      have hfl5 : fl0.length ≤ 5 := by omega
      refine ⟨_, rfl, (8 : Int), rfl, by decide, by decide, ?_⟩
      refine for_sit (sit_range 0 8) (fun i σ H' => ∃ (t4 t5 t6 : Option V), σ = [some (.ref a), some (.int 5), some (.int 3), some (.str (S fl0)), t4, t5, t6] ∧ SB a H H' ∧ BoxA H' a) ⟨_, _, _, rfl, s13, hb3⟩ (fun _ _ _ _ _ => trivial) ?_ ?_
      · rintro i x σ H4 hi rfl ⟨t4, t5, t6, rfl, s4, hb4⟩
        refine ⟨_, rfl, by show 6 ≤ sizeLine; decide, fun l0 hl0 => ?_⟩
        have hne0 : l0 ≠ a := fun z => by obtain ⟨x, y, hx, _⟩ := hb4; rw [z, hx] at hl0; cases hl0
        have sN : Same H4 (upd H4 l0 (.lst [.int 0, .int 1, .int 1, .int 1, .int 2, .int 2])) := .new hl0
        refine ⟨a, l0, _, rfl, hb4.same sN, upd_same, hne0, by simp, by simp, fun H5 x s5 hb5 hx => ?_⟩
        obtain ⟨n, hn2, rfl⟩ : ∃ n : Nat, n ≤ 2 ∧ x = .int n := by
          simp only [List.mem_cons, List.not_mem_nil, or_false] at hx
          rcases hx with rfl | rfl | rfl | rfl | rfl | rfl
          · exact ⟨0, by omega, rfl⟩
          · exact ⟨1, by omega, rfl⟩
          · exact ⟨1, by omega, rfl⟩
          · exact ⟨1, by omega, rfl⟩
          · exact ⟨2, by omega, rfl⟩
          · exact ⟨2, by omega, rfl⟩
        have s45 : SB a H H5 := (s4.trans (SB.of sN)).trans s5
        refine ⟨(n : Int), rfl, by omega, by omega, fun D hD => ?_⟩
        have hDa : D ≠ a := fun z => by obtain ⟨x, y, hx, _⟩ := hb5; rw [z, hx] at hD; cases hD
        refine lc_sit (sit_range 0 n) (fun _ _ s h => trivial) hD (fun i acc H' => SB a H5 H' ∧ BoxA H' a ∧ ∃ (ts : List Addr) (ss : List Stf), acc = ts.map V.ref ∧ StsA H' ts ss ∧ ss.length = i ∧ ∀ st ∈ ss, 1 ≤ st.1.length ∧ st.1.length ≤ 3) ⟨SB.of (.refl _), hb5, [], [], rfl, .nil, rfl, by simp⟩ (fun _ _ _ _ _ => trivial) ?_ ?_
        · rintro i x acc H6 hi6 rfl hD6 ⟨s6, hb6, ts, ss, rfl, hts, hssl, hss⟩ Nx nx
          have hi7 : i < n := hi6
          have hb6' := hb6.same off_same
          have hts6 : StsA H6 ts ss := hts.same off_same
          refine ⟨rfl, ?_⟩
          refine ⟨_, rfl, _, rfl, _, rfl, a, fl0, 3, rfl, hb6', hfl2, by omega, by omega, by omega, fun H7 t st s7 hb7 ht h1 h3 => ?_⟩
          have hD7 : H7 D = some (.lst (ts.map V.ref)) := s7.at hDa hD6
          refine ⟨_, hD7, by rw [List.length_map, sts_len hts]; exact lt_sz (by omega), nx _ _ upd_same ⟨?_, ?_, ts ++ [t], ss ++ [st], by rw [List.map_append]; rfl, ?_, by simp [hssl], ?_⟩⟩
          · rw [off_upd]; exact s6.offD s7
          · rw [off_upd]; exact hb7.offD (Ne.symm hDa)
          · rw [off_upd]
            exact paired_snoc (Paired.mapP (hts6.sb hb6' s7) fun _ _ e => off_some hD7 e (by intro q; cases q)) (off_some hD7 ht (by intro q; cases q))
          · intro st' h
            rcases List.mem_append.mp h with h | h
            · exact hss st' h
            · rw [List.mem_singleton.mp h]; exact ⟨h1, h3⟩
        · rintro acc H6 hD6 ⟨s6, hb6, ts, ss, rfl, hts, hssl, hss⟩
          have hb6' := hb6.same off_same
          have hts6 : StsA H6 ts ss := hts.same off_same
          have s6' : SB a H H6 := s45.trans (s6.trans (SB.of off_same))
          have hdom : Dom ss := ⟨by omega, hss⟩
          refine ⟨_, rfl, D, ts, ss, rfl, hD6, hts6, by omega, fun st h => by have := hss st h; omega, fun ha => hD0 ss hdom ha, fun H7 s7 => ⟨_, rfl, ?_⟩⟩
          have hb7 := hb6'.same s7
          have s7' := s6'.trans (SB.of s7)
          cases el : lawAre ss with
          | true =>
            refine ⟨_, rfl, _, rfl, by show 2 ≤ sizeLine; decide, fun pt hpt => ?_⟩
            exact q _ pt D ts fl0 ss (s7'.trans (SB.of (.new hpt))) (hb7.same (.new hpt)) upd_same (Same.new hpt _ _ (s7 _ _ hD6)) hDa ((hts6.same s7).same (.new hpt)) hdom el hfl2 hfl5
          | false => exact ⟨_, _, _, rfl, s7', hb7⟩
      · rintro σ H4 ⟨t4, t5, t6, rfl, s4, hb4⟩
        refine ⟨_, rfl, by show 0 ≤ sizeLine; exact Nat.zero_le _, fun pl hpl => ⟨by show 2 ≤ sizeLine; decide, fun pt hpt => ?_⟩⟩
        have hne0 : pl ≠ a := fun z => by obtain ⟨x, y, hx, _⟩ := hb4; rw [z, hx] at hpl; cases hpl
        have sN := (Same.new (o := .lst []) hpl).trans (.new (o := .tup [.str (S fl0), .ref pl]) hpt)
        exact q _ pt pl [] fl0 [] (s4.trans (SB.of sN)) (hb4.same sN) upd_same (Same.new hpt _ _ upd_same) hne0 .nil ⟨by simp, by simp⟩ law_nil hfl2 hfl5
end UF
set_option maxHeartbeats 4000000
namespace UF
open PySem PySem.Spec PyProof.Rows L2
/-! ### pieces for the law -/
def rSlN (K : PySem.W.Frag) : V → Option Int → Option Int → Hp → VK → Prop := fun x lo hi H Q => ∃ a xs, x = .ref a ∧ H a = some (.tup xs) ∧ ∀ p H', Same H H' → H' p = some (.tup (cutV xs lo hi)) → Q (.ref p) H'
theorem sltN {X : Cx} {K : PySem.W.Frag} (eK : X.K = K) : SlR X (rSlN K) := by
  subst eK
  intro pins s σ H x v vl vu lo hi sl Q I rx hs pl pu h
  refine sl_tupA pins s σ H x v vl vu lo hi sl Q I rx hs pl pu ?_
  obtain ⟨a, xs, rfl, ha, q⟩ := h
  refine ⟨a, xs, rfl, tq ha, fun e => q a H (.refl _) ?_, fun _ p hp => q p _ (.new hp) upd_same⟩
  have : cutV xs lo hi = xs := by
    unfold cutV
    rw [e.1, e.2, List.drop_zero, Nat.sub_zero, List.take_length]
  rw [this]; exact ha
theorem inV_strs (x : Str) : ∀ l : List Str, inV (.str x) (l.map V.str) = decide (x ∈ l)
  | [] => rfl
  | y :: r => by
    show ((y == x) || inV (.str x) (r.map V.str)) = _
    rw [inV_strs x r, Bool.eq_iff_iff, Bool.or_eq_true, beq_iff_eq, decide_eq_true_eq, decide_eq_true_eq, List.mem_cons]
    exact ⟨fun h => h.elim (fun e => .inl e.symm) .inr, fun h => h.elim (fun e => .inl e.symm) .inr⟩
theorem flat_strs (l : List Str) : (l.map V.str).all flatV = true := by
  rw [List.all_eq_true]
  intro v hv
  obtain ⟨w, _, rfl⟩ := List.mem_map.mp hv
  rfl
theorem dp_strs {K : PySem.W.Frag} {H : Hp} : ∀ l : List Str, DpAll K H (l.map V.str) (l.map .str)
  | [] => .nil
  | b :: bs => .cons (.str _) (dp_strs bs)
theorem strOk_app {x y : Str} (h1 : PyData.strOk x = true) (h2 : PyData.strOk y = true) : PyData.strOk (x ++ y) = true := by
  unfold PyData.strOk at *
  rw [← Array.all_toList] at *
  rw [show (x ++ y).cps.toList = TL.tl x ++ TL.tl y from TL.tl_append x y, List.all_append]
  rw [show (TL.tl x).all _ = true from h1, show (TL.tl y).all _ = true from h2]; rfl
theorem shaped_strs {l : List Str} (h : ∀ x ∈ l, PyData.strOk x = true) : SeqAt.shaped (.tuple (l.map .str)) = true := by
  have h1 : ∀ l : List Str, (∀ x ∈ l, PyData.strOk x = true) → PyData.canLayAll0 (l.map .str) = true := fun l => by
    induction l with
    | nil => intro _; simp [PyData.canLayAll0]
    | cons b l ih => intro h; simp [PyData.canLayAll0, PyData.canLay0, h b (List.mem_cons_self ..), ih fun x hx => h x (List.mem_cons_of_mem _ hx)]
  have h2 : ∀ l : List Str, PyData.depthAll (l.map .str) = 0 := fun l => by
    induction l with
    | nil => simp [PyData.depthAll]
    | cons b l ih => simp [PyData.depthAll, PyData.depth, ih]
  simp [SeqAt.shaped, PyData.canLay0, h1 l h, PyData.depth, h2]
theorem strOk_rtx {fl : Wd} {st : Stf} (h1 : fl.length ≤ 100) (h2 : st.1.length ≤ 100) : PyData.strOk (rtx fl [st]) = true := by
  have e : rtx fl [st] = (("flag" : Str) ++ (" " ++ (S fl ++ (" " ++ (("put" : Str) ++ (" " ++ (S st.1 ++ (":" ++ S [st.2])))))))) := by
    rw [rtx_one, TL.join_eq]
    refine TL.ext_tl ?_
    rw [TL.tl_join]
    unfold parts stx
    simp only [List.map_cons, List.map_nil, TL.joinL, TL.tl_append, List.append_assoc]
  rw [e]
  have a1 : PyData.strOk ("flag" : Str) = true := by decide +kernel
  have a2 : PyData.strOk (" " : Str) = true := by decide +kernel
  have a3 : PyData.strOk ("put" : Str) = true := by decide +kernel
  have a4 : PyData.strOk (":" : Str) = true := by decide +kernel
  exact strOk_app a1 (strOk_app a2 (strOk_app (strOk_S (by omega)) (strOk_app a2 (strOk_app a3 (strOk_app a2 (strOk_app (strOk_S (by omega)) (strOk_app a4 (strOk_S (by simp)))))))))
theorem eqv_nil (l : List Str) : PyData.eqv (.tuple (l.map .str)) (.tuple []) = l.isEmpty := by
  cases l <;> rfl
/-! ### the least rate -/
def leR (a b : Int × Int) : Prop := a.1 * b.2 ≤ b.1 * a.2
theorem leR_trans {a b c : Int × Int} (hb : 0 < b.2) (ha : 0 < a.2) (hc : 0 < c.2) (h1 : leR a b) (h2 : leR b c) : leR a c := by
  unfold leR at *
  have e1 := Int.mul_le_mul_of_nonneg_right h1 (Int.le_of_lt hc)
  have e2 := Int.mul_le_mul_of_nonneg_right h2 (Int.le_of_lt ha)
  have e3 : (a.1 * c.2) * b.2 ≤ (c.1 * a.2) * b.2 := by
    have q1 : (a.1 * c.2) * b.2 = a.1 * b.2 * c.2 := by rw [Int.mul_assoc, Int.mul_comm c.2, ← Int.mul_assoc]
    have q2 : (c.1 * a.2) * b.2 = c.1 * b.2 * a.2 := by rw [Int.mul_assoc, Int.mul_comm a.2, ← Int.mul_assoc]
    have q3 : b.1 * a.2 * c.2 = b.1 * c.2 * a.2 := by rw [Int.mul_assoc, Int.mul_comm a.2, ← Int.mul_assoc]
    rw [q1, q2]; rw [q3] at e1
    exact Int.le_trans e1 e2
  exact Int.le_of_mul_le_mul_right e3 hb
theorem least_ex (f : Stf → Int × Int) : ∀ {l : List Stf}, l ≠ [] → (∀ s ∈ l, 0 < (f s).2) → ∃ s ∈ l, ∀ s' ∈ l, leR (f s) (f s')
  | [], h, _ => absurd rfl h
  | [a], _, _ => ⟨a, List.mem_cons_self .., fun s' h => by rw [List.mem_singleton.mp h]; exact Int.le_refl _⟩
  | a :: b :: r, _, hp => by
    obtain ⟨s, hs, hm⟩ := least_ex f (l := b :: r) (by simp) fun s h => hp s (List.mem_cons_of_mem _ h)
    have hpa := hp a (List.mem_cons_self ..)
    have hps := hp s (List.mem_cons_of_mem _ hs)
    by_cases h : leR (f a) (f s)
    · refine ⟨a, List.mem_cons_self .., fun s' hs' => ?_⟩
      rcases List.mem_cons.mp hs' with rfl | hs'
      · exact Int.le_refl _
      · exact leR_trans hps hpa (hp s' (List.mem_cons_of_mem _ hs')) h (hm s' hs')
    · refine ⟨s, List.mem_cons_of_mem _ hs, fun s' hs' => ?_⟩
      rcases List.mem_cons.mp hs' with rfl | hs'
      · unfold leR at *; omega
      · exact hm s' hs'
theorem isLow_iff {l : List Stf} {s : Stf} : isLow l s = true ↔ ∀ s' ∈ l, leR (rtS s) (rtS s') := by
  unfold isLow leR
  rw [Bool.not_eq_true', List.any_eq_false]
  constructor
  · intro h s' hs'
    have := h s' hs'
    rw [decide_eq_true_eq] at this
    omega
  · intro h s' hs'
    have := h s' hs'
    rw [decide_eq_true_eq]
    omega
theorem chp_empty {fl : Wd} (hp : ∀ s ∈ vst, 0 < (rtS s).2) : chp fl = [] ↔ vcl fl = [] := by
  constructor
  · intro h
    cases e : vcl fl with
    | nil => rfl
    | cons a r =>
      obtain ⟨s, hs, hm⟩ := least_ex rtS (l := vcl fl) (by rw [e]; simp) fun s h => hp s (List.mem_filter.mp h).1
      have : s ∈ chp fl := List.mem_filter.mpr ⟨hs, isLow_iff.mpr hm⟩
      rw [h] at this; cases this
  · intro h; unfold chp; rw [h]; rfl
theorem with_cont {P : Hp → Prop} {G : Prop} (R : Hp → Prop) (g : (∀ H, P H → R H) → G) (c : ∀ H, P H → R H) : G := g c
theorem eqv_pairs (a b : Int × Int) : PyData.eqv (.tuple [.int a.1, .int a.2]) (.tuple [.int b.1, .int b.2]) = decide (a = b) := by
  by_cases h : a = b
  · subst h; rw [decide_eq_true rfl]; exact eqv_pair _ _
  · rw [decide_eq_false h]
    have e : PyData.eqv (.tuple [.int a.1, .int a.2]) (.tuple [.int b.1, .int b.2]) = (a.1 == b.1 && (a.2 == b.2 && true)) := rfl
    rw [e]
    rw [Bool.and_eq_false_iff]
    by_cases h1 : a.1 = b.1
    · have h2 : ¬ a.2 = b.2 := fun h2 => h (Prod.ext h1 h2)
      right; simp [h2]
    · left; simp [h1]
theorem perm_empty {l m : List Str} (h : l.Perm m) : l.isEmpty = m.isEmpty := by
  have := h.length_eq
  cases l <;> cases m <;> simp at this ⊢
end UF
set_option maxHeartbeats 8000000
namespace UF
open PySem PySem.Spec PyProof.Rows L2
structure RFacts (ss : List Stf) : Prop where
  edl : edl ss (lng ss) 40 [[]] 0 = some false
  gd : Gd ss
  rate : ∃ p q : Nat, rt (mvsOf ss) = ((p : Int), (q : Int)) ∧ 0 < q ∧ q ≤ 100 ∧ p ≤ 10000
  mov : Mov ss (mvsOf ss)
  keep : ∀ p q : Nat, rt (mvsOf ss) = ((p : Int), (q : Int)) → Keeps (mvsOf ss) p q (hts (mvsOf ss) p q (mvsOf ss).length (h0 (mvsOf ss)))
  bod : ∀ bits : Wd, bits.length ≤ 100 → ∃ x, bod ss [] bits = some x ∧ x.length ≤ bits.length + lf (mvsOf ss) bits.length []
  dear : ∀ n, n ≤ 50 → (dr (mvsOf ss) n []).length = n ∧ ∃ x, UF.bod ss [] (dr (mvsOf ss) n []) = some x ∧ x.length = n + lf (mvsOf ss) n []
structure Facts : Prop where
  dom : DomOk
  rule : ∀ ss, Dom ss → lawAre ss = true → RFacts (srt ss)
  sgl : ∀ st ∈ vst, lawAre [st] = true
  cln : ∀ fl : Wd, 2 ≤ fl.length → fl.length ≤ 5 → CleanTot fl
  req : ∀ a ∈ vst, ∀ b ∈ vst, (rtS a).1 * (rtS b).2 = (rtS b).1 * (rtS a).2 → rtS a = rtS b
theorem Dom.one {st : Stf} (h : st ∈ vst) : Dom [st] := ⟨by simp, fun s hs => by
  rw [List.mem_singleton.mp hs]
  have := sgl_len (vst_sub h)
  omega⟩
theorem Facts.one (F : Facts) {st : Stf} (h : st ∈ vst) : RFacts [st] := F.rule [st] (Dom.one h) (F.sgl st h)
theorem Dom.shr {fl : Wd} {ss : List Stf} (h : Dom ss) (hf : fl.length ≤ 100) : Shr fl ss := ⟨hf, by have := h.1; omega, fun st hs => by have := h.2 st hs; omega⟩
/-- what is kept through a turn of the law -/
structure Pk (C : Addr) (H : Hp) (a t l x : Addr) (ts : List Addr) (fl : Wd) (ss : List Stf) (H' : Hp) : Prop where
  s : Same H H'
  b : BoxA H' a
  t : H' t = some (.tup [.str (S fl), .ref l])
  l : H' l = some (.lst (ts.map V.ref))
  st : StsA H' ts ss
  r : RuleAt C H' x fl (srt ss)
theorem Pk.same {C : Addr} {H : Hp} {a t l x : Addr} {ts : List Addr} {fl : Wd} {ss : List Stf} {H1 H2 : Hp} (p : Pk C H a t l x ts fl ss H1) (s : Same H1 H2) : Pk C H a t l x ts fl ss H2 :=
  ⟨p.s.trans s, p.b.same s, s _ _ p.t, s _ _ p.l, p.st.same s, p.r.same s⟩
theorem Pk.sb {C : Addr} {H : Hp} {a t l x : Addr} {ts : List Addr} {fl : Wd} {ss : List Stf} {H1 H2 : Hp} (p : Pk C H a t l x ts fl ss H1) (h : H a = none) (hl : l ≠ a) (s : SB a H1 H2) (b : BoxA H2 a) : Pk C H a t l x ts fl ss H2 :=
  ⟨s.same p.s h, b, s.at (p.b.ne p.t fun _ z => by cases z) p.t, s.at hl p.l, p.st.sb p.b s, p.r.sb p.b s⟩
theorem PapA.same {H H' : Hp} {a : Addr} {M : Mvs} {q : Nat} {h : AL} (p : PapA H a M q h) (s : Same H H') : PapA H' a M q h := by
  obtain ⟨ks, es, h1, h2, h3⟩ := p
  exact ⟨ks, es, h1, s _ _ h2, Paired.mapP h3 fun _ _ ⟨b, g1, g2⟩ => ⟨b, s _ _ g1, s _ _ g2⟩⟩
def sp_law (K : Fg) (C : Addr) : Sp := fun vs H Q _ => ∃ (sl : Addr) (ns : List Int), vs = [.ref sl] ∧ SqL K H sl (ns.map V.int) ∧ ns.length ≤ 1000 ∧ Facts ∧ ∀ H', Q (.bl true) H'
abbrev s_law : Stmt := top 69
theorem sc_law : FnScope ["_law_script", "_law_k", "_law_box", "_law_turn_here", "_law_rule_here", "_law_row", "_law_most", "_law_bits", "_law_told", "_law_mate", "_law_texts", "_law_text", "_law_made", "_law_size", "_law_p", "_law_q", "_law_best", "_law_every", "_law_one", "_law_low", "_law_here"] ["_law_script"] (defScope s_law) := ⟨rfl, rfl, rfl, by decide +kernel, rfl, by decide +kernel, by decide +kernel⟩
-- slots: 0 _law_script, 1 _law_k, 2 _law_box, 3 _law_turn_here, 4 _law_rule_here, 5 _law_row, 6 _law_most, 7 _law_bits, 8 _law_told, 9 _law_mate, 10 _law_texts, 11 _law_text, 12 _law_made, 13 _law_size, 14 _law_p, 15 _law_q, 16 _law_best, 17 _law_every, 18 _law_one, 19 _law_low, 20 _law_here
theorem ok_law {P : Program} {w : World} {K : PySem.W.Frag} {mg : Str → Option Value} {base : Heap} {f C D : Addr} {fd : FuncData} (F : FnP K "law" "law" s_law [] f fd) (T : TX K mg C) (c_Rule : Rul P w K mg base 5 C (sp_Rule___init__ K C D)) (c__law_choose : Cal P w K mg base 1 "_law_choose" ["_law_box", "_law_many"] (sp__law_choose K C)) (c__law_rule : Cal P w K mg base 6 "_law_rule" ["_law_box", "_law_top", "_law_most"] (sp__law_rule K C)) (c__law_seed : Cal P w K mg base 1 "_law_seed" ["_law_script", "_law_k"] (sp__law_seed K C)) (c__law_word : Cal P w K mg base 3 "_law_word" ["_law_box", "_law_size"] (sp__law_word K C)) (c_alike : Cal P w K mg base 4 "alike" ["p", "q"] (sp_alike K C)) (c_body : Cal P w K mg base 3 "body" ["rule", "message"] (sp_body K C)) (c_cheapest : Cal P w K mg base 10 "cheapest" ["flag", "size"] (sp_cheapest K C)) (c_clean_rules : Cal P w K mg base 10 "clean_rules" ["flag", "size"] (sp_clean_rules K C)) (c_could_be : Cal P w K mg base 9 "could_be" ["flag", "size", "pairs"] (sp_could_be K C)) (c_dearest : Cal P w K mg base 6 "dearest" ["rule", "size"] (sp_dearest K C)) (c_is_clean : Cal P w K mg base 6 "is_clean" ["rule"] (sp_is_clean K C)) (c_most_put : Cal P w K mg base 6 "most_put" ["rule", "size"] (sp_most_put K C)) (c_rate : Cal P w K mg base 6 "rate" ["rule"] (sp_rate K C)) (c_rate_paper : Cal P w K mg base 7 "rate_paper" ["rule", "value"] (sp_rate_paper K C)) (c_rate_paper_holds : Cal P w K mg base 6 "rate_paper_holds" ["rule", "value", "paper"] (sp_rate_paper_holds K C)) (c_read : Cmt P w K mg base 7 C "read" (sp_Rule_read K C)) (c_str : Strr P w K mg base 1 C (sp_Rule___str__ K C)) : FnOk P w K mg base CX0 11 f fd ["_law_script"] (sp_law K C) := by
  refine FunD.ok (k := 10) F sc_law (fun vs H Q E h => ?_) (fun cdv A outer s H vs Q E hr h => ?_)
  · obtain ⟨sl, ns, rfl, _⟩ := h; rfl
  · obtain ⟨sl, ns, rfl, hsl, hns, hF, q⟩ := h
    refine ⟨_, (PSs.nox (pss_cons (ps_for PassesOwn.never rfl (pi_range1 rfl T.n_range (pa_cons (pe_callB (call_max2 rfl) (by rfl) T.n_max (by decide +kernel) (pa_cons pe_int (pa_cons (pe_callB (call_min2 rfl) (by rfl) T.n_min (by decide +kernel) (pa_cons pe_int (pa_cons (pe_callB (cln (K := K) rfl) (by rfl) T.n_len (by decide +kernel) (pa_cons (pv 0) pa_nil)) pa_nil))) pa_nil))) pa_nil)) (pg_name (i := 1) sc_law.nd rfl (by first | exact Or.inl rfl | exact Or.inr rfl)) (pss_cons (ps_set (i := 2) sc_law.nd rfl (by first | exact Or.inl rfl | exact Or.inr rfl) (c__law_seed.pe hr (by rfl) (pa_cons (pv 0) (pa_cons (pv 1) pa_nil))))
      (pss_one (ps_for PassesOwn.never rfl (pi_range1 rfl T.n_range (pa_cons pe_int pa_nil)) (pg_name (i := 3) sc_law.nd rfl (by first | exact Or.inl rfl | exact Or.inr rfl)) (pss_cons (ps_set (i := 4) sc_law.nd rfl (by first | exact Or.inl rfl | exact Or.inr rfl) (c__law_rule.pe hr (by rfl) (pa_cons (pv 2) (pa_cons pe_int (pa_cons pe_int pa_nil)))))
      (pss_cons (ps_par (i := 12) (j := 13) rfl sc_law.nd rfl rfl (by decide) rfl rfl (pa_cons (c_Rule.pe hr (by rfl) (pa_cons (pe_ix (ixt (K := K) rfl) (pv 4) pe_int (fun _ _ => rfl)) (pa_cons (pe_ix (ixt (K := K) rfl) (pv 4) pe_int (fun _ _ => rfl)) pa_nil))) (pa_cons (pe_op op_add pe_int (c__law_choose.pe hr (by rfl) (pa_cons (pv 2) (pa_cons pe_int pa_nil)))) pa_nil)) (by rfl))
      (pss_cons (ps_set (i := 5) sc_law.nd rfl (by first | exact Or.inl rfl | exact Or.inr rfl) (c_dearest.pe hr (by rfl) (pa_cons (pv 12) (pa_cons (pv 13) pa_nil))))
      (pss_cons (ps_set (i := 6) sc_law.nd rfl (by first | exact Or.inl rfl | exact Or.inr rfl) (c_most_put.pe hr (by rfl) (pa_cons (pv 12) (pa_cons (pv 13) pa_nil))))
      (pss_cons (ps_if (PW.pt (pw_or (pt_cmpR op_ne (pe_callB (cln (K := K) rfl) (by rfl) T.n_len (by decide +kernel) (pa_cons (pv 5) pa_nil)) (pv 13) (nomark _)) (pw_or1 (pt_cmpR op_ne (pe_callB (cln (K := K) rfl) (by rfl) T.n_len (by decide +kernel) (pa_cons (c_body.pe hr (by rfl) (pa_cons (pv 12) (pa_cons (pv 5) pa_nil))) pa_nil)) (pe_op op_add (pv 13) (pv 6)) (nomark _))))) (pss_one (ps_ret pe_bl)) pss_nil)
      (pss_cons (ps_set (i := 7) sc_law.nd rfl (by first | exact Or.inl rfl | exact Or.inr rfl) (c__law_word.pe hr (by rfl) (pa_cons (pv 2) (pa_cons (pv 13) pa_nil))))
      (pss_cons (ps_if (pt_cmpR op_gt (pe_op op_sub (pe_callB (cln (K := K) rfl) (by rfl) T.n_len (by decide +kernel) (pa_cons (c_body.pe hr (by rfl) (pa_cons (pv 12) (pa_cons (pv 7) pa_nil))) pa_nil)) (pv 13)) (pv 6) (nomark _)) (pss_one (ps_ret pe_bl)) pss_nil)
      (pss_cons (ps_asg (c_rate.pe hr (by rfl) (pa_cons (pv 12) pa_nil)) (pgt (K := K) (n := 2) rfl rfl (pgs_cons (pg_name (i := 14) sc_law.nd rfl (by first | exact Or.inl rfl | exact Or.inr rfl)) (pgs_cons (pg_name (i := 15) sc_law.nd rfl (by first | exact Or.inl rfl | exact Or.inr rfl)) pgs_nil))))
      (pss_cons (ps_set (i := 8) sc_law.nd rfl (by first | exact Or.inl rfl | exact Or.inr rfl) (c_rate_paper.pe hr (by rfl) (pa_cons (pv 12) (pa_cons (pe_tup (pa_cons (pv 14) (pa_cons (pv 15) pa_nil))) pa_nil))))
      (pss_cons (ps_if (PW.pt (pw_or (pt_cmpR op_isN (pv 8) pe_non (nomark _)) (pw_or1 (pt_cmpR op_notBl (c_rate_paper_holds.pe hr (by rfl) (pa_cons (pv 12) (pa_cons (pe_tup (pa_cons (pv 14) (pa_cons (pv 15) pa_nil))) (pa_cons (pv 8) pa_nil)))) pe_bl (nomark _))))) (pss_one (ps_ret pe_bl)) pss_nil)
      (pss_cons (ps_set (i := 9) sc_law.nd rfl (by first | exact Or.inl rfl | exact Or.inr rfl) (c_Rule.pe hr (by rfl) (pa_cons (c__law_word.pe hr (by rfl) (pa_cons (pv 2) (pa_cons pe_int pa_nil))) (pa_cons (pe_ix (ixt (K := K) rfl) (pv 4) pe_int (fun _ _ => rfl)) pa_nil))))
      (pss_cons (ps_if (PW.pt (pw_or (pt_not (pt_val (c_alike.pe hr (by rfl) (pa_cons (pv 12) (pa_cons (pv 9) pa_nil))))) (pw_or (pt_cmpR (oneD (K := K) rfl hr.units) (c_rate.pe hr (by rfl) (pa_cons (pv 9) pa_nil)) (pe_tup (pa_cons (pv 14) (pa_cons (pv 15) pa_nil))) (nomark _)) (pw_or1 (pt_cmpR op_ne (c_most_put.pe hr (by rfl) (pa_cons (pv 9) (pa_cons (pv 13) pa_nil))) (pv 6) (nomark _)))))) (pss_one (ps_ret pe_bl)) pss_nil)
      (pss_cons (ps_set (i := 10) sc_law.nd rfl (by first | exact Or.inl rfl | exact Or.inr rfl) (c_could_be.pe hr (by rfl) (pa_cons (pe_ix (ixt (K := K) rfl) (pv 4) pe_int (fun _ _ => rfl)) (pa_cons pe_int (pa_cons (pe_lst (pa_cons (pe_tup (pa_cons (pv 7) (pa_cons (c_body.pe hr (by rfl) (pa_cons (pv 12) (pa_cons (pv 7) pa_nil))) pa_nil))) pa_nil)) pa_nil)))))
      (pss_cons (ps_for PassesOwn.never rfl (pit (K := K) rfl (pe_slice (sltN (K := K) rfl) (pv 10) po_none (po_some pe_int))) (pg_name (i := 11) sc_law.nd rfl (by first | exact Or.inl rfl | exact Or.inr rfl)) (pss_one (ps_if (pt_cmpR op_ne (c_body.pe hr (by rfl) (pa_cons (c_read.pe hr (by rfl) (pa_cons (pv 11) pa_nil)) (pa_cons (pv 7) pa_nil))) (c_body.pe hr (by rfl) (pa_cons (pv 12) (pa_cons (pv 7) pa_nil))) (nomark _)) (pss_one (ps_ret pe_bl)) pss_nil)))
      (pss_cons (ps_if (PW.pt (pw_and (pt_cmpR op_eq (pe_callB (cln (K := K) rfl) (by rfl) T.n_len (by decide +kernel) (pa_cons (pe_ix (ixt (K := K) rfl) (pv 4) pe_int (fun _ _ => rfl)) pa_nil)) pe_int (nomark _)) (pw_and (pt_cmpR op_lt (pe_callB (cln (K := K) rfl) (by rfl) T.n_len (by decide +kernel) (pa_cons (pe_ix (ixt (K := K) rfl) (pe_ix (ixl (K := K) rfl) (pe_ix (ixt (K := K) rfl) (pv 4) pe_int (fun _ _ => rfl)) pe_int (fun _ _ => rfl)) pe_int (fun _ _ => rfl)) pa_nil)) pe_int (nomark _)) (pw_and1 (pt_cmpR (onin (K := K) rfl) (c_str.pe hr (by rfl) T.n_str (pa_cons (pv 12) pa_nil)) (pv 10) (by rfl)))))) (pss_one (ps_ret pe_bl)) pss_nil)
      (pss_cons (ps_asg (pe_tup (pa_cons (c_cheapest.pe hr (by rfl) (pa_cons (pe_ix (ixt (K := K) rfl) (pv 4) pe_int (fun _ _ => rfl)) (pa_cons pe_int pa_nil))) (pa_cons (c_clean_rules.pe hr (by rfl) (pa_cons (pe_ix (ixt (K := K) rfl) (pv 4) pe_int (fun _ _ => rfl)) (pa_cons pe_int pa_nil))) pa_nil))) (pgt (K := K) (n := 2) rfl rfl (pgs_cons (pg_name (i := 16) sc_law.nd rfl (by first | exact Or.inl rfl | exact Or.inr rfl)) (pgs_cons (pg_name (i := 17) sc_law.nd rfl (by first | exact Or.inl rfl | exact Or.inr rfl)) pgs_nil))))
      (pss_cons (ps_if (PW.pt (pw_or (pt_cmpR (oneD (K := K) rfl hr.units) (pe_lc (own := [("_law_text", 11)]) rfl sc_law.nd (pit (K := K) rfl (pv 16)) (blkOk_by (own := [("_law_text", 11)]) (by kernel_rfl)) (fun _ _ _ _ _ => (pg_name (i := 11) sc_law.nd rfl (by first | exact Or.inl rfl | exact Or.inr rfl))) (fun _ _ _ _ _ => (pts_one (pt_cmpR (onin (K := K) rfl) (pv 11) (pv 17) (by rfl)))) (fun _ _ _ _ _ => (pv 11))) (pe_lst pa_nil) (nomark _)) (pw_or1 (pt_cmpR op_ne (pe_cmpR (oeqD (K := K) rfl hr.units) (pv 16) (pe_tup pa_nil) (nomark _)) (pe_cmpR (oeqD (K := K) rfl hr.units) (pv 17) (pe_tup pa_nil) (nomark _)) (nomark _))))) (pss_one (ps_ret pe_bl)) pss_nil)
      (pss_one (ps_for PassesOwn.never rfl (pit (K := K) rfl (pe_slice (sltN (K := K) rfl) (pv 17) po_none (po_some pe_int))) (pg_name (i := 11) sc_law.nd rfl (by first | exact Or.inl rfl | exact Or.inr rfl)) (pss_cons (ps_set (i := 18) sc_law.nd rfl (by first | exact Or.inl rfl | exact Or.inr rfl) (c_read.pe hr (by rfl) (pa_cons (pv 11) pa_nil)))
      (pss_cons (ps_if (pt_not (pt_val (c_is_clean.pe hr (by rfl) (pa_cons (pv 18) pa_nil)))) (pss_one (ps_ret pe_bl)) pss_nil)
      (pss_cons (ps_par (i := 19) (j := 20) rfl sc_law.nd rfl rfl (by decide) rfl rfl (pa_cons (c_rate.pe hr (by rfl) (pa_cons (c_read.pe hr (by rfl) (pa_cons (pe_ix (ixt (K := K) rfl) (pv 16) pe_int (fun _ _ => rfl)) pa_nil)) pa_nil)) (pa_cons (c_rate.pe hr (by rfl) (pa_cons (pv 18) pa_nil)) pa_nil)) (by rfl))
      (pss_one (ps_if (PW.pt (pw_or (pt_cmpR op_lt (pe_op op_mul (pe_ix (ixt (K := K) rfl) (pv 20) pe_int (fun _ _ => rfl)) (pe_ix (ixt (K := K) rfl) (pv 19) pe_int (fun _ _ => rfl))) (pe_op op_mul (pe_ix (ixt (K := K) rfl) (pv 19) pe_int (fun _ _ => rfl)) (pe_ix (ixt (K := K) rfl) (pv 20) pe_int (fun _ _ => rfl))) (nomark _)) (pw_or1 (pt_cmpR op_ne (pe_cmpR (oeqD (K := K) rfl hr.units) (pv 20) (pv 19) (nomark _)) (pe_cmpR (oin (K := K) rfl) (pv 11) (pv 16) (by rfl)) (nomark _))))) (pss_one (ps_ret pe_bl)) pss_nil))))))))))))))))))))))))))))
      (pss_one (ps_ret pe_bl)))), ?_⟩
    refine ⟨_, rfl, _, _, rfl, .inl ⟨_, hsl, rfl⟩, _, _, rfl, _, _, rfl, _, rfl, ?_, ?_, ?_⟩
    · split <;> split <;> omega
    · split <;> split <;> omega
    refine for_sit (sit_range 0 _) (fun k σ H1 => ∃ (t1 t2 t3 t4 t5 t6 t7 t8 t9 t10 t11 t12 t13 t14 t15 t16 t17 t18 t19 t20 : Option V), σ = [some (.ref sl), t1, t2, t3, t4, t5, t6, t7, t8, t9, t10, t11, t12, t13, t14, t15, t16, t17, t18, t19, t20] ∧ Same H H1) ⟨_, _, _, _, _, _, _, _, _, _, _, _, _, _, _, _, _, _, _, _, rfl, .refl _⟩ (fun _ _ _ _ _ => trivial) ?_ ?_
    · rintro k x σ H1 hk rfl ⟨t1, t2, t3, t4, t5, t6, t7, t8, t9, t10, t11, t12, t13, t14, t15, t16, t17, t18, t19, t20, rfl, s1⟩
      have hk10 : k ≤ 10 := by
        refine Nat.le_trans (Nat.le_of_lt hk) ?_
        split <;> split <;> omega
      refine ⟨_, rfl, _, rfl, sl, ns, k, by rw [show (0 : Int) + ((k : Nat) : Int) = (k : Nat) by omega]; rfl, s1.seq hsl, hk10, hns, fun H2 a ha s2 hb2 => ?_⟩
      have haH : H a = none := s1.free ha
      refine ⟨(2 : Int), rfl, by decide, by decide, ?_⟩
      refine for_sit (sit_range 0 2) (fun i σ H3 => ∃ (t1 t3 t4 t5 t6 t7 t8 t9 t10 t11 t12 t13 t14 t15 t16 t17 t18 t19 t20 : Option V), σ = [some (.ref sl), t1, some (.ref a), t3, t4, t5, t6, t7, t8, t9, t10, t11, t12, t13, t14, t15, t16, t17, t18, t19, t20] ∧ Same H H3 ∧ BoxA H3 a) ⟨_, _, _, _, _, _, _, _, _, _, _, _, _, _, _, _, _, _, _, rfl, s1.trans s2, hb2⟩ (fun _ _ _ _ _ => trivial) ?_ ?_
      · clear hb2 s2 s1 hk ha
        rintro i x σ H3 hi rfl ⟨t1, t3, t4, t5, t6, t7, t8, t9, t10, t11, t12, t13, t14, t15, t16, t17, t18, t19, t20, rfl, s3, hb3⟩
        refine ⟨_, rfl, a, rfl, hb3, hF.dom, fun H4 t l ts fl ss s4 hb4 ht hl hla hts hdom hlaw hf2 hf5 => ?_⟩
        have hRF := hF.rule ss hdom hlaw
        have hap : apart ss = true := by
          unfold lawAre at hlaw
          rw [Bool.and_eq_true] at hlaw; exact hlaw.1
        refine ⟨_, rfl, t, _, _, _, rfl, rfl, tq ht, atI_nat (j := 0) rfl, _, rfl, _, _, _, _, rfl, rfl, tq ht, atI_nat (j := 1) rfl, fun x dx hx hdx hne => ?_⟩
        have hlx : l ≠ x := ne_of_none hl hx
        have hldx : l ≠ dx := ne_of_none hl hdx
        refine ⟨x, dx, l, fl, ts, ss, false, rfl, upd_same, by rw [upd_ne hlx, upd_ne hldx]; exact hl, Paired.mapP hts fun b st e => ?_, hdom.shr (by omega), hap, hdom.1, hf2, hRF.edl, fun _ H5 s5 hR5 => ⟨rfl, ?_⟩, fun z => by cases z⟩
        · show upd _ x _ b = _
          rw [upd_ne (ne_of_none e hx), upd_ne (ne_of_none e hdx)]; exact e
        have s45 : Same H4 H5 := (mk_same (.refl _) hx hdx).trans s5
        have P5 : Pk C H a t l x ts fl ss H5 := ⟨(s4.same s3 haH).trans s45, hb4.same s45, s45 _ _ ht, s45 _ _ hl, hts.same s45, hR5⟩
        clear s45 s5 hR5 hx hdx hne hlx hldx
        refine ⟨_, rfl, a, 12, rfl, P5.b, by omega, by omega, fun H6 k6 s6 hb6 hk6 => ⟨_, _, rfl, rfl, .ref x, .int ((1 + k6 : Nat) : Int), argN x 1 k6, ?_⟩⟩
        have P6 := P5.sb haH hla s6 hb6
        obtain ⟨n, hn⟩ : ∃ n, n = 1 + k6 := ⟨_, rfl⟩
        rw [← hn]
        have hn1 : 1 ≤ n := by omega
        have hn12 : n ≤ 12 := by omega
        clear hn hk6 P5 s6 hb6
        obtain ⟨M, hM⟩ : ∃ M, M = mvsOf (srt ss) := ⟨_, rfl⟩
        have gmv := hRF.gd.mv
        have gcl := hRF.gd.clo
        have gok := hRF.gd.ok
        have hmov := hRF.mov
        have hkeep := hRF.keep
        have hbod := hRF.bod
        obtain ⟨hrow, X1, hX1, hX1l⟩ := hRF.dear n (by omega)
        obtain ⟨p, qq, hpq, hq0, hq1, hp1⟩ := hRF.rate
        rw [← hM] at gmv gcl gok hmov hkeep hbod hrow hX1 hX1l hpq
        -- row, most
        refine ⟨_, rfl, _, rfl, x, fl, srt ss, M, n, rfl, P6.r, gmv, gcl, by omega, fun H7 s7 => ?_⟩
        have P7 := P6.same s7
        refine ⟨_, rfl, _, rfl, x, fl, srt ss, M, n, rfl, P7.r, gmv, gcl, by omega, fun H8 s8 => ?_⟩
        have P8 := P7.same s8
        clear P6 P7 s7 s8
        generalize dr M n [] = row at hrow hX1
        have hX1s : (S X1).length ≤ sizeLine := S_sz (by
          have := lf_bd gcl.sm n []
          omega)
        refine ⟨_, rfl, _, _, rfl, ⟨S_sz (by omega), rfl⟩, _, rfl, rfl, _, rfl, ?_⟩
        rw [show (!decide (V.int (((S row).length : Nat) : Int) = V.int (n : Nat))) = false by rw [S_len, hrow, decide_eq_true rfl]; rfl]
        refine ⟨_, rfl, _, rfl, x, fl, srt ss, row, X1, rfl, P8.r, by omega, hX1, _, _, rfl, ⟨hX1s, rfl⟩, _, rfl, _, rfl, _, _, rfl, rfl, rfl, _, rfl, ?_⟩
        rw [show (!decide (V.int (((S X1).length : Nat) : Int) = V.int (((n : Nat) : Int) + ((lf M n [] : Nat) : Int)))) = false by rw [S_len, hX1l, Int.natCast_add, decide_eq_true rfl]; rfl]
        -- bits
        refine ⟨_, rfl, _, rfl, a, n, rfl, P8.b, by omega, fun H9 bits s9 hb9 hbl => ?_⟩
        have P9 := P8.sb haH hla s9 hb9
        obtain ⟨X2, hX2, hX2l⟩ := hbod bits (by omega)
        rw [hbl] at hX2l
        have hX2s : (S X2).length ≤ sizeLine := S_sz (by
          have := lf_bd gcl.sm n []
          omega)
        refine ⟨_, rfl, _, rfl, x, fl, srt ss, bits, X2, rfl, P9.r, by omega, hX2, _, _, rfl, ⟨hX2s, rfl⟩, _, rfl, _, _, rfl, rfl, _, rfl, _, _, rfl, rfl, _, rfl, ?_⟩
        rw [show decide ((((S X2).length : Nat) : Int) - ((n : Nat) : Int) > ((lf M n [] : Nat) : Int)) = false by rw [decide_eq_false_iff_not, S_len]; omega]
        clear P8 s9 hb9
        -- rate
        refine ⟨_, rfl, x, fl, srt ss, M, rfl, P9.r, gmv, gcl, gok, fun H10 ra s10 hra => ?_⟩
        have P10 := P9.same s10
        rw [hpq] at hra
        refine ⟨ra, _, rfl, tq hra, rfl, _, _, rfl, _, _, rfl, rfl, ?_⟩
        -- the paper
        refine ⟨_, rfl, _, rfl, _, rfl, by show 2 ≤ sizeLine; decide, fun pt hpt => ?_⟩
        have P11 := P10.same (.new (o := .tup [.int p, .int qq]) hpt)
        have hptv : upd H10 pt (.tup [.int p, .int qq]) pt = some (.tup [.int p, .int qq]) := upd_same
        generalize upd H10 pt (.tup [.int p, .int qq]) = H11 at P11 hptv
        refine ⟨x, pt, fl, srt ss, M, p, qq, _, rfl, P11.r, gmv, gcl, gok, hptv, hpq, hq0, hq1, hp1, rfl, fun H12 pb s12 hpap => ?_⟩
        have P12 := P11.same s12
        clear P9 P10 P11 s10 hra
        refine ⟨_, rfl, rfl, _, rfl, ?_⟩
        refine ⟨_, rfl, _, rfl, _, rfl, by show 2 ≤ sizeLine; decide, fun pt2 hpt2 => ?_⟩
        have P13 := P12.same (.new (o := .tup [.int p, .int qq]) hpt2)
        have hpap13 := hpap.same (Same.new (o := .tup [.int p, .int qq]) hpt2)
        have hptv2 : upd H12 pt2 (.tup [.int p, .int qq]) pt2 = some (.tup [.int p, .int qq]) := upd_same
        generalize upd H12 pt2 (.tup [.int p, .int qq]) = H13 at P13 hptv2 hpap13
        refine ⟨_, rfl, x, pt2, pb, fl, srt ss, M, p, qq, _, rfl, P13.r, hptv2, hpap13, gcl, hmov, hkeep p qq hpq, fun H14 s14 => ⟨_, _, rfl, rfl, _, rfl, ?_⟩⟩
        have P14 := P13.same s14
        clear P12 P13 hpap hpap13 hptv hptv2
        -- the mate
        refine ⟨_, rfl, a, 3, rfl, P14.b, by omega, fun H15 mf s15 hb15 hmf => ?_⟩
        have P15 := P14.sb haH hla s15 hb15
        refine ⟨_, rfl, _, _, _, _, rfl, rfl, tq P15.t, atI_nat (j := 1) rfl, fun y dy hy hdy hney => ?_⟩
        have hly : l ≠ y := ne_of_none P15.l hy
        have hldy : l ≠ dy := ne_of_none P15.l hdy
        refine ⟨y, dy, l, mf, ts, ss, false, rfl, upd_same, by rw [upd_ne hly, upd_ne hldy]; exact P15.l, Paired.mapP P15.st fun b st e => ?_, hdom.shr (by omega), hap, hdom.1, by omega, hRF.edl, fun _ H16 s16 hR16 => ⟨rfl, ?_⟩, fun z => by cases z⟩
        · show upd _ y _ b = _
          rw [upd_ne (ne_of_none e hy), upd_ne (ne_of_none e hdy)]; exact e
        have P16 := P15.same ((mk_same (.refl _) hy hdy).trans s16)
        clear P14 P15 s15 hb15 s16 hy hdy hney hly hldy
        -- alike, its rate, its cost
        refine ⟨_, rfl, _, rfl, x, y, fl, mf, srt ss, rfl, P16.r, hR16, hRF.edl, fun H17 s17 => ⟨_, rfl, ?_⟩⟩
        have P17 := P16.same s17
        have hR17 := hR16.same s17
        refine ⟨_, rfl, y, mf, srt ss, M, rfl, hR17, gmv, gcl, gok, fun H18 rb s18 hrb => ?_⟩
        have P18 := P17.same s18
        have hR18 := hR17.same s18
        rw [hpq] at hrb
        refine ⟨_, rfl, _, rfl, by show 2 ≤ sizeLine; decide, fun pt3 hpt3 => ?_⟩
        have sN := Same.new (o := .tup [.int p, .int qq]) hpt3
        have P19 := P18.same sN
        have hR19 := hR18.same sN
        have hrb19 : _ = _ := sN _ _ hrb
        have hptv3 : upd H18 pt3 (.tup [.int p, .int qq]) pt3 = some (.tup [.int p, .int qq]) := upd_same
        generalize upd H18 pt3 (.tup [.int p, .int qq]) = H19 at P19 hR19 hrb19 hptv3
        refine ⟨.tuple [.int p, .int qq], .tuple [.int p, .int qq], .tup (tq hrb19) (.cons (.int _) (.cons (.int _) .nil)), .tup (tq hptv3) (.cons (.int _) (.cons (.int _) .nil)), rfl, rfl, _, rfl, ?_⟩
        rw [eqv_pair]
        refine ⟨_, rfl, _, rfl, y, mf, srt ss, M, n, rfl, hR19, gmv, gcl, by omega, fun H20 s20 => ⟨_, rfl, rfl, _, rfl, ?_⟩⟩
        rw [show (!decide (V.int ((lf M n [] : Nat) : Int) = V.int ((lf M n [] : Nat) : Int))) = false by rw [decide_eq_true rfl]; rfl]
        have P20 := P19.same s20
        clear P16 P17 P18 P19 hR16 hR17 hR18 hR19 hrb hrb19 hptv3 s17 s18 sN s20
        -- what could be
        have htot : ∀ st ∈ vst, ∃ x, bod [st] [] bits = some x := fun st h => by
          obtain ⟨x, hx, _⟩ := (hF.one h).bod bits (by omega)
          exact ⟨x, hx⟩
        refine ⟨_, rfl, _, _, _, _, rfl, rfl, tq P20.t, atI_nat (j := 0) rfl, _, rfl, _, rfl, _, rfl, x, fl, srt ss, bits, X2, rfl, P20.r, by omega, hX2, by show 2 ≤ sizeLine; decide, fun pu hpu => ⟨by show 1 ≤ sizeLine; decide, fun pw hpw => ?_⟩⟩
        have sN := (Same.new (o := .tup [.str (S bits), .str (S X2)]) hpu).trans (.new (o := .lst [.ref pu]) hpw)
        have P21 := P20.same sN
        have hpu' : upd (upd H20 pu (.tup [.str (S bits), .str (S X2)])) pw (.lst [.ref pu]) pu = some (.tup [.str (S bits), .str (S X2)]) := Same.new hpw _ _ upd_same
        have hpw' : upd (upd H20 pu (.tup [.str (S bits), .str (S X2)])) pw (.lst [.ref pu]) pw = some (.lst [.ref pu]) := upd_same
        generalize upd (upd H20 pu (.tup [.str (S bits), .str (S X2)])) pw (.lst [.ref pu]) = H21 at P21 hpu' hpw'
        refine ⟨fl, bits, X2, pw, pu, rfl, hf2, by omega, hpw', hpu', by omega, htot, fun H22 tt ys s22 htt hys => ?_⟩
        have P22 := P21.same s22
        clear P20 P21 sN hpu hpw hpu' hpw' s22
        have hysm : ∀ z ∈ ys, ∃ st, st ∈ vst ∧ bod [st] [] bits = some X2 ∧ z = rtx fl [st] := fun z hz => by
          obtain ⟨st, hst, rfl⟩ := List.mem_map.mp (hys.mem_iff.mp hz)
          have h2 := List.mem_filter.mp hst
          exact ⟨st, h2.1, of_decide_eq_true h2.2, rfl⟩
        refine ⟨_, rfl, _, rfl, tt, _, rfl, htt, fun tz H23 s23 htz => ⟨tz, rfl, ⟨_, tq htz⟩, ?_⟩⟩
        have P23 := P22.same s23
        have htt23 := s23 _ _ htt
        refine for_sit (sit_tup (cutV (ys.map V.str) none (some 3))) (fun i σ H24 => ∃ (t1 t3 t5 t6 t8 t9 t11 t13 t14 t15 t16 t17 t18 t19 t20 : Option V), σ = [some (.ref sl), t1, some (.ref a), t3, some (.ref t), t5, t6, some (.str (S bits)), t8, t9, some (.ref tt), t11, some (.ref x), t13, t14, t15, t16, t17, t18, t19, t20] ∧ Pk C H a t l x ts fl ss H24 ∧ H24 tt = some (.tup (ys.map V.str)) ∧ H24 tz = some (.tup (cutV (ys.map V.str) none (some 3)))) ⟨_, _, _, _, _, _, _, _, _, _, _, _, _, _, _, rfl, P23, htt23, htz⟩ (fun i σ H24 _ h => ?_) ?_ ?_
        · obtain ⟨_, _, _, _, _, _, _, _, _, _, _, _, _, _, _, _, _, _, h⟩ := h
          exact tq h
        · clear P22 P23 htt htt23 htz s23
          rintro i z σ H24 hi hz ⟨t1, t3, t5, t6, t8, t9, t11, t13, t14, t15, t16, t17, t18, t19, t20, rfl, P24, htt24, htz24⟩
          have hzm : z ∈ ys.map V.str := by
            have := List.mem_of_getElem? hz
            unfold cutV at this
            exact List.mem_of_mem_drop (List.mem_of_mem_take this)
          obtain ⟨zz, hzz, rfl⟩ := List.mem_map.mp hzm
          obtain ⟨st, hst, hbst, rfl⟩ := hysm zz hzz
          refine ⟨rfl, _, rfl, fl, st, rfl, (Dom.one hst).shr (by omega), hf2, (List.mem_filter.mp hst).2, fun H25 r s25 hR25 => ?_⟩
          have P25 := P24.same s25
          refine ⟨_, rfl, r, fl, [st], bits, X2, rfl, hR25, by omega, hbst, _, rfl, _, rfl, x, fl, srt ss, bits, X2, rfl, P25.r, by omega, hX2, rfl, _, rfl, ?_⟩
          rw [show (!decide (V.str (S X2) = V.str (S X2))) = false by rw [decide_eq_true rfl]; rfl]
          exact ⟨_, _, _, _, _, _, _, _, _, _, _, _, _, _, _, rfl, P25, s25 _ _ htt24, s25 _ _ htz24⟩
        clear P22 P23 htt htt23 htz s23
        rintro σ H24 ⟨t1, t3, t5, t6, t8, t9, t11, t13, t14, t15, t16, t17, t18, t19, t20, rfl, P24, htt, _⟩
        apply with_cont (P := fun H25 => Pk C H a t l x ts fl ss H25)
        case g =>
          intro cont
          refine ⟨_, rfl, _, _, _, _, rfl, rfl, tq P24.t, atI_nat (j := 1) rfl, _, _, rfl, .inl ⟨_, lq P24.l, rfl⟩, rfl, _, rfl, ?_⟩
          rw [List.length_map, sts_len P24.st]
          by_cases h1 : ss.length = 1
          · rw [show decide (V.int ((ss.length : Nat) : Int) = V.int 1) = true by rw [h1]; rfl]
            have hst24 := P24.st
            have hl24 := P24.l
            obtain ⟨st, rfl⟩ : ∃ st, ss = [st] := by
              match ss, h1 with
              | [st], _ => exact ⟨st, rfl⟩
            cases hst24 with
            | @cons u _ us _ hu tl =>
            cases tl
            have hlen := hdom.2 st (List.mem_singleton.mpr rfl)
            refine ⟨_, rfl, _, _, _, _, rfl, rfl, tq P24.t, atI_nat (j := 1) rfl, _, _, _, _, rfl, rfl, lq hl24, atI_nat (j := 0) rfl, _, _, _, _, rfl, rfl, tq hu, atI_nat (j := 0) rfl, _, _, rfl, ⟨S_sz (by omega), rfl⟩, _, _, rfl, rfl, _, rfl, ?_⟩
            rw [S_len]
            by_cases h3 : st.1.length < 3
            · rw [show decide (((st.1.length : Nat) : Int) < 3) = true from decide_eq_true (by omega)]
              obtain ⟨_, dx, tt2, ts2, hx24, _, _⟩ := id P24.r
              refine ⟨_, rfl, x, dx, _, rfl, hx24, x, fl, [st], rfl, P24.r, fun H25 s25 => ⟨_, rfl, ?_⟩⟩
              refine ⟨_, rfl, tt, _, rfl, .inr (tq (s25 _ _ htt)), rfl, flat_strs _, _, rfl, ?_⟩
              rw [inV_strs]
              have hin : rtx fl [st] ∈ ys := by
                refine hys.mem_iff.mpr (List.mem_map.mpr ⟨st, List.mem_filter.mpr ⟨List.mem_filter.mpr ⟨?_, ?_⟩, decide_eq_true hX2⟩, rfl⟩)
                · obtain ⟨w0, b0⟩ := st
                  refine mem_stfs (k := w0.length - 1) (by simp at h3 hlen; omega) ?_
                  exact mem_words (by simp at hlen; omega)
                · unfold okS
                  rw [show UF.edl [st] (lng [st]) 40 [[]] 0 = some false from hRF.edl]
              rw [decide_eq_true hin]
              exact cont H25 (P24.same s25)
            · rw [show decide (((st.1.length : Nat) : Int) < 3) = false from decide_eq_false (by omega)]
              exact cont H24 P24
          · rw [show decide (V.int ((ss.length : Nat) : Int) = V.int 1) = false by rw [decide_eq_false_iff_not]; intro z; injection z with z; omega]
            exact cont H24 P24
        case c =>
          clear P24 htt hys hysm
          intro H26 P26
          have hgd : ∀ st ∈ vst, Gd [st] := fun st h => (hF.one h).gd
          have hrt : ∀ st ∈ vst, 0 < (rtS st).2 ∧ (rtS st).2 ≤ 100 := fun st h => by
            obtain ⟨p, q, e, h1, h2, _⟩ := (hF.one h).rate
            unfold rtS; rw [e]
            exact ⟨by show (0 : Int) < (q : Int); omega, by show (q : Int) ≤ 100; omega⟩
          have hcln := hF.cln fl hf2 hf5
          refine ⟨_, rfl, _, _, _, _, rfl, rfl, tq P26.t, atI_nat (j := 0) rfl, fl, rfl, hf2, by omega, hcln, hgd, hrt, fun H27 bt yb s27 hbt hyb => ?_⟩
          have P27 := P26.same s27
          refine ⟨_, rfl, _, _, _, _, rfl, rfl, tq P27.t, atI_nat (j := 0) rfl, fl, rfl, hf2, by omega, hcln, fun H28 et ye s28 het hye => ⟨by show 2 ≤ sizeLine; decide, fun pz hpz => ⟨pz, _, rfl, tq upd_same, rfl, _, _, rfl, _, _, rfl, rfl, ?_⟩⟩⟩
          have sN := s28.trans (Same.new (o := .tup [.ref bt, .ref et]) hpz)
          have P29 := P27.same sN
          have hbt29 := sN _ _ hbt
          have het29 := Same.new (o := .tup [.ref bt, .ref et]) hpz _ _ het
          generalize upd H28 pz (.tup [.ref bt, .ref et]) = H29 at P29 hbt29 het29
          clear P26 P27 s27 s28 hbt het sN hpz
          have hbm : ∀ z, z ∈ yb ↔ ∃ st ∈ chp fl, z = rtx fl [st] := fun z => by
            rw [hyb.mem_iff, List.mem_map]
            exact ⟨fun ⟨st, h, e⟩ => ⟨st, h, e.symm⟩, fun ⟨st, h, e⟩ => ⟨st, h, e.symm⟩⟩
          have hem : ∀ z, z ∈ ye ↔ ∃ st ∈ vcl fl, z = rtx fl [st] := fun z => by
            rw [hye.mem_iff]; unfold vrow; rw [List.mem_map]
            exact ⟨fun ⟨st, h, e⟩ => ⟨st, h, e.symm⟩, fun ⟨st, h, e⟩ => ⟨st, h, e.symm⟩⟩
          have hsub : ∀ z ∈ yb, z ∈ ye := fun z h => by
            obtain ⟨st, hst, e⟩ := (hbm z).mp h
            exact (hem z).mpr ⟨st, (List.mem_filter.mp hst).1, e⟩
          have hvm : ∀ {st : Stf}, st ∈ vcl fl → st ∈ vst := fun h => (List.mem_filter.mp h).1
          have hvl : ∀ {st : Stf}, st ∈ vst → st.1.length ≤ 100 := fun h => by have := (sgl_len (vst_sub h)).2; omega
          have hempty : yb.isEmpty = ye.isEmpty := by
            rw [perm_empty hyb, perm_empty hye]
            have := chp_empty (fl := fl) fun s h => (hrt s h).1
            unfold vrow
            cases e1 : chp fl with
            | nil => rw [this.mp e1]
            | cons a r =>
              cases e2 : vcl fl with
              | nil => rw [this.mpr e2] at e1; cases e1
              | cons b r => rfl
          have hshb : SeqAt.shaped (.tuple (yb.map .str)) = true := shaped_strs fun z hz => by
            obtain ⟨st, hst, rfl⟩ := (hbm z).mp hz
            exact strOk_rtx (by omega) (hvl (hvm (List.mem_filter.mp hst).1))
          have hshe : SeqAt.shaped (.tuple (ye.map .str)) = true := shaped_strs fun z hz => by
            obtain ⟨st, hst, rfl⟩ := (hem z).mp hz
            exact strOk_rtx (by omega) (hvl (hvm hst))
          refine ⟨_, rfl, bt, rfl, ⟨_, tq hbt29⟩, fun D2 hD2 => ?_⟩
          refine lc_sit (sit_tup (yb.map V.str)) (fun _ _ s h => s.tup h) hD2 (fun i acc H' => Same H29 H' ∧ acc = []) ⟨.refl _, rfl⟩ (fun _ _ _ _ h => h.1.tup (tq hbt29)) ?_ ?_
          · rintro i z acc H30 hi hz hD30 ⟨s30, rfl⟩ Nx nx
            obtain ⟨zz, hzz, rfl⟩ := List.mem_map.mp (List.mem_of_getElem? hz)
            have s30' := s30.trans (off_same (H := H30) (D := D2))
            refine ⟨rfl, ?_⟩
            refine ⟨_, rfl, _, rfl, et, _, rfl, .inr (tq (s30' _ _ het29)), rfl, flat_strs _, _, rfl, ?_⟩
            rw [inV_strs, decide_eq_true (hsub zz hzz)]
            exact nx _ _ hD30 ⟨s30, rfl⟩
          · rintro acc H30 hD30 ⟨s30, rfl⟩
            have s30' := s30.trans (off_same (H := H30) (D := D2))
            refine ⟨by show 0 ≤ sizeLine; exact Nat.zero_le _, fun pn hpn => ?_⟩
            have sM := s30'.trans (Same.new (o := .lst []) hpn)
            have hD31 := Same.new (o := .lst []) hpn _ _ hD30
            refine ⟨.list [], .list [], .lst (lq hD31) .nil, .lst (lq upd_same) .nil, by rfl, by rfl, _, rfl, ?_⟩
            rw [show (!PyData.eqv (.list []) (.list [])) = false from rfl]
            generalize upd H30 pn (.lst []) = H31 at sM hD31
            refine ⟨_, rfl, by show 0 ≤ sizeLine; exact Nat.zero_le _, fun pe hpe => ?_⟩
            have sM2 := sM.trans (Same.new (o := .tup []) hpe)
            refine ⟨.tuple (yb.map .str), .tuple [], .tup (tq (sM2 _ _ hbt29)) (dp_strs yb), .tup (tq upd_same) .nil, hshb, by rfl, ?_⟩
            generalize upd H31 pe (.tup []) = H32 at sM2
            refine ⟨_, rfl, by show 0 ≤ sizeLine; exact Nat.zero_le _, fun pe2 hpe2 => ?_⟩
            have sM3 := sM2.trans (Same.new (o := .tup []) hpe2)
            refine ⟨.tuple (ye.map .str), .tuple [], .tup (tq (sM3 _ _ het29)) (dp_strs ye), .tup (tq upd_same) .nil, hshe, by rfl, rfl, _, rfl, ?_⟩
            generalize upd H32 pe2 (.tup []) = H33 at sM3
            rw [eqv_nil, eqv_nil, hempty, show (!decide (V.bl ye.isEmpty = V.bl ye.isEmpty)) = false by rw [decide_eq_true rfl]; rfl]
            have P33 := P29.same sM3
            have hbt33 := sM3 _ _ hbt29
            have het33 := sM3 _ _ het29
            clear P29 hbt29 het29 sM sM2 sM3 hD30 hD31 s30 s30' hshb hshe hD2 hpn hpe hpe2
            refine ⟨_, rfl, _, rfl, et, _, rfl, het33, fun tz2 H34 s34 htz2 => ⟨tz2, rfl, ⟨_, tq htz2⟩, ?_⟩⟩
            have P34 := P33.same s34
            have hbt34 := s34 _ _ hbt33
            clear P33 hbt33 het33 s34
            refine for_sit (sit_tup (cutV (ye.map V.str) none (some 4))) (fun i σ H35 => ∃ (t1 t3 t4 t5 t6 t7 t8 t9 t10 t11 t12 t13 t14 t15 t17 t18 t19 t20 : Option V), σ = [some (.ref sl), t1, some (.ref a), t3, t4, t5, t6, t7, t8, t9, t10, t11, t12, t13, t14, t15, some (.ref bt), t17, t18, t19, t20] ∧ Pk C H a t l x ts fl ss H35 ∧ H35 bt = some (.tup (yb.map V.str)) ∧ H35 tz2 = some (.tup (cutV (ye.map V.str) none (some 4)))) ⟨_, _, _, _, _, _, _, _, _, _, _, _, _, _, _, _, _, _, rfl, P34, hbt34, htz2⟩ (fun i σ H35 _ h => ?_) ?_ ?_
            · obtain ⟨_, _, _, _, _, _, _, _, _, _, _, _, _, _, _, _, _, _, _, _, _, h⟩ := h
              exact tq h
            · clear P34 hbt34 htz2
              rintro i z σ H35 hi hz ⟨t1, t3, t4, t5, t6, t7, t8, t9, t10, t11, t12, t13, t14, t15, t17, t18, t19, t20, rfl, P35, hbt35, htz35⟩
              have hzm : z ∈ ye.map V.str := by
                have := List.mem_of_getElem? hz
                unfold cutV at this
                exact List.mem_of_mem_drop (List.mem_of_mem_take this)
              obtain ⟨zz, hzz, rfl⟩ := List.mem_map.mp hzm
              obtain ⟨st, hst, rfl⟩ := (hem zz).mp hzz
              have hsv := hvm hst
              obtain ⟨z0, yb', rfl⟩ : ∃ z0 yb', yb = z0 :: yb' := by
                cases yb with
                | cons z0 yb' => exact ⟨z0, yb', rfl⟩
                | nil =>
                  cases ye with
                  | nil => cases hzz
                  | cons _ _ => cases hempty
              obtain ⟨st0, hst0, rfl⟩ := (hbm z0).mp (List.mem_cons_self ..)
              have hs0 := List.mem_filter.mp hst0
              have hs0v := hvm hs0.1
              have hlow := isLow_iff.mp hs0.2
              have hp := hrt st hsv
              have hp0 := hrt st0 hs0v
              have hG := hgd st hsv
              have hG0 := hgd st0 hs0v
              obtain ⟨c, hck⟩ := hcln st hsv
              have hct : c = true := (clnS_of hck).symm.trans (List.mem_filter.mp hst).2
              subst hct
              refine ⟨rfl, _, rfl, fl, st, rfl, (Dom.one hsv).shr (by omega), hf2, (List.mem_filter.mp hsv).2, fun H36 r s36 hR36 => ?_⟩
              refine ⟨_, rfl, r, fl, [st], true, rfl, hR36, hck, fun H37 s37 => ⟨_, rfl, ?_⟩⟩
              have hbt37 := s37 _ _ (s36 _ _ hbt35)
              refine ⟨rfl, _, rfl, _, _, _, _, rfl, rfl, tq hbt37, atI_nat (j := 0) rfl, fl, st0, rfl, (Dom.one hs0v).shr (by omega), hf2, (List.mem_filter.mp hs0v).2, fun H38 r0 s38 hR38 => ?_⟩
              refine ⟨r0, fl, [st0], mvsOf [st0], rfl, hR38, hG0.mv, hG0.clo, hG0.ok, fun H39 a0 s39 ha0 => ?_⟩
              refine ⟨_, rfl, r, fl, [st], mvsOf [st], rfl, ((hR36.same s37).same s38).same s39, hG.mv, hG.clo, hG.ok, fun H40 a1 s40 ha1 => ⟨_, _, rfl, ?_⟩⟩
              have ha0' : PrA H40 a0 (rtS st0) := s40 _ _ ha0
              have ha1' : PrA H40 a1 (rtS st) := ha1
              have s3540 : Same H35 H40 := (((s36.trans s37).trans s38).trans s39).trans s40
              have hbt40 := s3540 _ _ hbt35
              refine ⟨_, rfl, _, _, _, _, rfl, rfl, tq ha1', atI_nat (j := 0) rfl, _, rfl, _, _, _, _, rfl, rfl, tq ha0', atI_nat (j := 1) rfl, _, _, rfl, rfl, cmR hp0.1 (by omega), ?_⟩
              refine ⟨_, rfl, _, _, _, _, rfl, rfl, tq ha0', atI_nat (j := 0) rfl, _, rfl, _, _, _, _, rfl, rfl, tq ha1', atI_nat (j := 1) rfl, _, _, rfl, rfl, cmR hp.1 (by omega), _, _, rfl, rfl, _, rfl, ?_⟩
              have hle : leR (rtS st0) (rtS st) := hlow st hst
              rw [show decide ((rtS st).1 * (rtS st0).2 < (rtS st0).1 * (rtS st).2) = false by rw [decide_eq_false_iff_not]; unfold leR at hle; omega]
              refine ⟨_, rfl, _, rfl, .tuple [.int (rtS st).1, .int (rtS st).2], .tuple [.int (rtS st0).1, .int (rtS st0).2], .tup (tq ha1') (.cons (.int _) (.cons (.int _) .nil)), .tup (tq ha0') (.cons (.int _) (.cons (.int _) .nil)), rfl, rfl, ?_⟩
              refine ⟨_, rfl, _, rfl, bt, _, rfl, .inr (tq hbt40), rfl, flat_strs _, rfl, _, rfl, ?_⟩
              have hiff : decide (rtS st = rtS st0) = decide (rtx fl [st] ∈ rtx fl [st0] :: yb') := by
                rw [Bool.eq_iff_iff, decide_eq_true_eq, decide_eq_true_eq, hbm]
                constructor
                · intro e
                  refine ⟨st, List.mem_filter.mpr ⟨hst, isLow_iff.mpr fun s' hs' => ?_⟩, rfl⟩
                  rw [e]; exact hlow s' hs'
                · rintro ⟨st', hst', e⟩
                  have e' := rtx_inj e
                  subst e'
                  have h1 := isLow_iff.mp (List.mem_filter.mp hst').2 st0 hs0.1
                  refine hF.req st hsv st0 hs0v ?_
                  unfold leR at h1 hle
                  omega
              have eB : ∀ B1 B2 : Bool, B1 = B2 → (!decide (V.bl B1 = V.bl B2)) = false := fun B1 B2 e => by rw [e, decide_eq_true rfl]; rfl
              have eB2 := eB (PyData.eqv (.tuple [.int (rtS st).1, .int (rtS st).2]) (.tuple [.int (rtS st0).1, .int (rtS st0).2])) (inV (.str (rtx fl [st])) ((rtx fl [st0] :: yb').map V.str)) (by rw [eqv_pairs, inV_strs]; exact hiff)
              simp only [Bool.false_eq_true, if_false]
              rw [eB2]
              exact ⟨_, _, _, _, _, _, _, _, _, _, _, _, _, _, _, _, _, _, rfl, P35.same s3540, hbt40, s3540 _ _ htz35⟩
            · rintro σ H35 ⟨t1, t3, t4, t5, t6, t7, t8, t9, t10, t11, t12, t13, t14, t15, t17, t18, t19, t20, rfl, P35, _, _⟩
              exact ⟨_, _, _, _, _, _, _, _, _, _, _, _, _, _, _, _, _, _, _, rfl, P35.s, P35.b⟩
      · rintro σ H3 ⟨t1, t3, t4, t5, t6, t7, t8, t9, t10, t11, t12, t13, t14, t15, t16, t17, t18, t19, t20, rfl, s3, hb3⟩
        exact ⟨_, _, _, _, _, _, _, _, _, _, _, _, _, _, _, _, _, _, _, _, rfl, s3⟩
    · rintro σ H1 ⟨t1, t2, t3, t4, t5, t6, t7, t8, t9, t10, t11, t12, t13, t14, t15, t16, t17, t18, t19, t20, rfl, s1⟩
      exact q H1
end UF
set_option maxHeartbeats 0
namespace UF
open PySem PySem.Spec PyProof.Rows L2
/-! ### the head: facts by names -/
def aLongest (K : Fg) : Addr := match PySem.W.recIn K (He.ma K (He.ga K "Rule") "longest") "property" with
  | some (.ref g :: _) => g
  | _ => 0
def aRead (K : Fg) : Addr := He5.wf K (He.ga K "Rule") "classmethod" "read"
def aInv (K : Fg) : Addr := He.ma K (He.ga K "InvalidRule") "__init__"
def d_is_sequence : He5.DefA := ⟨(fun K => He.ga K "is_sequence"), "is_sequence", "is_sequence", defArgs s_is_sequence, defBody s_is_sequence, defScope s_is_sequence, [], []⟩
def d_is_word : He5.DefA := ⟨(fun K => He.ga K "is_word"), "is_word", "is_word", defArgs s_is_word, defBody s_is_word, defScope s_is_word, [], []⟩
def d_is_bit : He5.DefA := ⟨(fun K => He.ga K "is_bit"), "is_bit", "is_bit", defArgs s_is_bit, defBody s_is_bit, defScope s_is_bit, [], []⟩
def d_is_stuff : He5.DefA := ⟨(fun K => He.ga K "is_stuff"), "is_stuff", "is_stuff", defArgs s_is_stuff, defBody s_is_stuff, defScope s_is_stuff, [], []⟩
def d_are_stuffs : He5.DefA := ⟨(fun K => He.ga K "are_stuffs"), "are_stuffs", "are_stuffs", defArgs s_are_stuffs, defBody s_are_stuffs, defScope s_are_stuffs, [], []⟩
def d_Rule_longest : He5.DefA := ⟨aLongest, "longest", "Rule.longest", defArgs s_Rule_longest, defBody s_Rule_longest, defScope s_Rule_longest, [], []⟩
def d_Rule_put : He5.DefA := ⟨(fun K => He.ma K (He.ga K "Rule") "put"), "put", "Rule.put", defArgs s_Rule_put, defBody s_Rule_put, defScope s_Rule_put, [], []⟩
def d_tail : He5.DefA := ⟨(fun K => He.ga K "tail"), "tail", "tail", defArgs s_tail, defBody s_tail, defScope s_tail, [], []⟩
def d_Rule_put_in : He5.DefA := ⟨(fun K => He.ma K (He.ga K "Rule") "put_in"), "put_in", "Rule.put_in", defArgs s_Rule_put_in, defBody s_Rule_put_in, defScope s_Rule_put_in, [], []⟩
def d_Rule_is_endless : He5.DefA := ⟨(fun K => He.ma K (He.ga K "Rule") "is_endless"), "is_endless", "Rule.is_endless", defArgs s_Rule_is_endless, defBody s_Rule_is_endless, defScope s_Rule_is_endless, [], []⟩
def d_Rule___init__ : He5.DefA := ⟨(fun K => He.ma K (He.ga K "Rule") "__init__"), "__init__", "Rule.__init__", defArgs s_Rule___init__, defBody s_Rule___init__, defScope s_Rule___init__, [.adr (He.dflAt ("Rule", some "__init__") 0)], []⟩
def d__law_choose : He5.DefA := ⟨(fun K => He.ga K "_law_choose"), "_law_choose", "_law_choose", defArgs s__law_choose, defBody s__law_choose, defScope s__law_choose, [], []⟩
def d__law_ends : He5.DefA := ⟨(fun K => He.ga K "_law_ends"), "_law_ends", "_law_ends", defArgs s__law_ends, defBody s__law_ends, defScope s__law_ends, [], []⟩
def d__law_due : He5.DefA := ⟨(fun K => He.ga K "_law_due"), "_law_due", "_law_due", defArgs s__law_due, defBody s__law_due, defScope s__law_due, [], []⟩
def d__law_chain : He5.DefA := ⟨(fun K => He.ga K "_law_chain"), "_law_chain", "_law_chain", defArgs s__law_chain, defBody s__law_chain, defScope s__law_chain, [], []⟩
def d__law_tails : He5.DefA := ⟨(fun K => He.ga K "_law_tails"), "_law_tails", "_law_tails", defArgs s__law_tails, defBody s__law_tails, defScope s__law_tails, [], []⟩
def d__law_are_stuffs : He5.DefA := ⟨(fun K => He.ga K "_law_are_stuffs"), "_law_are_stuffs", "_law_are_stuffs", defArgs s__law_are_stuffs, defBody s__law_are_stuffs, defScope s__law_are_stuffs, [], []⟩
def d__law_one_of : He5.DefA := ⟨(fun K => He.ga K "_law_one_of"), "_law_one_of", "_law_one_of", defArgs s__law_one_of, defBody s__law_one_of, defScope s__law_one_of, [], []⟩
def d__law_turn : He5.DefA := ⟨(fun K => He.ga K "_law_turn"), "_law_turn", "_law_turn", defArgs s__law_turn, defBody s__law_turn, defScope s__law_turn, [], []⟩
def d__law_word : He5.DefA := ⟨(fun K => He.ga K "_law_word"), "_law_word", "_law_word", defArgs s__law_word, defBody s__law_word, defScope s__law_word, [], []⟩
def d__law_stuff : He5.DefA := ⟨(fun K => He.ga K "_law_stuff"), "_law_stuff", "_law_stuff", defArgs s__law_stuff, defBody s__law_stuff, defScope s__law_stuff, [], []⟩
def d__law_rule : He5.DefA := ⟨(fun K => He.ga K "_law_rule"), "_law_rule", "_law_rule", defArgs s__law_rule, defBody s__law_rule, defScope s__law_rule, [], []⟩
def d__law_seed : He5.DefA := ⟨(fun K => He.ga K "_law_seed"), "_law_seed", "_law_seed", defArgs s__law_seed, defBody s__law_seed, defScope s__law_seed, [], []⟩
def d_put_behind : He5.DefA := ⟨(fun K => He.ga K "put_behind"), "put_behind", "put_behind", defArgs s_put_behind, defBody s_put_behind, defScope s_put_behind, [], []⟩
def d_parting : He5.DefA := ⟨(fun K => He.ga K "parting"), "parting", "parting", defArgs s_parting, defBody s_parting, defScope s_parting, [], []⟩
def d_alike : He5.DefA := ⟨(fun K => He.ga K "alike"), "alike", "alike", defArgs s_alike, defBody s_alike, defScope s_alike, [], []⟩
def d_body : He5.DefA := ⟨(fun K => He.ga K "body"), "body", "body", defArgs s_body, defBody s_body, defScope s_body, [], []⟩
def d_last_bits : He5.DefA := ⟨(fun K => He.ga K "last_bits"), "last_bits", "last_bits", defArgs s_last_bits, defBody s_last_bits, defScope s_last_bits, [], []⟩
def d_grown : He5.DefA := ⟨(fun K => He.ga K "grown"), "grown", "grown", defArgs s_grown, defBody s_grown, defScope s_grown, [], []⟩
def d_is_border_clean : He5.DefA := ⟨(fun K => He.ga K "is_border_clean"), "is_border_clean", "is_border_clean", defArgs s_is_border_clean, defBody s_is_border_clean, defScope s_is_border_clean, [], []⟩
def d_width : He5.DefA := ⟨(fun K => He.ga K "width"), "width", "width", defArgs s_width, defBody s_width, defScope s_width, [], []⟩
def d_walk : He5.DefA := ⟨(fun K => He.ga K "walk"), "walk", "walk", defArgs s_walk, defBody s_walk, defScope s_walk, [], []⟩
def d_spoiled : He5.DefA := ⟨(fun K => He.ga K "spoiled"), "spoiled", "spoiled", defArgs s_spoiled, defBody s_spoiled, defScope s_spoiled, [], []⟩
def d_is_clean : He5.DefA := ⟨(fun K => He.ga K "is_clean"), "is_clean", "is_clean", defArgs s_is_clean, defBody s_is_clean, defScope s_is_clean, [], []⟩
def d_all_words : He5.DefA := ⟨(fun K => He.ga K "all_words"), "all_words", "all_words", defArgs s_all_words, defBody s_all_words, defScope s_all_words, [], []⟩
def d_rule_with : He5.DefA := ⟨(fun K => He.ga K "rule_with"), "rule_with", "rule_with", defArgs s_rule_with, defBody s_rule_with, defScope s_rule_with, [], []⟩
def d_single_rules : He5.DefA := ⟨(fun K => He.ga K "single_rules"), "single_rules", "single_rules", defArgs s_single_rules, defBody s_single_rules, defScope s_single_rules, [], []⟩
def d_all_clean : He5.DefA := ⟨(fun K => He.ga K "all_clean"), "all_clean", "all_clean", defArgs s_all_clean, defBody s_all_clean, defScope s_all_clean, [], []⟩
def d_least_of : He5.DefA := ⟨(fun K => He.ga K "least_of"), "least_of", "least_of", defArgs s_least_of, defBody s_least_of, defScope s_least_of, [], []⟩
def d_common : He5.DefA := ⟨(fun K => He.ga K "common"), "common", "common", defArgs s_common, defBody s_common, defScope s_common, [], []⟩
def d_lowest : He5.DefA := ⟨(fun K => He.ga K "lowest"), "lowest", "lowest", defArgs s_lowest, defBody s_lowest, defScope s_lowest, [], []⟩
def d_move : He5.DefA := ⟨(fun K => He.ga K "move"), "move", "move", defArgs s_move, defBody s_move, defScope s_move, [], []⟩
def d_moves_of : He5.DefA := ⟨(fun K => He.ga K "moves_of"), "moves_of", "moves_of", defArgs s_moves_of, defBody s_moves_of, defScope s_moves_of, [], []⟩
def d_walks : He5.DefA := ⟨(fun K => He.ga K "walks"), "walks", "walks", defArgs s_walks, defBody s_walks, defScope s_walks, [], []⟩
def d_rate : He5.DefA := ⟨(fun K => He.ga K "rate"), "rate", "rate", defArgs s_rate, defBody s_rate, defScope s_rate, [], []⟩
def d_Rule___str__ : He5.DefA := ⟨(fun K => He.ma K (He.ga K "Rule") "__str__"), "__str__", "Rule.__str__", defArgs s_Rule___str__, defBody s_Rule___str__, defScope s_Rule___str__, [], []⟩
def d_cheapest : He5.DefA := ⟨(fun K => He.ga K "cheapest"), "cheapest", "cheapest", defArgs s_cheapest, defBody s_cheapest, defScope s_cheapest, [], []⟩
def d_clean_rules : He5.DefA := ⟨(fun K => He.ga K "clean_rules"), "clean_rules", "clean_rules", defArgs s_clean_rules, defBody s_clean_rules, defScope s_clean_rules, [], []⟩
def d_could_be : He5.DefA := ⟨(fun K => He.ga K "could_be"), "could_be", "could_be", defArgs s_could_be, defBody s_could_be, defScope s_could_be, [], []⟩
def d_best_left : He5.DefA := ⟨(fun K => He.ga K "best_left"), "best_left", "best_left", defArgs s_best_left, defBody s_best_left, defScope s_best_left, [], []⟩
def d_dearest : He5.DefA := ⟨(fun K => He.ga K "dearest"), "dearest", "dearest", defArgs s_dearest, defBody s_dearest, defScope s_dearest, [], []⟩
def d_most_put : He5.DefA := ⟨(fun K => He.ga K "most_put"), "most_put", "most_put", defArgs s_most_put, defBody s_most_put, defScope s_most_put, [], []⟩
def d_is_at_most : He5.DefA := ⟨(fun K => He.ga K "is_at_most"), "is_at_most", "is_at_most", defArgs s_is_at_most, defBody s_is_at_most, defScope s_is_at_most, [], []⟩
def d_rate_paper : He5.DefA := ⟨(fun K => He.ga K "rate_paper"), "rate_paper", "rate_paper", defArgs s_rate_paper, defBody s_rate_paper, defScope s_rate_paper, [], []⟩
def d_is_integer : He5.DefA := ⟨(fun K => He.ga K "is_integer"), "is_integer", "is_integer", defArgs s_is_integer, defBody s_is_integer, defScope s_is_integer, [], []⟩
def d_is_value : He5.DefA := ⟨(fun K => He.ga K "is_value"), "is_value", "is_value", defArgs s_is_value, defBody s_is_value, defScope s_is_value, [], []⟩
def d_is_entry : He5.DefA := ⟨(fun K => He.ga K "is_entry"), "is_entry", "is_entry", defArgs s_is_entry, defBody s_is_entry, defScope s_is_entry, [], []⟩
def d_is_kept : He5.DefA := ⟨(fun K => He.ga K "is_kept"), "is_kept", "is_kept", defArgs s_is_kept, defBody s_is_kept, defScope s_is_kept, [], []⟩
def d_rate_paper_holds : He5.DefA := ⟨(fun K => He.ga K "rate_paper_holds"), "rate_paper_holds", "rate_paper_holds", defArgs s_rate_paper_holds, defBody s_rate_paper_holds, defScope s_rate_paper_holds, [], []⟩
def d_stuff_in : He5.DefA := ⟨(fun K => He.ga K "stuff_in"), "stuff_in", "stuff_in", defArgs s_stuff_in, defBody s_stuff_in, defScope s_stuff_in, [], []⟩
def d_Rule_read : He5.DefA := ⟨aRead, "read", "Rule.read", defArgs s_Rule_read, defBody s_Rule_read, defScope s_Rule_read, [], []⟩
def d_law : He5.DefA := ⟨(fun K => He.ga K "law"), "law", "law", defArgs s_law, defBody s_law, defScope s_law, [], []⟩
def fn0 : List He5.DefA := [d_is_sequence, d_is_word, d_is_bit, d_is_stuff, d_are_stuffs, d_Rule_longest, d_Rule_put, d_tail, d_Rule_put_in, d_Rule_is_endless, d_Rule___init__, d__law_choose, d__law_ends, d__law_due, d__law_chain, d__law_tails, d__law_are_stuffs, d__law_one_of, d__law_turn, d__law_word]
def fn1 : List He5.DefA := [d__law_stuff, d__law_rule, d__law_seed, d_put_behind, d_parting, d_alike, d_body, d_last_bits, d_grown, d_is_border_clean, d_width, d_walk, d_spoiled, d_is_clean, d_all_words, d_rule_with, d_single_rules, d_all_clean, d_least_of, d_common]
def fn2 : List He5.DefA := [d_lowest, d_move, d_moves_of, d_walks, d_rate, d_Rule___str__, d_cheapest, d_clean_rules, d_could_be, d_best_left, d_dearest, d_most_put, d_is_at_most, d_rate_paper, d_is_integer, d_is_value, d_is_entry, d_is_kept, d_rate_paper_holds, d_stuff_in]
def fn3 : List He5.DefA := [d_Rule_read, d_law]
def fn : List He5.DefA := fn0 ++ fn1 ++ fn2 ++ fn3
def fa0 : List He.Fa := [.glo "is_sequence", .glo "is_word", .glo "is_bit", .glo "is_stuff", .glo "are_stuffs", .glo "tail", .glo "_law_choose", .glo "_law_ends", .glo "_law_due", .glo "_law_chain", .glo "_law_tails", .glo "_law_are_stuffs", .glo "_law_one_of", .glo "_law_turn", .glo "_law_word", .glo "_law_stuff", .glo "_law_rule", .glo "_law_seed", .glo "put_behind", .glo "parting", .glo "alike", .glo "body", .glo "last_bits", .glo "grown", .glo "is_border_clean", .glo "width", .glo "walk", .glo "spoiled", .glo "is_clean", .glo "all_words"]
def fa1 : List He.Fa := [.glo "rule_with", .glo "single_rules", .glo "all_clean", .glo "least_of", .glo "common", .glo "lowest", .glo "move", .glo "moves_of", .glo "walks", .glo "rate", .glo "cheapest", .glo "clean_rules", .glo "could_be", .glo "best_left", .glo "dearest", .glo "most_put", .glo "is_at_most", .glo "rate_paper", .glo "is_integer", .glo "is_value", .glo "is_entry", .glo "is_kept", .glo "rate_paper_holds", .glo "stuff_in", .glo "law", .free "len", .free "int", .free "str", .free "bool", .free "list"]
def fa2 : List He.Fa := [.free "tuple", .free "isinstance", .free "all", .free "any", .free "max", .free "min", .free "sorted", .free "abs", .free "range", .free "enumerate", .free "super", .str "BITS" "01", .cls "Rule", .noat "Rule" "flag", .noat "Rule" "stuffs", .meth "Rule" "put", .meth "Rule" "put_in", .meth "Rule" "is_endless", .meth "Rule" "__str__", .mkr "Rule", .glo "Rule", .glo "InvalidRule", .exm "InvalidRule" "InvalidRule" true]
def fa : List He.Fa := fa0 ++ fa1 ++ fa2
abbrev R : PySem.W.OpenRow := PySem.W.OpenLaw.row PySem.Challenge.rw_unseenflips_k97_whole_costs_of_what_was
/-- the error's class, its __init__ -/
def oexB (K : Fg) (D : Addr) : Bool := (match K.lookup D with
    | some ⟨.type t, _, .cls cd, sl⟩ => (match cd.mro, sl.toList with
      | .ref C' :: bm, [_, _, _, _, some (.builtin n), _] => decide (t = "type") && (decide (C' = D) && (decide (n = "ValueError.__new__") && (!cd.hasDel && (cd.hasDict && PySem.HandSPX.refsVE bm))))
      | _, _ => false)
    | _ => false) && (He.eqO (PySem.W.findIn K (.ref D) "__setattr__") (some (some (.builtin "object.__setattr__"))) && (decide (PySem.W.subIn K (.ref D) (.type "BaseException") = some true) &&
      (decide (PySem.W.typeIn K (.ref D) = some (.type "type")) && PySem.W.keepIn K (.ref D))))
theorem oexB_ok {K : Fg} {D : Addr} (h : oexB K D = true) : OexC K D := by
  obtain ⟨h1, h⟩ := He.ba h
  obtain ⟨h2, h⟩ := He.ba h
  obtain ⟨h3, h⟩ := He.ba h
  obtain ⟨h4, h5⟩ := He.ba h
  refine ⟨?_, He.eqO_ok h2, of_decide_eq_true h3, of_decide_eq_true h4, h5⟩
  clear h2 h3 h4 h5
  split at h1
  · rename_i t dd cd sl ho
    split at h1
    · rename_i C' bm k0 k1 k2 k3 n k5 hm hs
      simp only [Bool.and_eq_true, decide_eq_true_eq, Bool.not_eq_true'] at h1
      obtain ⟨rfl, rfl, rfl, hdel, hdct, ht⟩ := h1
      obtain ⟨nm, bs, mro, ns, qn, hd, sn, sub, ab, col, del⟩ := cd
      dsimp only at hm hdel hdct
      subst hm hdel hdct
      have hsl : sl = #[k0, k1, k2, k3, some (.builtin "ValueError.__new__"), k5] := by
        obtain ⟨l⟩ := sl
        simp only at hs
        rw [hs]
      subst hsl
      exact ⟨nm, qn, ns, bs, bm, sn, sub, ab, col, dd, k0, k1, k2, k3, k5, ho, ht⟩
    · cases h1
  · cases h1
abbrev SupV : Type := Option (Str × Str × Arguments × FuncBody × Scope × Addr × Addr × Value)
def supW (K : Fg) (a : Addr) : SupV := match K.lookup a with
  | some ⟨_, _, .func fd, _⟩ => some (fd.name, fd.qualname, fd.params, fd.body, fd.scope, fd.globals, fd.builtins, fd.defaults)
  | _ => none
def supVal : SupV := some ("__init__", "InvalidRule.__init__", defArgs s_Inv, .stmts (defBody s_Inv), defScope s_Inv, mainGlobals, builtinsNs, .none)
/-- the file in a code object's record -/
def fileOf (vs : Array Value) : Bool := match (vs[2]? : Option Value) with
  | some (Value.str file _) => ((R.prog).main.file : Str) == file
  | _ => false
def cellOf (K : Fg) (cc D : Addr) : Bool := match K.lookup cc with
  | some ⟨_, _, .cell (some (.ref d)), _⟩ => decide (d = D)
  | _ => false
def supB (K : Fg) (D a : Addr) : Bool := (match K.lookup a with
    | some ⟨_, _, .func fd, _⟩ => (match fd.closure, fd.code with
      | [(x, cc)], .ref cda => decide (x = "__class__") && (cellOf K cc D && (PySem.W.codeIn K (.ref cda) "InvalidRule.__init__" && (match K.lookup cda with
        | some ⟨_, _, .fields vs, _⟩ => fileOf vs
        | _ => false)))
      | _, _ => false)
    | _ => false) && (decide (PySem.W.mroIn K D (.ref D) = some true) && (He.eqO (PySem.W.ks_superIn K D D "__init__") (some (some (.builtin "ValueError.__init__"))) && (decide (PySem.W.subIn K (.ref D) (.type "ValueError") = some true) &&
      (He.eqO (PySem.W.nsIn K cStatics "thirdparty.any") (some none) && (He.eqO (PySem.W.findIn K (.ref D) "word") (some none) && (He.eqO (PySem.W.findIn K (.ref D) "__init__") (some (some (.ref a))) &&
      (decide (PySem.W.typeIn K (.ref a) = some (.type "function")) && oexB K D)))))))
theorem no_super : ((R.prog).main.scope.names.lookup ("super" : Str)).isSome = false := by kernel_rfl
theorem supB_ok {P : Program} {K : Fg} {mg : Str → Option Value} {D a : Addr} (eP : P = R.prog) (e : supW K a = supVal) (h : supB K D a = true) (hm : mg "super" = none) : ∃ fd, SupI P K mg D a fd ∧ Binds K fd ["self", "word"] [] := by
  subst eP
  obtain ⟨h1, h⟩ := He.ba h
  obtain ⟨h2, h⟩ := He.ba h
  obtain ⟨h3, h⟩ := He.ba h
  obtain ⟨h4, h⟩ := He.ba h
  obtain ⟨h5, h⟩ := He.ba h
  obtain ⟨h6, h⟩ := He.ba h
  obtain ⟨h7, h⟩ := He.ba h
  obtain ⟨h8, h9⟩ := He.ba h
  unfold supW at e
  cases q : K.lookup a with
  | none =>
    rw [q] at h1
    cases h1
  | some o =>
    obtain ⟨oc, od, dt, osl⟩ := o
    rw [q] at h1 e
    cases dt with
    | func fd =>
      obtain ⟨n1, n2, n3, n4, n5, n6, n7, n8, n9, n10, n11, n12, n13, n14, n15⟩ := fd
      have e2 : (some (n1, n2, n3, n4, n5, n6, n15, n8) : SupV) = supVal := e
      simp only [supVal, Option.some.injEq, Prod.mk.injEq] at e2
      obtain ⟨g1, g2, g3, g4, g5, g6, g7, g8⟩ := e2
      subst g1 g2 g3 g4 g5 g6 g7 g8
      dsimp only at h1
      split at h1
      · rename_i x cc cda
        obtain ⟨k1, k⟩ := He.ba h1
        obtain ⟨k2, k⟩ := He.ba k
        obtain ⟨k3, k4⟩ := He.ba k
        have ex : x = "__class__" := of_decide_eq_true k1
        subst ex
        split at k4
        · rename_i ccl cdd vs ccs lcd
          unfold fileOf at k4
          split at k4
          · rename_i file tf hv
            unfold cellOf at k2
            split at k2
            · rename_i cl cld d csl lcc
              have ed : d = D := of_decide_eq_true k2
              subst ed
              have S : SupI R.prog K mg d a _ := ⟨oexB_ok h9, ⟨cc, cda, .none, n9, n10, n11, n14, oc, n12, od, osl, vs, file, tf, ccl, cl, cdd, cld, ccs, csl, rfl, q, k3, lcd, hv, k4, lcc⟩, of_decide_eq_true h2, He.eqO_ok h3,
                of_decide_eq_true h4, He.eqO_ok h5, He.eqO_ok h6, hm, no_super⟩
              refine ⟨_, S, Binds.all fun us hl => ?_⟩
              match us, hl with
              | [_, _], _ => rfl
            · cases k2
          · cases k4
        · cases k4
      · cases h1
    | _ => cases h1
def propB (K : Fg) (C : Addr) (m : Str) : Bool := He.eqO (PySem.W.findIn K (.ref C) m) (some (some (.ref (He.ma K C m)))) && (He.eqO (PySem.W.specialIn K (.ref (He.ma K C m)) "__get__") (some (some (.builtin "property.__get__"))) &&
  (decide (PySem.W.takesIn K (.ref (He.ma K C m)) = some true) && (match PySem.W.recIn K (He.ma K C m) "property" with
    | some (.ref _ :: _) => true
    | _ => false)))
theorem propB_ok {K : Fg} (h : propB K (He.ga K "Rule") "longest" = true) : PropOf K (He.ga K "Rule") "longest" (He.ma K (He.ga K "Rule") "longest") (aLongest K) := by
  obtain ⟨h1, h⟩ := He.ba h
  obtain ⟨h2, h⟩ := He.ba h
  obtain ⟨h3, h4⟩ := He.ba h
  refine ⟨He.eqO_ok h1, He.eqO_ok h2, of_decide_eq_true h3, ?_⟩
  unfold aLongest
  split at h4
  · rename_i g r e
    exact ⟨r, by rw [e]⟩
  · cases h4
/-- the further facts -/
def exB (K : Fg) : Bool := propB K (He.ga K "Rule") "longest" && (He5.wrapB K (He.ga K "Rule") "classmethod" "classmethod.__get__" "read" && (PySem.W.fnIn K (aRead K) && (PySem.W.readsIn K (He.ga K "Rule") (.type "type") &&
  (He.eqO (PySem.W.specialIn K (.ref (He.ga K "Rule")) "__getattribute__") (some (some (.builtin "type.__getattribute__"))) && supB K (He.ga K "InvalidRule") (aInv K)))))
/-! ### the Hook -/
abbrev AlY : Type := He.AlD × (SupV × Bool)
def obsY (K : Fg) : AlY := (He5.obsA fa fn K, (supW K (aInv K), exB K))
def valY : AlY := (He5.valA fn, (supVal, true))
def SaysY (K : Fg) : Prop := obsY K = valY
def obsYG (g : Addr → Option Obj) : AlY := obsY (He.frG g (He5.asA g 5))
def hk : PySem.W.Hook where
  α := AlY
  obs := fun s => obsYG s.heap.get?
  val := fun _ => valY
  says := fun _ h => ∃ K : PySem.W.Frag, K.In h ∧ SaysY K
  of := fun _ _ e => ⟨_, He.frG_in, e⟩
  keeps := fun _ _ _ ⟨K, hK, c⟩ k => ⟨K, PySem.W.Frag.In.keeps hK k, c⟩
def ob (s : PySem.W.SharedT) : AlY := obsYG (HandSHeadRun.getT s)
theorem ob_eq (s : PySem.W.SharedT) : ob s = hk.obs s.abs := by
  have e : HandSHeadRun.getT s = s.abs.heap.get? := funext (HandSHeadRun.getT_eq s)
  show obsYG (HandSHeadRun.getT s) = obsYG s.abs.heap.get?
  rw [e]
section
variable {K : Fg}
theorem SaysY.a (c : SaysY K) : He5.SaysA fa fn K := congrArg (fun z : AlY => z.1) c
theorem SaysY.fact (c : SaysY K) (i : Nat) {f : He.Fa} (h : fa[i]? = some f := by rfl) : f.ok K = true := c.a.fact i h
theorem SaysY.def_ (c : SaysY K) (i : Nat) {d : He5.DefA} (h : fn[i]? = some d := by rfl) : ∃ fd, FunD K d.name d.qual d.params d.body d.scope (d.dvs K) (d.kws K) (d.at_ K) fd := c.a.def_ i h
theorem SaysY.ex (c : SaysY K) : supW K (aInv K) = supVal ∧ exB K = true := ⟨congrArg (fun z : AlY => z.2.1) c, congrArg (fun z : AlY => z.2.2) c⟩
theorem prop_of (c : supW K (aInv K) = supVal ∧ exB K = true) : PropOf K (He.ga K "Rule") "longest" (He.ma K (He.ga K "Rule") "longest") (aLongest K) := propB_ok (He.ba c.2).1
theorem cmet_of (c : supW K (aInv K) = supVal ∧ exB K = true) : ClX.CMet K (He.ga K "Rule") (.type "type") "read" (He.ma K (He.ga K "Rule") "read") (aRead K) :=
  He5.cmet_of (He.ba (He.ba c.2).2).1 (He.ba (He.ba (He.ba c.2).2).2).1
theorem cread_of (c : supW K (aInv K) = supVal ∧ exB K = true) : ClX.CRead K (He.ga K "Rule") (.type "type") :=
  ⟨(He.ba (He.ba (He.ba (He.ba c.2).2).2).2).1, He.eqO_ok (He.ba (He.ba (He.ba (He.ba (He.ba c.2).2).2).2).2).1⟩
theorem invR_of {P : Program} {mg : Str → Option Value} (eP : P = R.prog) (c : supW K (aInv K) = supVal ∧ exB K = true) (hs : mg "super" = none) (hD : mg "InvalidRule" = some (.ref (He.ga K "InvalidRule")))
    (hx : PySem.W.exmOne K (.ref (He.ga K "InvalidRule")) (.ref (He.ga K "InvalidRule")) = some true) : InvR P K mg (He.ga K "InvalidRule") := by
  have hb : supB K (He.ga K "InvalidRule") (aInv K) = true := (He.ba (He.ba (He.ba (He.ba (He.ba c.2).2).2).2).2).2
  obtain ⟨fd, G, b⟩ := supB_ok eP c.1 hb hs
  have h2 := (He.ba hb).2
  have h3 := (He.ba (He.ba (He.ba (He.ba (He.ba (He.ba h2).2).2).2).2).2).1
  have h4 := (He.ba (He.ba (He.ba (He.ba (He.ba (He.ba (He.ba h2).2).2).2).2).2).2).1
  exact ⟨⟨aInv K, fd, G, He.eqO_ok h3, of_decide_eq_true h4, b⟩, hD, hx⟩
theorem bind_init {dvs : List V} {f : Addr} {fd : FuncData} (F : FnP K "__init__" "Rule.__init__" s_Rule___init__ dvs f fd) (hl : dvs.length = 1 := by rfl) : Binds K fd ["self", "flag", "stuffs"] [] := by
  obtain ⟨ds, r, b⟩ := FunD.binds1 (ps := ["self", "flag", "stuffs"]) F 3 1 (by intro e; rw [e] at hl; cases hl) (by rw [hl]; rfl) (fun T kV doc pm an cdv ct us its h1 h2 => by
    rw [hl] at h2
    match us, h1, its, h2 with
    | [_, _, _], _, [_], _ => exact ⟨_, rfl, rfl⟩)
  have e : dvs.drop 1 = [] := List.drop_eq_nil_of_le (by omega)
  rw [e] at r
  cases r
  exact b
end
end UF
set_option maxHeartbeats 0
namespace UF
open PySem PySem.Spec PyProof.Rows L2
/-- every promise is kept -/
theorem all_ok {P : Program} {w : World} {K : PySem.W.Frag} {h : Heap} {mg : Str → Option Value} (eP : P = R.prog) (X : K.In h) (G : h.Ns mainGlobals mg) (c : SaysY K) :
    ∃ fd : FuncData, (∀ (s : Shared) (v : Value), BindsTo s fd ⟨[v], []⟩ [("_law_script", v)]) ∧ ∀ base : Heap, FnOk P w K mg base CX0 11 (He.ga K "law") fd ["_law_script"] (sp_law K (He.ga K "Rule")) := by
  obtain ⟨fd_is_sequence, F_is_sequence⟩ := c.def_ 0 (d := d_is_sequence) rfl
  obtain ⟨fd_is_word, F_is_word⟩ := c.def_ 1 (d := d_is_word) rfl
  obtain ⟨fd_is_bit, F_is_bit⟩ := c.def_ 2 (d := d_is_bit) rfl
  obtain ⟨fd_is_stuff, F_is_stuff⟩ := c.def_ 3 (d := d_is_stuff) rfl
  obtain ⟨fd_are_stuffs, F_are_stuffs⟩ := c.def_ 4 (d := d_are_stuffs) rfl
  obtain ⟨fd_Rule_longest, F_Rule_longest⟩ := c.def_ 5 (d := d_Rule_longest) rfl
  obtain ⟨fd_Rule_put, F_Rule_put⟩ := c.def_ 6 (d := d_Rule_put) rfl
  obtain ⟨fd_tail, F_tail⟩ := c.def_ 7 (d := d_tail) rfl
  obtain ⟨fd_Rule_put_in, F_Rule_put_in⟩ := c.def_ 8 (d := d_Rule_put_in) rfl
  obtain ⟨fd_Rule_is_endless, F_Rule_is_endless⟩ := c.def_ 9 (d := d_Rule_is_endless) rfl
  obtain ⟨fd_Rule___init__, F_Rule___init__⟩ := c.def_ 10 (d := d_Rule___init__) rfl
  obtain ⟨fd__law_choose, F__law_choose⟩ := c.def_ 11 (d := d__law_choose) rfl
  obtain ⟨fd__law_ends, F__law_ends⟩ := c.def_ 12 (d := d__law_ends) rfl
  obtain ⟨fd__law_due, F__law_due⟩ := c.def_ 13 (d := d__law_due) rfl
  obtain ⟨fd__law_chain, F__law_chain⟩ := c.def_ 14 (d := d__law_chain) rfl
  obtain ⟨fd__law_tails, F__law_tails⟩ := c.def_ 15 (d := d__law_tails) rfl
  obtain ⟨fd__law_are_stuffs, F__law_are_stuffs⟩ := c.def_ 16 (d := d__law_are_stuffs) rfl
  obtain ⟨fd__law_one_of, F__law_one_of⟩ := c.def_ 17 (d := d__law_one_of) rfl
  obtain ⟨fd__law_turn, F__law_turn⟩ := c.def_ 18 (d := d__law_turn) rfl
  obtain ⟨fd__law_word, F__law_word⟩ := c.def_ 19 (d := d__law_word) rfl
  obtain ⟨fd__law_stuff, F__law_stuff⟩ := c.def_ 20 (d := d__law_stuff) rfl
  obtain ⟨fd__law_rule, F__law_rule⟩ := c.def_ 21 (d := d__law_rule) rfl
  obtain ⟨fd__law_seed, F__law_seed⟩ := c.def_ 22 (d := d__law_seed) rfl
  obtain ⟨fd_put_behind, F_put_behind⟩ := c.def_ 23 (d := d_put_behind) rfl
  obtain ⟨fd_parting, F_parting⟩ := c.def_ 24 (d := d_parting) rfl
  obtain ⟨fd_alike, F_alike⟩ := c.def_ 25 (d := d_alike) rfl
  obtain ⟨fd_body, F_body⟩ := c.def_ 26 (d := d_body) rfl
  obtain ⟨fd_last_bits, F_last_bits⟩ := c.def_ 27 (d := d_last_bits) rfl
  obtain ⟨fd_grown, F_grown⟩ := c.def_ 28 (d := d_grown) rfl
  obtain ⟨fd_is_border_clean, F_is_border_clean⟩ := c.def_ 29 (d := d_is_border_clean) rfl
  obtain ⟨fd_width, F_width⟩ := c.def_ 30 (d := d_width) rfl
  obtain ⟨fd_walk, F_walk⟩ := c.def_ 31 (d := d_walk) rfl
  obtain ⟨fd_spoiled, F_spoiled⟩ := c.def_ 32 (d := d_spoiled) rfl
  obtain ⟨fd_is_clean, F_is_clean⟩ := c.def_ 33 (d := d_is_clean) rfl
  obtain ⟨fd_all_words, F_all_words⟩ := c.def_ 34 (d := d_all_words) rfl
  obtain ⟨fd_rule_with, F_rule_with⟩ := c.def_ 35 (d := d_rule_with) rfl
  obtain ⟨fd_single_rules, F_single_rules⟩ := c.def_ 36 (d := d_single_rules) rfl
  obtain ⟨fd_all_clean, F_all_clean⟩ := c.def_ 37 (d := d_all_clean) rfl
  obtain ⟨fd_least_of, F_least_of⟩ := c.def_ 38 (d := d_least_of) rfl
  obtain ⟨fd_common, F_common⟩ := c.def_ 39 (d := d_common) rfl
  obtain ⟨fd_lowest, F_lowest⟩ := c.def_ 40 (d := d_lowest) rfl
  obtain ⟨fd_move, F_move⟩ := c.def_ 41 (d := d_move) rfl
  obtain ⟨fd_moves_of, F_moves_of⟩ := c.def_ 42 (d := d_moves_of) rfl
  obtain ⟨fd_walks, F_walks⟩ := c.def_ 43 (d := d_walks) rfl
  obtain ⟨fd_rate, F_rate⟩ := c.def_ 44 (d := d_rate) rfl
  obtain ⟨fd_Rule___str__, F_Rule___str__⟩ := c.def_ 45 (d := d_Rule___str__) rfl
  obtain ⟨fd_cheapest, F_cheapest⟩ := c.def_ 46 (d := d_cheapest) rfl
  obtain ⟨fd_clean_rules, F_clean_rules⟩ := c.def_ 47 (d := d_clean_rules) rfl
  obtain ⟨fd_could_be, F_could_be⟩ := c.def_ 48 (d := d_could_be) rfl
  obtain ⟨fd_best_left, F_best_left⟩ := c.def_ 49 (d := d_best_left) rfl
  obtain ⟨fd_dearest, F_dearest⟩ := c.def_ 50 (d := d_dearest) rfl
  obtain ⟨fd_most_put, F_most_put⟩ := c.def_ 51 (d := d_most_put) rfl
  obtain ⟨fd_is_at_most, F_is_at_most⟩ := c.def_ 52 (d := d_is_at_most) rfl
  obtain ⟨fd_rate_paper, F_rate_paper⟩ := c.def_ 53 (d := d_rate_paper) rfl
  obtain ⟨fd_is_integer, F_is_integer⟩ := c.def_ 54 (d := d_is_integer) rfl
  obtain ⟨fd_is_value, F_is_value⟩ := c.def_ 55 (d := d_is_value) rfl
  obtain ⟨fd_is_entry, F_is_entry⟩ := c.def_ 56 (d := d_is_entry) rfl
  obtain ⟨fd_is_kept, F_is_kept⟩ := c.def_ 57 (d := d_is_kept) rfl
  obtain ⟨fd_rate_paper_holds, F_rate_paper_holds⟩ := c.def_ 58 (d := d_rate_paper_holds) rfl
  obtain ⟨fd_stuff_in, F_stuff_in⟩ := c.def_ 59 (d := d_stuff_in) rfl
  obtain ⟨fd_Rule_read, F_Rule_read⟩ := c.def_ 60 (d := d_Rule_read) rfl
  obtain ⟨fd_law, F_law⟩ := c.def_ 61 (d := d_law) rfl
  have T : TX K mg (He.ga K "Rule") := {
    n_len := He.free_ok X G (c.fact 55 (f := .free "len") rfl)
    n_int := He.free_ok X G (c.fact 56 (f := .free "int") rfl)
    n_str := He.free_ok X G (c.fact 57 (f := .free "str") rfl)
    n_bool := He.free_ok X G (c.fact 58 (f := .free "bool") rfl)
    n_list := He.free_ok X G (c.fact 59 (f := .free "list") rfl)
    n_tuple := He.free_ok X G (c.fact 60 (f := .free "tuple") rfl)
    n_isinstance := He.free_ok X G (c.fact 61 (f := .free "isinstance") rfl)
    n_all := He.free_ok X G (c.fact 62 (f := .free "all") rfl)
    n_any := He.free_ok X G (c.fact 63 (f := .free "any") rfl)
    n_max := He.free_ok X G (c.fact 64 (f := .free "max") rfl)
    n_min := He.free_ok X G (c.fact 65 (f := .free "min") rfl)
    n_sorted := He.free_ok X G (c.fact 66 (f := .free "sorted") rfl)
    n_abs := He.free_ok X G (c.fact 67 (f := .free "abs") rfl)
    n_range := He.free_ok X G (c.fact 68 (f := .free "range") rfl)
    n_enumerate := He.free_ok X G (c.fact 69 (f := .free "enumerate") rfl)
    g_bits := He.str_ok X G (c.fact 71 (f := .str "BITS" "01") rfl)
    cl := He.cls_ok (c.fact 72 (f := .cls "Rule") rfl)
    nF := He.noat_ok (c.fact 73 (f := .noat "Rule" "flag") rfl)
    nS := He.noat_ok (c.fact 74 (f := .noat "Rule" "stuffs") rfl)
    mgC := He.glo_ok X G (c.fact 80 (f := .glo "Rule") rfl) }
  have GI : InvR P K mg (He.ga K "InvalidRule") := invR_of eP c.ex (He.free_ok X G (c.fact 70 (f := .free "super") rfl)) (He.glo_ok X G (c.fact 81 (f := .glo "InvalidRule") rfl)) (He.exm_ok (c.fact 82 (f := .exm "InvalidRule" "InvalidRule" true) rfl))
  refine ⟨fd_law, fun s v => FunD.bindsA (ps := ["_law_script"]) F_law (fun _ _ _ _ _ _ us hl => match us, hl with | [_], _ => rfl) s [v] rfl, fun base => ?_⟩
  have o_is_sequence : FnOk P w K mg base CX0 1 (He.ga K "is_sequence") fd_is_sequence ["value"] (sp_is_sequence K (He.ga K "Rule")) := ok_is_sequence F_is_sequence T
  have c_is_sequence : Cal P w K mg base 1 "is_sequence" ["value"] (sp_is_sequence K (He.ga K "Rule")) := ⟨⟨_, _, o_is_sequence, He.glo_ok X G (c.fact 0 (f := .glo "is_sequence") rfl), F_is_sequence.kp, (FunD.bindsN F_is_sequence (fun _ _ _ _ _ _ us hl => match us, hl with | [_], _ => rfl))⟩⟩
  have o_is_word : FnOk P w K mg base CX0 1 (He.ga K "is_word") fd_is_word ["value"] (sp_is_word K (He.ga K "Rule")) := ok_is_word F_is_word T
  have c_is_word : Cal P w K mg base 1 "is_word" ["value"] (sp_is_word K (He.ga K "Rule")) := ⟨⟨_, _, o_is_word, He.glo_ok X G (c.fact 1 (f := .glo "is_word") rfl), F_is_word.kp, (FunD.bindsN F_is_word (fun _ _ _ _ _ _ us hl => match us, hl with | [_], _ => rfl))⟩⟩
  have o_is_bit : FnOk P w K mg base CX0 2 (He.ga K "is_bit") fd_is_bit ["value"] (sp_is_bit K (He.ga K "Rule")) := ok_is_bit F_is_bit T c_is_word
  have c_is_bit : Cal P w K mg base 2 "is_bit" ["value"] (sp_is_bit K (He.ga K "Rule")) := ⟨⟨_, _, o_is_bit, He.glo_ok X G (c.fact 2 (f := .glo "is_bit") rfl), F_is_bit.kp, (FunD.bindsN F_is_bit (fun _ _ _ _ _ _ us hl => match us, hl with | [_], _ => rfl))⟩⟩
  have o_is_stuff : FnOk P w K mg base CX0 3 (He.ga K "is_stuff") fd_is_stuff ["value"] (sp_is_stuff K (He.ga K "Rule")) := ok_is_stuff F_is_stuff T c_is_bit c_is_word
  have c_is_stuff : Cal P w K mg base 3 "is_stuff" ["value"] (sp_is_stuff K (He.ga K "Rule")) := ⟨⟨_, _, o_is_stuff, He.glo_ok X G (c.fact 3 (f := .glo "is_stuff") rfl), F_is_stuff.kp, (FunD.bindsN F_is_stuff (fun _ _ _ _ _ _ us hl => match us, hl with | [_], _ => rfl))⟩⟩
  have o_are_stuffs : FnOk P w K mg base CX0 4 (He.ga K "are_stuffs") fd_are_stuffs ["value"] (sp_are_stuffs K (He.ga K "Rule")) := ok_are_stuffs F_are_stuffs T c_is_sequence c_is_stuff
  have c_are_stuffs : Cal P w K mg base 4 "are_stuffs" ["value"] (sp_are_stuffs K (He.ga K "Rule")) := ⟨⟨_, _, o_are_stuffs, He.glo_ok X G (c.fact 4 (f := .glo "are_stuffs") rfl), F_are_stuffs.kp, (FunD.bindsN F_are_stuffs (fun _ _ _ _ _ _ us hl => match us, hl with | [_], _ => rfl))⟩⟩
  have o_Rule_longest : FnOk P w K mg base CX0 1 (aLongest K) fd_Rule_longest ["self"] (sp_Rule_longest K (He.ga K "Rule")) := ok_Rule_longest F_Rule_longest T
  have c_longest : Prp P w K mg base 1 (He.ga K "Rule") "longest" ["self"] (sp_Rule_longest K (He.ga K "Rule")) := ⟨⟨_, _, _, o_Rule_longest, T.cl, prop_of c.ex, (FunD.bindsN F_Rule_longest (fun _ _ _ _ _ _ us hl => match us, hl with | [_], _ => rfl))⟩⟩
  have o_Rule_put : FnOk P w K mg base CX0 1 (He.ma K (He.ga K "Rule") "put") fd_Rule_put ["self", "line"] (sp_Rule_put K (He.ga K "Rule")) := ok_Rule_put F_Rule_put T
  have c_put : Mth P w K mg base 1 (He.ga K "Rule") "put" ["self", "line"] (sp_Rule_put K (He.ga K "Rule")) := ⟨⟨_, _, o_Rule_put, T.cl, He.meth_ok (c.fact 75 (f := .meth "Rule" "put") rfl), (FunD.bindsN F_Rule_put (fun _ _ _ _ _ _ us hl => match us, hl with | [_, _], _ => rfl))⟩⟩
  have o_tail : FnOk P w K mg base CX0 1 (He.ga K "tail") fd_tail ["line", "size"] (sp_tail K (He.ga K "Rule")) := ok_tail F_tail T
  have c_tail : Cal P w K mg base 1 "tail" ["line", "size"] (sp_tail K (He.ga K "Rule")) := ⟨⟨_, _, o_tail, He.glo_ok X G (c.fact 5 (f := .glo "tail") rfl), F_tail.kp, (FunD.bindsN F_tail (fun _ _ _ _ _ _ us hl => match us, hl with | [_, _], _ => rfl))⟩⟩
  have o_Rule_put_in : FnOk P w K mg base CX0 3 (He.ma K (He.ga K "Rule") "put_in") fd_Rule_put_in ["self", "line"] (sp_Rule_put_in K (He.ga K "Rule")) := ok_Rule_put_in F_Rule_put_in T c_longest c_put c_tail
  have c_put_in : Mth P w K mg base 3 (He.ga K "Rule") "put_in" ["self", "line"] (sp_Rule_put_in K (He.ga K "Rule")) := ⟨⟨_, _, o_Rule_put_in, T.cl, He.meth_ok (c.fact 76 (f := .meth "Rule" "put_in") rfl), (FunD.bindsN F_Rule_put_in (fun _ _ _ _ _ _ us hl => match us, hl with | [_, _], _ => rfl))⟩⟩
  have o_Rule_is_endless : FnOk P w K mg base CX0 4 (He.ma K (He.ga K "Rule") "is_endless") fd_Rule_is_endless ["self"] (sp_Rule_is_endless K (He.ga K "Rule")) := ok_Rule_is_endless F_Rule_is_endless T c_longest c_put_in c_tail
  have c_is_endless : Mth P w K mg base 4 (He.ga K "Rule") "is_endless" ["self"] (sp_Rule_is_endless K (He.ga K "Rule")) := ⟨⟨_, _, o_Rule_is_endless, T.cl, He.meth_ok (c.fact 77 (f := .meth "Rule" "is_endless") rfl), (FunD.bindsN F_Rule_is_endless (fun _ _ _ _ _ _ us hl => match us, hl with | [_], _ => rfl))⟩⟩
  have o_Rule___init__ : FnOk P w K mg base (L2.CX P w) 5 (He.ma K (He.ga K "Rule") "__init__") fd_Rule___init__ ["self", "flag", "stuffs"] (sp_Rule___init__ K (He.ga K "Rule") (He.ga K "InvalidRule")) := ok_Rule___init__ F_Rule___init__ T GI c_are_stuffs c_is_endless c_is_word
  have c_Rule : Rul P w K mg base 5 (He.ga K "Rule") (sp_Rule___init__ K (He.ga K "Rule") (He.ga K "InvalidRule")) := ⟨⟨_, _, o_Rule___init__, He.mkr_ok (c.fact 79 (f := .mkr "Rule") rfl), bind_init F_Rule___init__⟩, T.mgC⟩
  have o__law_choose : FnOk P w K mg base CX0 1 (He.ga K "_law_choose") fd__law_choose ["_law_box", "_law_many"] (sp__law_choose K (He.ga K "Rule")) := ok__law_choose F__law_choose T
  have c__law_choose : Cal P w K mg base 1 "_law_choose" ["_law_box", "_law_many"] (sp__law_choose K (He.ga K "Rule")) := ⟨⟨_, _, o__law_choose, He.glo_ok X G (c.fact 6 (f := .glo "_law_choose") rfl), F__law_choose.kp, (FunD.bindsN F__law_choose (fun _ _ _ _ _ _ us hl => match us, hl with | [_, _], _ => rfl))⟩⟩
  have o__law_ends : FnOk P w K mg base CX0 1 (He.ga K "_law_ends") fd__law_ends ["_law_line", "_law_pattern"] (sp__law_ends K (He.ga K "Rule")) := ok__law_ends F__law_ends T
  have c__law_ends : Cal P w K mg base 1 "_law_ends" ["_law_line", "_law_pattern"] (sp__law_ends K (He.ga K "Rule")) := ⟨⟨_, _, o__law_ends, He.glo_ok X G (c.fact 7 (f := .glo "_law_ends") rfl), F__law_ends.kp, (FunD.bindsN F__law_ends (fun _ _ _ _ _ _ us hl => match us, hl with | [_, _], _ => rfl))⟩⟩
  have o__law_due : FnOk P w K mg base CX0 2 (He.ga K "_law_due") fd__law_due ["_law_stuffs", "_law_line"] (sp__law_due K (He.ga K "Rule")) := ok__law_due F__law_due T c__law_ends
  have c__law_due : Cal P w K mg base 2 "_law_due" ["_law_stuffs", "_law_line"] (sp__law_due K (He.ga K "Rule")) := ⟨⟨_, _, o__law_due, He.glo_ok X G (c.fact 8 (f := .glo "_law_due") rfl), F__law_due.kp, (FunD.bindsN F__law_due (fun _ _ _ _ _ _ us hl => match us, hl with | [_, _], _ => rfl))⟩⟩
  have o__law_chain : FnOk P w K mg base CX0 3 (He.ga K "_law_chain") fd__law_chain ["_law_stuffs", "_law_line"] (sp__law_chain K (He.ga K "Rule")) := ok__law_chain F__law_chain T c__law_due
  have c__law_chain : Cal P w K mg base 3 "_law_chain" ["_law_stuffs", "_law_line"] (sp__law_chain K (He.ga K "Rule")) := ⟨⟨_, _, o__law_chain, He.glo_ok X G (c.fact 9 (f := .glo "_law_chain") rfl), F__law_chain.kp, (FunD.bindsN F__law_chain (fun _ _ _ _ _ _ us hl => match us, hl with | [_, _], _ => rfl))⟩⟩
  have o__law_tails : FnOk P w K mg base CX0 4 (He.ga K "_law_tails") fd__law_tails ["_law_stuffs"] (sp__law_tails K (He.ga K "Rule")) := ok__law_tails F__law_tails T c__law_chain
  have c__law_tails : Cal P w K mg base 4 "_law_tails" ["_law_stuffs"] (sp__law_tails K (He.ga K "Rule")) := ⟨⟨_, _, o__law_tails, He.glo_ok X G (c.fact 10 (f := .glo "_law_tails") rfl), F__law_tails.kp, (FunD.bindsN F__law_tails (fun _ _ _ _ _ _ us hl => match us, hl with | [_], _ => rfl))⟩⟩
  have o__law_are_stuffs : FnOk P w K mg base CX0 5 (He.ga K "_law_are_stuffs") fd__law_are_stuffs ["_law_stuffs"] (sp__law_are_stuffs K (He.ga K "Rule")) := ok__law_are_stuffs F__law_are_stuffs T c__law_ends c__law_tails
  have c__law_are_stuffs : Cal P w K mg base 5 "_law_are_stuffs" ["_law_stuffs"] (sp__law_are_stuffs K (He.ga K "Rule")) := ⟨⟨_, _, o__law_are_stuffs, He.glo_ok X G (c.fact 11 (f := .glo "_law_are_stuffs") rfl), F__law_are_stuffs.kp, (FunD.bindsN F__law_are_stuffs (fun _ _ _ _ _ _ us hl => match us, hl with | [_], _ => rfl))⟩⟩
  have o__law_one_of : FnOk P w K mg base CX0 2 (He.ga K "_law_one_of") fd__law_one_of ["_law_box", "_law_some"] (sp__law_one_of K (He.ga K "Rule")) := ok__law_one_of F__law_one_of T c__law_choose
  have c__law_one_of : Cal P w K mg base 2 "_law_one_of" ["_law_box", "_law_some"] (sp__law_one_of K (He.ga K "Rule")) := ⟨⟨_, _, o__law_one_of, He.glo_ok X G (c.fact 12 (f := .glo "_law_one_of") rfl), F__law_one_of.kp, (FunD.bindsN F__law_one_of (fun _ _ _ _ _ _ us hl => match us, hl with | [_, _], _ => rfl))⟩⟩
  have o__law_turn : FnOk P w K mg base CX0 1 (He.ga K "_law_turn") fd__law_turn ["_law_bit"] (sp__law_turn K (He.ga K "Rule")) := ok__law_turn F__law_turn T
  have c__law_turn : Cal P w K mg base 1 "_law_turn" ["_law_bit"] (sp__law_turn K (He.ga K "Rule")) := ⟨⟨_, _, o__law_turn, He.glo_ok X G (c.fact 13 (f := .glo "_law_turn") rfl), F__law_turn.kp, (FunD.bindsN F__law_turn (fun _ _ _ _ _ _ us hl => match us, hl with | [_], _ => rfl))⟩⟩
  have o__law_word : FnOk P w K mg base CX0 3 (He.ga K "_law_word") fd__law_word ["_law_box", "_law_size"] (sp__law_word K (He.ga K "Rule")) := ok__law_word F__law_word T c__law_one_of
  have c__law_word : Cal P w K mg base 3 "_law_word" ["_law_box", "_law_size"] (sp__law_word K (He.ga K "Rule")) := ⟨⟨_, _, o__law_word, He.glo_ok X G (c.fact 14 (f := .glo "_law_word") rfl), F__law_word.kp, (FunD.bindsN F__law_word (fun _ _ _ _ _ _ us hl => match us, hl with | [_, _], _ => rfl))⟩⟩
  have o__law_stuff : FnOk P w K mg base CX0 4 (He.ga K "_law_stuff") fd__law_stuff ["_law_box", "_law_flag", "_law_most"] (sp__law_stuff K (He.ga K "Rule")) := ok__law_stuff F__law_stuff T c__law_choose c__law_turn c__law_word
  have c__law_stuff : Cal P w K mg base 4 "_law_stuff" ["_law_box", "_law_flag", "_law_most"] (sp__law_stuff K (He.ga K "Rule")) := ⟨⟨_, _, o__law_stuff, He.glo_ok X G (c.fact 15 (f := .glo "_law_stuff") rfl), F__law_stuff.kp, (FunD.bindsN F__law_stuff (fun _ _ _ _ _ _ us hl => match us, hl with | [_, _, _], _ => rfl))⟩⟩
  have o__law_rule : FnOk P w K mg base CX0 6 (He.ga K "_law_rule") fd__law_rule ["_law_box", "_law_top", "_law_most"] (sp__law_rule K (He.ga K "Rule")) := ok__law_rule F__law_rule T c__law_are_stuffs c__law_choose c__law_one_of c__law_stuff c__law_word
  have c__law_rule : Cal P w K mg base 6 "_law_rule" ["_law_box", "_law_top", "_law_most"] (sp__law_rule K (He.ga K "Rule")) := ⟨⟨_, _, o__law_rule, He.glo_ok X G (c.fact 16 (f := .glo "_law_rule") rfl), F__law_rule.kp, (FunD.bindsN F__law_rule (fun _ _ _ _ _ _ us hl => match us, hl with | [_, _, _], _ => rfl))⟩⟩
  have o__law_seed : FnOk P w K mg base CX0 1 (He.ga K "_law_seed") fd__law_seed ["_law_script", "_law_k"] (sp__law_seed K (He.ga K "Rule")) := ok__law_seed F__law_seed T
  have c__law_seed : Cal P w K mg base 1 "_law_seed" ["_law_script", "_law_k"] (sp__law_seed K (He.ga K "Rule")) := ⟨⟨_, _, o__law_seed, He.glo_ok X G (c.fact 17 (f := .glo "_law_seed") rfl), F__law_seed.kp, (FunD.bindsN F__law_seed (fun _ _ _ _ _ _ us hl => match us, hl with | [_, _], _ => rfl))⟩⟩
  have o_put_behind : FnOk P w K mg base CX0 2 (He.ga K "put_behind") fd_put_behind ["rule", "line"] (sp_put_behind K (He.ga K "Rule")) := ok_put_behind F_put_behind T c_put
  have c_put_behind : Cal P w K mg base 2 "put_behind" ["rule", "line"] (sp_put_behind K (He.ga K "Rule")) := ⟨⟨_, _, o_put_behind, He.glo_ok X G (c.fact 18 (f := .glo "put_behind") rfl), F_put_behind.kp, (FunD.bindsN F_put_behind (fun _ _ _ _ _ _ us hl => match us, hl with | [_, _], _ => rfl))⟩⟩
  have o_parting : FnOk P w K mg base CX0 3 (He.ga K "parting") fd_parting ["p", "q"] (sp_parting K (He.ga K "Rule")) := ok_parting F_parting T c_longest c_put_behind c_tail
  have c_parting : Cal P w K mg base 3 "parting" ["p", "q"] (sp_parting K (He.ga K "Rule")) := ⟨⟨_, _, o_parting, He.glo_ok X G (c.fact 19 (f := .glo "parting") rfl), F_parting.kp, (FunD.bindsN F_parting (fun _ _ _ _ _ _ us hl => match us, hl with | [_, _], _ => rfl))⟩⟩
  have o_alike : FnOk P w K mg base CX0 4 (He.ga K "alike") fd_alike ["p", "q"] (sp_alike K (He.ga K "Rule")) := ok_alike F_alike T c_parting
  have c_alike : Cal P w K mg base 4 "alike" ["p", "q"] (sp_alike K (He.ga K "Rule")) := ⟨⟨_, _, o_alike, He.glo_ok X G (c.fact 20 (f := .glo "alike") rfl), F_alike.kp, (FunD.bindsN F_alike (fun _ _ _ _ _ _ us hl => match us, hl with | [_, _], _ => rfl))⟩⟩
  have o_body : FnOk P w K mg base CX0 3 (He.ga K "body") fd_body ["rule", "message"] (sp_body K (He.ga K "Rule")) := ok_body F_body T c_put_behind
  have c_body : Cal P w K mg base 3 "body" ["rule", "message"] (sp_body K (He.ga K "Rule")) := ⟨⟨_, _, o_body, He.glo_ok X G (c.fact 21 (f := .glo "body") rfl), F_body.kp, (FunD.bindsN F_body (fun _ _ _ _ _ _ us hl => match us, hl with | [_, _], _ => rfl))⟩⟩
  have o_last_bits : FnOk P w K mg base CX0 1 (He.ga K "last_bits") fd_last_bits ["line", "many"] (sp_last_bits K (He.ga K "Rule")) := ok_last_bits F_last_bits T
  have c_last_bits : Cal P w K mg base 1 "last_bits" ["line", "many"] (sp_last_bits K (He.ga K "Rule")) := ⟨⟨_, _, o_last_bits, He.glo_ok X G (c.fact 22 (f := .glo "last_bits") rfl), F_last_bits.kp, (FunD.bindsN F_last_bits (fun _ _ _ _ _ _ us hl => match us, hl with | [_, _], _ => rfl))⟩⟩
  have o_grown : FnOk P w K mg base CX0 3 (He.ga K "grown") fd_grown ["rule", "standing", "bit"] (sp_grown K (He.ga K "Rule")) := ok_grown F_grown T c_last_bits c_longest c_put
  have c_grown : Cal P w K mg base 3 "grown" ["rule", "standing", "bit"] (sp_grown K (He.ga K "Rule")) := ⟨⟨_, _, o_grown, He.glo_ok X G (c.fact 23 (f := .glo "grown") rfl), F_grown.kp, (FunD.bindsN F_grown (fun _ _ _ _ _ _ us hl => match us, hl with | [_, _, _], _ => rfl))⟩⟩
  have o_is_border_clean : FnOk P w K mg base CX0 1 (He.ga K "is_border_clean") fd_is_border_clean ["rule", "standing"] (sp_is_border_clean K (He.ga K "Rule")) := ok_is_border_clean F_is_border_clean T
  have c_is_border_clean : Cal P w K mg base 1 "is_border_clean" ["rule", "standing"] (sp_is_border_clean K (He.ga K "Rule")) := ⟨⟨_, _, o_is_border_clean, He.glo_ok X G (c.fact 24 (f := .glo "is_border_clean") rfl), F_is_border_clean.kp, (FunD.bindsN F_is_border_clean (fun _ _ _ _ _ _ us hl => match us, hl with | [_, _], _ => rfl))⟩⟩
  have o_width : FnOk P w K mg base CX0 3 (He.ga K "width") fd_width ["rule"] (sp_width K (He.ga K "Rule")) := ok_width F_width T c_longest
  have c_width : Cal P w K mg base 3 "width" ["rule"] (sp_width K (He.ga K "Rule")) := ⟨⟨_, _, o_width, He.glo_ok X G (c.fact 25 (f := .glo "width") rfl), F_width.kp, (FunD.bindsN F_width (fun _ _ _ _ _ _ us hl => match us, hl with | [_], _ => rfl))⟩⟩
  have o_walk : FnOk P w K mg base CX0 4 (He.ga K "walk") fd_walk ["rule"] (sp_walk K (He.ga K "Rule")) := ok_walk F_walk T c_grown c_is_border_clean c_last_bits c_width
  have c_walk : Cal P w K mg base 4 "walk" ["rule"] (sp_walk K (He.ga K "Rule")) := ⟨⟨_, _, o_walk, He.glo_ok X G (c.fact 26 (f := .glo "walk") rfl), F_walk.kp, (FunD.bindsN F_walk (fun _ _ _ _ _ _ us hl => match us, hl with | [_], _ => rfl))⟩⟩
  have o_spoiled : FnOk P w K mg base CX0 5 (He.ga K "spoiled") fd_spoiled ["rule"] (sp_spoiled K (He.ga K "Rule")) := ok_spoiled F_spoiled T c_walk
  have c_spoiled : Cal P w K mg base 5 "spoiled" ["rule"] (sp_spoiled K (He.ga K "Rule")) := ⟨⟨_, _, o_spoiled, He.glo_ok X G (c.fact 27 (f := .glo "spoiled") rfl), F_spoiled.kp, (FunD.bindsN F_spoiled (fun _ _ _ _ _ _ us hl => match us, hl with | [_], _ => rfl))⟩⟩
  have o_is_clean : FnOk P w K mg base CX0 6 (He.ga K "is_clean") fd_is_clean ["rule"] (sp_is_clean K (He.ga K "Rule")) := ok_is_clean F_is_clean T c_spoiled
  have c_is_clean : Cal P w K mg base 6 "is_clean" ["rule"] (sp_is_clean K (He.ga K "Rule")) := ⟨⟨_, _, o_is_clean, He.glo_ok X G (c.fact 28 (f := .glo "is_clean") rfl), F_is_clean.kp, (FunD.bindsN F_is_clean (fun _ _ _ _ _ _ us hl => match us, hl with | [_], _ => rfl))⟩⟩
  have o_all_words : FnOk P w K mg base CX0 1 (He.ga K "all_words") fd_all_words ["size"] (sp_all_words K (He.ga K "Rule")) := ok_all_words F_all_words T
  have c_all_words : Cal P w K mg base 1 "all_words" ["size"] (sp_all_words K (He.ga K "Rule")) := ⟨⟨_, _, o_all_words, He.glo_ok X G (c.fact 29 (f := .glo "all_words") rfl), F_all_words.kp, (FunD.bindsN F_all_words (fun _ _ _ _ _ _ us hl => match us, hl with | [_], _ => rfl))⟩⟩
  have o_rule_with : FnOk P w K mg base CX0 7 (He.ga K "rule_with") fd_rule_with ["flag", "pattern", "bit"] (sp_rule_with K (He.ga K "Rule")) := ok_rule_with F_rule_with T GI c_Rule
  have c_rule_with : Cal P w K mg base 7 "rule_with" ["flag", "pattern", "bit"] (sp_rule_with K (He.ga K "Rule")) := ⟨⟨_, _, o_rule_with, He.glo_ok X G (c.fact 30 (f := .glo "rule_with") rfl), F_rule_with.kp, (FunD.bindsN F_rule_with (fun _ _ _ _ _ _ us hl => match us, hl with | [_, _, _], _ => rfl))⟩⟩
  have o_single_rules : FnOk P w K mg base CX0 8 (He.ga K "single_rules") fd_single_rules ["flag", "size"] (sp_single_rules K (He.ga K "Rule")) := ok_single_rules F_single_rules T c_all_words c_rule_with
  have c_single_rules : Cal P w K mg base 8 "single_rules" ["flag", "size"] (sp_single_rules K (He.ga K "Rule")) := ⟨⟨_, _, o_single_rules, He.glo_ok X G (c.fact 31 (f := .glo "single_rules") rfl), F_single_rules.kp, (FunD.bindsN F_single_rules (fun _ _ _ _ _ _ us hl => match us, hl with | [_, _], _ => rfl))⟩⟩
  have o_all_clean : FnOk P w K mg base CX0 9 (He.ga K "all_clean") fd_all_clean ["flag", "size"] (sp_all_clean K (He.ga K "Rule")) := ok_all_clean F_all_clean T c_is_clean c_single_rules
  have c_all_clean : Cal P w K mg base 9 "all_clean" ["flag", "size"] (sp_all_clean K (He.ga K "Rule")) := ⟨⟨_, _, o_all_clean, He.glo_ok X G (c.fact 32 (f := .glo "all_clean") rfl), F_all_clean.kp, (FunD.bindsN F_all_clean (fun _ _ _ _ _ _ us hl => match us, hl with | [_, _], _ => rfl))⟩⟩
  have o_least_of : FnOk P w K mg base CX0 1 (He.ga K "least_of") fd_least_of ["values"] (sp_least_of K (He.ga K "Rule")) := ok_least_of F_least_of T
  have c_least_of : Cal P w K mg base 1 "least_of" ["values"] (sp_least_of K (He.ga K "Rule")) := ⟨⟨_, _, o_least_of, He.glo_ok X G (c.fact 33 (f := .glo "least_of") rfl), F_least_of.kp, (FunD.bindsN F_least_of (fun _ _ _ _ _ _ us hl => match us, hl with | [_], _ => rfl))⟩⟩
  have o_common : FnOk P w K mg base CX0 1 (He.ga K "common") fd_common ["p", "q"] (sp_common K (He.ga K "Rule")) := ok_common F_common T
  have c_common : Cal P w K mg base 1 "common" ["p", "q"] (sp_common K (He.ga K "Rule")) := ⟨⟨_, _, o_common, He.glo_ok X G (c.fact 34 (f := .glo "common") rfl), F_common.kp, (FunD.bindsN F_common (fun _ _ _ _ _ _ us hl => match us, hl with | [_, _], _ => rfl))⟩⟩
  have o_lowest : FnOk P w K mg base CX0 2 (He.ga K "lowest") fd_lowest ["p", "q"] (sp_lowest K (He.ga K "Rule")) := ok_lowest F_lowest T c_common
  have c_lowest : Cal P w K mg base 2 "lowest" ["p", "q"] (sp_lowest K (He.ga K "Rule")) := ⟨⟨_, _, o_lowest, He.glo_ok X G (c.fact 35 (f := .glo "lowest") rfl), F_lowest.kp, (FunD.bindsN F_lowest (fun _ _ _ _ _ _ us hl => match us, hl with | [_, _], _ => rfl))⟩⟩
  have o_move : FnOk P w K mg base CX0 4 (He.ga K "move") fd_move ["rule", "standing", "bit"] (sp_move K (He.ga K "Rule")) := ok_move F_move T c_longest c_put_in c_tail
  have c_move : Cal P w K mg base 4 "move" ["rule", "standing", "bit"] (sp_move K (He.ga K "Rule")) := ⟨⟨_, _, o_move, He.glo_ok X G (c.fact 36 (f := .glo "move") rfl), F_move.kp, (FunD.bindsN F_move (fun _ _ _ _ _ _ us hl => match us, hl with | [_, _, _], _ => rfl))⟩⟩
  have o_moves_of : FnOk P w K mg base CX0 5 (He.ga K "moves_of") fd_moves_of ["rule"] (sp_moves_of K (He.ga K "Rule")) := ok_moves_of F_moves_of T c_move
  have c_moves_of : Cal P w K mg base 5 "moves_of" ["rule"] (sp_moves_of K (He.ga K "Rule")) := ⟨⟨_, _, o_moves_of, He.glo_ok X G (c.fact 37 (f := .glo "moves_of") rfl), F_moves_of.kp, (FunD.bindsN F_moves_of (fun _ _ _ _ _ _ us hl => match us, hl with | [_], _ => rfl))⟩⟩
  have o_walks : FnOk P w K mg base CX0 1 (He.ga K "walks") fd_walks ["moves"] (sp_walks K (He.ga K "Rule")) := ok_walks F_walks T
  have c_walks : Cal P w K mg base 1 "walks" ["moves"] (sp_walks K (He.ga K "Rule")) := ⟨⟨_, _, o_walks, He.glo_ok X G (c.fact 38 (f := .glo "walks") rfl), F_walks.kp, (FunD.bindsN F_walks (fun _ _ _ _ _ _ us hl => match us, hl with | [_], _ => rfl))⟩⟩
  have o_rate : FnOk P w K mg base CX0 6 (He.ga K "rate") fd_rate ["rule"] (sp_rate K (He.ga K "Rule")) := ok_rate F_rate T c_least_of c_lowest c_moves_of c_walks
  have c_rate : Cal P w K mg base 6 "rate" ["rule"] (sp_rate K (He.ga K "Rule")) := ⟨⟨_, _, o_rate, He.glo_ok X G (c.fact 39 (f := .glo "rate") rfl), F_rate.kp, (FunD.bindsN F_rate (fun _ _ _ _ _ _ us hl => match us, hl with | [_], _ => rfl))⟩⟩
  have o_Rule___str__ : FnOk P w K mg base CX0 1 (He.ma K (He.ga K "Rule") "__str__") fd_Rule___str__ ["self"] (sp_Rule___str__ K (He.ga K "Rule")) := ok_Rule___str__ F_Rule___str__ T
  have m_str := He.meth_ok (c.fact 78 (f := .meth "Rule" "__str__") rfl)
  have c_str : Strr P w K mg base 1 (He.ga K "Rule") (sp_Rule___str__ K (He.ga K "Rule")) := ⟨⟨_, _, o_Rule___str__, m_str.1, m_str.2, (FunD.bindsN F_Rule___str__ (fun _ _ _ _ _ _ us hl => match us, hl with | [_], _ => rfl))⟩⟩
  have o_cheapest : FnOk P w K mg base CX0 10 (He.ga K "cheapest") fd_cheapest ["flag", "size"] (sp_cheapest K (He.ga K "Rule")) := ok_cheapest F_cheapest T c_all_clean c_rate c_str
  have c_cheapest : Cal P w K mg base 10 "cheapest" ["flag", "size"] (sp_cheapest K (He.ga K "Rule")) := ⟨⟨_, _, o_cheapest, He.glo_ok X G (c.fact 40 (f := .glo "cheapest") rfl), F_cheapest.kp, (FunD.bindsN F_cheapest (fun _ _ _ _ _ _ us hl => match us, hl with | [_, _], _ => rfl))⟩⟩
  have o_clean_rules : FnOk P w K mg base CX0 10 (He.ga K "clean_rules") fd_clean_rules ["flag", "size"] (sp_clean_rules K (He.ga K "Rule")) := ok_clean_rules F_clean_rules T c_all_clean c_str
  have c_clean_rules : Cal P w K mg base 10 "clean_rules" ["flag", "size"] (sp_clean_rules K (He.ga K "Rule")) := ⟨⟨_, _, o_clean_rules, He.glo_ok X G (c.fact 41 (f := .glo "clean_rules") rfl), F_clean_rules.kp, (FunD.bindsN F_clean_rules (fun _ _ _ _ _ _ us hl => match us, hl with | [_, _], _ => rfl))⟩⟩
  have o_could_be : FnOk P w K mg base CX0 9 (He.ga K "could_be") fd_could_be ["flag", "size", "pairs"] (sp_could_be K (He.ga K "Rule")) := ok_could_be F_could_be T c_body c_single_rules c_str
  have c_could_be : Cal P w K mg base 9 "could_be" ["flag", "size", "pairs"] (sp_could_be K (He.ga K "Rule")) := ⟨⟨_, _, o_could_be, He.glo_ok X G (c.fact 42 (f := .glo "could_be") rfl), F_could_be.kp, (FunD.bindsN F_could_be (fun _ _ _ _ _ _ us hl => match us, hl with | [_, _, _], _ => rfl))⟩⟩
  have o_best_left : FnOk P w K mg base CX0 1 (He.ga K "best_left") fd_best_left ["moves", "size"] (sp_best_left K (He.ga K "Rule")) := ok_best_left F_best_left T
  have c_best_left : Cal P w K mg base 1 "best_left" ["moves", "size"] (sp_best_left K (He.ga K "Rule")) := ⟨⟨_, _, o_best_left, He.glo_ok X G (c.fact 43 (f := .glo "best_left") rfl), F_best_left.kp, (FunD.bindsN F_best_left (fun _ _ _ _ _ _ us hl => match us, hl with | [_, _], _ => rfl))⟩⟩
  have o_dearest : FnOk P w K mg base CX0 6 (He.ga K "dearest") fd_dearest ["rule", "size"] (sp_dearest K (He.ga K "Rule")) := ok_dearest F_dearest T c_best_left c_moves_of
  have c_dearest : Cal P w K mg base 6 "dearest" ["rule", "size"] (sp_dearest K (He.ga K "Rule")) := ⟨⟨_, _, o_dearest, He.glo_ok X G (c.fact 44 (f := .glo "dearest") rfl), F_dearest.kp, (FunD.bindsN F_dearest (fun _ _ _ _ _ _ us hl => match us, hl with | [_, _], _ => rfl))⟩⟩
  have o_most_put : FnOk P w K mg base CX0 6 (He.ga K "most_put") fd_most_put ["rule", "size"] (sp_most_put K (He.ga K "Rule")) := ok_most_put F_most_put T c_best_left c_moves_of
  have c_most_put : Cal P w K mg base 6 "most_put" ["rule", "size"] (sp_most_put K (He.ga K "Rule")) := ⟨⟨_, _, o_most_put, He.glo_ok X G (c.fact 45 (f := .glo "most_put") rfl), F_most_put.kp, (FunD.bindsN F_most_put (fun _ _ _ _ _ _ us hl => match us, hl with | [_, _], _ => rfl))⟩⟩
  have o_is_at_most : FnOk P w K mg base CX0 1 (He.ga K "is_at_most") fd_is_at_most ["one", "two"] (sp_is_at_most K (He.ga K "Rule")) := ok_is_at_most F_is_at_most T
  have c_is_at_most : Cal P w K mg base 1 "is_at_most" ["one", "two"] (sp_is_at_most K (He.ga K "Rule")) := ⟨⟨_, _, o_is_at_most, He.glo_ok X G (c.fact 46 (f := .glo "is_at_most") rfl), F_is_at_most.kp, (FunD.bindsN F_is_at_most (fun _ _ _ _ _ _ us hl => match us, hl with | [_, _], _ => rfl))⟩⟩
  have o_rate_paper : FnOk P w K mg base CX0 7 (He.ga K "rate_paper") fd_rate_paper ["rule", "value"] (sp_rate_paper K (He.ga K "Rule")) := ok_rate_paper F_rate_paper T c_is_at_most c_lowest c_moves_of c_rate
  have c_rate_paper : Cal P w K mg base 7 "rate_paper" ["rule", "value"] (sp_rate_paper K (He.ga K "Rule")) := ⟨⟨_, _, o_rate_paper, He.glo_ok X G (c.fact 47 (f := .glo "rate_paper") rfl), F_rate_paper.kp, (FunD.bindsN F_rate_paper (fun _ _ _ _ _ _ us hl => match us, hl with | [_, _], _ => rfl))⟩⟩
  have o_is_integer : FnOk P w K mg base CX0 1 (He.ga K "is_integer") fd_is_integer ["value"] (sp_is_integer K (He.ga K "Rule")) := ok_is_integer F_is_integer T
  have c_is_integer : Cal P w K mg base 1 "is_integer" ["value"] (sp_is_integer K (He.ga K "Rule")) := ⟨⟨_, _, o_is_integer, He.glo_ok X G (c.fact 48 (f := .glo "is_integer") rfl), F_is_integer.kp, (FunD.bindsN F_is_integer (fun _ _ _ _ _ _ us hl => match us, hl with | [_], _ => rfl))⟩⟩
  have o_is_value : FnOk P w K mg base CX0 3 (He.ga K "is_value") fd_is_value ["value"] (sp_is_value K (He.ga K "Rule")) := ok_is_value F_is_value T c_is_integer c_lowest
  have c_is_value : Cal P w K mg base 3 "is_value" ["value"] (sp_is_value K (He.ga K "Rule")) := ⟨⟨_, _, o_is_value, He.glo_ok X G (c.fact 49 (f := .glo "is_value") rfl), F_is_value.kp, (FunD.bindsN F_is_value (fun _ _ _ _ _ _ us hl => match us, hl with | [_], _ => rfl))⟩⟩
  have o_is_entry : FnOk P w K mg base CX0 4 (He.ga K "is_entry") fd_is_entry ["rule", "value"] (sp_is_entry K (He.ga K "Rule")) := ok_is_entry F_is_entry T c_is_value c_is_word c_longest
  have c_is_entry : Cal P w K mg base 4 "is_entry" ["rule", "value"] (sp_is_entry K (He.ga K "Rule")) := ⟨⟨_, _, o_is_entry, He.glo_ok X G (c.fact 50 (f := .glo "is_entry") rfl), F_is_entry.kp, (FunD.bindsN F_is_entry (fun _ _ _ _ _ _ us hl => match us, hl with | [_, _], _ => rfl))⟩⟩
  have o_is_kept : FnOk P w K mg base CX0 5 (He.ga K "is_kept") fd_is_kept ["rule", "value", "heights", "here"] (sp_is_kept K (He.ga K "Rule")) := ok_is_kept F_is_kept T c_is_at_most c_move
  have c_is_kept : Cal P w K mg base 5 "is_kept" ["rule", "value", "heights", "here"] (sp_is_kept K (He.ga K "Rule")) := ⟨⟨_, _, o_is_kept, He.glo_ok X G (c.fact 51 (f := .glo "is_kept") rfl), F_is_kept.kp, (FunD.bindsN F_is_kept (fun _ _ _ _ _ _ us hl => match us, hl with | [_, _, _, _], _ => rfl))⟩⟩
  have o_rate_paper_holds : FnOk P w K mg base CX0 6 (He.ga K "rate_paper_holds") fd_rate_paper_holds ["rule", "value", "paper"] (sp_rate_paper_holds K (He.ga K "Rule")) := ok_rate_paper_holds F_rate_paper_holds T c_is_entry c_is_kept
  have c_rate_paper_holds : Cal P w K mg base 6 "rate_paper_holds" ["rule", "value", "paper"] (sp_rate_paper_holds K (He.ga K "Rule")) := ⟨⟨_, _, o_rate_paper_holds, He.glo_ok X G (c.fact 52 (f := .glo "rate_paper_holds") rfl), F_rate_paper_holds.kp, (FunD.bindsN F_rate_paper_holds (fun _ _ _ _ _ _ us hl => match us, hl with | [_, _, _], _ => rfl))⟩⟩
  have o_stuff_in : FnOk P w K mg base CX0 4 (He.ga K "stuff_in") fd_stuff_in ["word"] (sp_stuff_in K (He.ga K "Rule")) := ok_stuff_in F_stuff_in T c_is_stuff
  have c_stuff_in : Cal P w K mg base 4 "stuff_in" ["word"] (sp_stuff_in K (He.ga K "Rule")) := ⟨⟨_, _, o_stuff_in, He.glo_ok X G (c.fact 53 (f := .glo "stuff_in") rfl), F_stuff_in.kp, (FunD.bindsN F_stuff_in (fun _ _ _ _ _ _ us hl => match us, hl with | [_], _ => rfl))⟩⟩
  have o_Rule_read : FnOk P w K mg base CX0 7 (aRead K) fd_Rule_read ["cls", "text"] (sp_Rule_read K (He.ga K "Rule")) := ok_Rule_read F_Rule_read T c_Rule c_is_word c_stuff_in
  have c_read : Cmt P w K mg base 7 (He.ga K "Rule") "read" (sp_Rule_read K (He.ga K "Rule")) := ⟨⟨_, _, _, fnR_of o_Rule_read (FunD.bindsN F_Rule_read (fun _ _ _ _ _ _ us hl => match us, hl with | [_, _], _ => rfl)), cread_of c.ex, cmet_of c.ex⟩, T.mgC⟩
  have o_law : FnOk P w K mg base CX0 11 (He.ga K "law") fd_law ["_law_script"] (sp_law K (He.ga K "Rule")) := ok_law F_law T c_Rule c__law_choose c__law_rule c__law_seed c__law_word c_alike c_body c_cheapest c_clean_rules c_could_be c_dearest c_is_clean c_most_put c_rate c_rate_paper c_rate_paper_holds c_read c_str
  exact o_law
end UF
set_option maxHeartbeats 0
namespace UF
open PySem PySem.Spec PyProof.Rows L2
def loose0 : List PySem.Str := ["_wall", "__name__", "put_behind", "body", "FlipError", "InvalidRule", "InvalidText", "BITS", "is_integer", "is_sequence", "is_word", "is_bit", "all_words", "tail", "common", "lowest", "is_value", "width", "last_bits", "is_border_clean", "grown", "walk", "spoiled", "is_clean", "is_stuff", "are_stuffs", "stuff_in", "Rule", "parting", "alike"]
def loose1 : List PySem.Str := ["rule_with", "single_rules", "could_be", "move", "moves_of", "best_left", "most_put", "dearest", "walks", "least_of", "rate", "is_at_most", "rate_paper", "is_entry", "is_kept", "rate_paper_holds", "all_clean", "clean_rules", "cheapest", "_law_seed", "_law_choose", "_law_one_of", "_law_word", "_law_turn", "_law_ends", "_law_due", "_law_chain", "_law_tails", "_law_are_stuffs", "_law_stuff"]
def loose2 : List PySem.Str := ["_law_rule"]
def loose : List PySem.Str := loose0 ++ loose1 ++ loose2
theorem run (w : World) : HandSHeadRun.RunEq R (PySem.W.view R.prog [69]) hk ob 6000 loose w := by
  intro os
  kernel_rfl
end UF
set_option maxHeartbeats 4000000
namespace UF
/-! ### tails -/
theorem tl_full {n : Nat} {l : Wd} (h : l.length ≤ n) : tl n l = l := by unfold tl; rw [show l.length - n = 0 by omega]; rfl
theorem tl_app {m : Nat} {a b : Wd} (c : Wd) (h : tl m a = tl m b) : tl m (a ++ c) = tl m (b ++ c) := by
  have key : ∀ x : Wd, tl m (x ++ c) = tl m (tl m x ++ c) := fun x => by
    unfold tl
    rw [List.length_append, List.length_append, List.length_drop]
    by_cases h1 : x.length ≤ m
    · rw [show x.length - m = 0 by omega, List.drop_zero, Nat.sub_zero]
    · by_cases h2 : c.length ≤ m
      · rw [List.drop_append_of_le_length (by omega), List.drop_append_of_le_length (by rw [List.length_drop]; omega), List.drop_drop]
        congr 2
        omega
      · have e1 : (x ++ c).drop (x.length + c.length - m) = c.drop (c.length - m) := by
          rw [List.drop_append, List.drop_of_length_le (by omega), List.nil_append]; congr 1; omega
        have e2 : (x.drop (x.length - m) ++ c).drop (x.length - (x.length - m) + c.length - m) = c.drop (c.length - m) := by
          rw [List.drop_append, List.drop_of_length_le (by rw [List.length_drop]; omega), List.nil_append, List.length_drop]; congr 1; omega
        rw [e1, e2]
  rw [key a, key b, h]
theorem tl_tl (m : Nat) (l : Wd) : tl m (tl m l) = tl m l := tl_full (tl_len m l)
theorem sfx_tl {p l : Wd} {m : Nat} (h : p.length ≤ m) : sfx p l = sfx p (tl m l) := by
  unfold sfx
  by_cases h1 : l.length ≤ m
  · rw [tl_full h1]
  · have : (tl m l).drop ((tl m l).length - p.length) = l.drop (l.length - p.length) := by
      unfold tl
      rw [List.length_drop, List.drop_drop]
      congr 1
      omega
    rw [this]
theorem put_tl {m : Nat} {l : Wd} : ∀ {ss : List Stf}, lng ss ≤ m → put ss l = put ss (tl m l)
  | [], _ => rfl
  | (p, b) :: r, h => by
    have h1 : p.length ≤ m := Nat.le_trans (Nat.le_max_left _ _) h
    have h2 : lng r ≤ m := Nat.le_trans (Nat.le_max_right _ _) h
    unfold put
    rw [sfx_tl h1, put_tl h2]
theorem put_same {ss : List Stf} {a b : Wd} (h : tl (lng ss) a = tl (lng ss) b) : put ss a = put ss b := by
  rw [put_tl (Nat.le_refl _), h, ← put_tl (Nat.le_refl _)]
theorem pbh_same {ss : List Stf} {a b : Wd} (h : tl (lng ss) a = tl (lng ss) b) : ∀ (f : Nat) (found : Wd), pbh ss f a found = pbh ss f b found
  | 0, _ => rfl
  | f + 1, found => by
    unfold pbh
    rw [put_same (tl_app found h)]
    cases put ss (b ++ found) with
    | none => rfl
    | some x => exact pbh_same h f _
theorem pin_same {ss : List Stf} {a b : Wd} (h : tl (lng ss) a = tl (lng ss) b) : ∀ (f : Nat) (found : Wd) (kn : List Wd), pin ss (lng ss) f a found kn = pin ss (lng ss) f b found kn
  | 0, _, _ => rfl
  | f + 1, found, kn => by
    unfold pin
    rw [put_same (tl_app found h), tl_app found h]
    cases put ss (b ++ found) with
    | none => rfl
    | some x =>
      cases mem (tl (lng ss) (b ++ found)) kn with
      | true => rfl
      | false => exact pin_same h f _ _
/-! ### the moves are what the rule does -/
theorem mvs_ok {ss : List Stf} {m : Nat} : ∀ (f : Nat) (F : Mvs) (q : List Wd) (M : Mvs), (∀ x ∈ F, mv ss m x.1 false = some x.2.1 ∧ mv ss m x.1 true = some x.2.2) → mvs ss m f F q = some M → ∀ x ∈ M, mv ss m x.1 false = some x.2.1 ∧ mv ss m x.1 true = some x.2.2
  | 0, _, _, _, _, h => by cases h
  | f + 1, F, [], M, hF, h => by cases h; exact hF
  | f + 1, F, here :: q, M, hF, h => by
    have hs : mvs ss m (f + 1) F (here :: q) = (match look F here with
        | some _ => mvs ss m f F q
        | none => match mv ss m here false with
          | none => none
          | some e0 => match mv ss m here true with
            | none => none
            | some e1 => mvs ss m f (F ++ [(here, e0, e1)]) (q ++ [e0.2, e1.2])) := rfl
    rw [hs] at h
    cases e : look F here with
    | some _ => rw [e] at h; exact mvs_ok f F q M hF h
    | none =>
      rw [e] at h
      cases e0 : mv ss m here false with
      | none => rw [e0] at h; cases h
      | some v0 =>
      cases e1 : mv ss m here true with
      | none => rw [e0, e1] at h; cases h
      | some v1 =>
      rw [e0, e1] at h
      refine mvs_ok f _ _ M (fun x hx => ?_) h
      rcases List.mem_append.mp hx with hx | hx
      · exact hF x hx
      · rw [List.mem_singleton.mp hx]; exact ⟨e0, e1⟩
theorem nodupW_iff : ∀ {l : List Wd}, nodupW l = true → l.Nodup
  | [], _ => List.nodup_nil
  | x :: r, h => by
    unfold nodupW at h
    cases e : mem x r with
    | true => rw [e] at h; cases h
    | false =>
      rw [e] at h
      exact List.nodup_cons.mpr ⟨mem_false e, nodupW_iff h⟩
theorem closedM_iff {m : Nat} {M : Mvs} : ∀ {L : Mvs}, closedM m M L = true → ∀ x ∈ L, (look M x.2.1.2).isSome = true ∧ (look M x.2.2.2).isSome = true ∧ x.1.length ≤ m
  | [], _, x, hx => by cases hx
  | y :: r, h, x, hx => by
    unfold closedM at h
    cases e0 : look M y.2.1.2 with
    | none => rw [e0] at h; cases h
    | some v0 =>
    cases e1 : look M y.2.2.2 with
    | none => rw [e0, e1] at h; cases h
    | some v1 =>
    cases e2 : Nat.ble y.1.length m with
    | false => rw [e0, e1, e2] at h; cases h
    | true =>
    rw [e0, e1, e2] at h
    rcases List.mem_cons.mp hx with rfl | hx
    · exact ⟨by rw [e0]; rfl, by rw [e1]; rfl, Nat.ble_eq.mp e2⟩
    · exact closedM_iff h x hx
/-! ### costs -/
theorem mx_le_l (i j : Nat) : i ≤ mx i j := by rw [mx_eq]; exact Nat.le_max_left _ _
theorem mx_le_r (i j : Nat) : j ≤ mx i j := by rw [mx_eq]; exact Nat.le_max_right _ _
theorem mx_or (i j : Nat) : mx i j = i ∨ mx i j = j := by rw [mx_eq]; omega
section
variable {ss : List Stf} {M : Mvs}
theorem step_mv (hM : Mov ss M) (hC : Clo M) {line here : Wd} (h : tl (lng ss) line = here) {e0 e1 : Eg} (hl : look M here = some (e0, e1)) (b : Bool) :
    ∃ more, pbh ss 20 (line ++ [b]) [] = some more ∧ (if b then e1 else e0) = (more.length, tl (lng ss) (line ++ [b] ++ more)) ∧ (look M (if b then e1 else e0).2).isSome = true := by
  have hm := look_mem hl
  obtain ⟨h0, h1, hlen⟩ := hM _ hm
  have hb : mv ss (lng ss) here b = some (if b then e1 else e0) := by
    cases b with
    | false => exact h0
    | true => exact h1
  obtain ⟨more, hp, he⟩ := mv_some hb
  have ht : tl (lng ss) line = tl (lng ss) here := by rw [← h, tl_tl]
  have ht1 := tl_app [b] ht
  refine ⟨more, ?_, ?_, ?_⟩
  · rw [pbh_same ht1]; exact pin_pbh _ _ _ _ _ _ _ hp
  · rw [he, tl_app more ht1]
  · cases b
    · exact hC.e0 _ hm
    · exact hC.e1 _ hm
theorem bod_bd (hM : Mov ss M) (hC : Clo M) : ∀ (bits line here : Wd), tl (lng ss) line = here → (look M here).isSome = true → ∃ x, bod ss line bits = some x ∧ x.length ≤ line.length + bits.length + lf M bits.length here
  | [], line, here, _, _ => ⟨line, rfl, by simp⟩
  | b :: r, line, here, h, hl => by
    obtain ⟨⟨e0, e1⟩, hl⟩ := Option.isSome_iff_exists.mp hl
    obtain ⟨more, hp, he, hs⟩ := step_mv hM hC h hl b
    obtain ⟨x, hx, hxl⟩ := bod_bd hM hC r (line ++ [b] ++ more) (if b then e1 else e0).2 (by rw [he]) hs
    refine ⟨x, ?_, ?_⟩
    · show (match pbh ss 20 (line ++ [b]) [] with | none => none | some more => bod ss (line ++ [b] ++ more) r) = _
      rw [hp]; exact hx
    · have hlf : lf M (r.length + 1) here = mx (e0.1 + lf M r.length e0.2) (e1.1 + lf M r.length e1.2) := by
        show (match look M here with | none => 0 | some (e0, e1) => mx (e0.1 + lf M r.length e0.2) (e1.1 + lf M r.length e1.2)) = _
        rw [hl]
      have h1 := mx_le_l (e0.1 + lf M r.length e0.2) (e1.1 + lf M r.length e1.2)
      have h2 := mx_le_r (e0.1 + lf M r.length e0.2) (e1.1 + lf M r.length e1.2)
      have h3 : (if b then e1 else e0).1 = more.length := by rw [he]
      rw [List.length_cons, hlf]
      simp only [List.length_append, List.length_cons, List.length_nil] at hxl
      cases b
      · simp only [Bool.false_eq_true, if_false] at h3 hxl; omega
      · simp only [if_true] at h3 hxl; omega
theorem dr_bod (hM : Mov ss M) (hC : Clo M) : ∀ (n : Nat) (line here : Wd), tl (lng ss) line = here → (look M here).isSome = true →
    (dr M n here).length = n ∧ ∃ x, bod ss line (dr M n here) = some x ∧ x.length = line.length + n + lf M n here
  | 0, line, here, _, _ => ⟨rfl, line, rfl, rfl⟩
  | n + 1, line, here, h, hl => by
    obtain ⟨⟨e0, e1⟩, hl⟩ := Option.isSome_iff_exists.mp hl
    have hlf : lf M (n + 1) here = mx (e0.1 + lf M n e0.2) (e1.1 + lf M n e1.2) := by
      show (match look M here with | none => 0 | some (e0, e1) => mx (e0.1 + lf M n e0.2) (e1.1 + lf M n e1.2)) = _
      rw [hl]
    have hdr : dr M (n + 1) here = (if e0.1 + lf M n e0.2 = lf M (n + 1) here then false :: dr M n e0.2 else true :: dr M n e1.2) := by
      show (match look M here with | none => [] | some (e0, e1) => if e0.1 + lf M n e0.2 = lf M (n + 1) here then false :: dr M n e0.2 else true :: dr M n e1.2) = _
      rw [hl]
    have fin : ∀ b : Bool, lf M (n + 1) here = (if b then e1 else e0).1 + lf M n (if b then e1 else e0).2 → (b :: dr M n (if b then e1 else e0).2).length = n + 1 ∧ ∃ x, bod ss line (b :: dr M n (if b then e1 else e0).2) = some x ∧ x.length = line.length + (n + 1) + lf M (n + 1) here := fun b hb => by
      obtain ⟨more, hp, he, hs⟩ := step_mv hM hC h hl b
      obtain ⟨hlen, x, hx, hxl⟩ := dr_bod hM hC n (line ++ [b] ++ more) (if b then e1 else e0).2 (by rw [he]) hs
      refine ⟨by rw [List.length_cons, hlen], x, ?_, ?_⟩
      · show (match pbh ss 20 (line ++ [b]) [] with | none => none | some more => bod ss (line ++ [b] ++ more) (dr M n (if b then e1 else e0).2)) = _
        rw [hp]; exact hx
      · have h3 : (if b then e1 else e0).1 = more.length := by rw [he]
        rw [hb, hxl]
        simp only [List.length_append, List.length_cons, List.length_nil]
        omega
    rw [hdr]
    by_cases hc : e0.1 + lf M n e0.2 = lf M (n + 1) here
    · rw [if_pos hc]; exact fin false hc.symm
    · rw [if_neg hc]
      refine fin true ?_
      rcases mx_or (e0.1 + lf M n e0.2) (e1.1 + lf M n e1.2) with h1 | h1
      · exact absurd (h1.symm.trans hlf.symm) hc
      · rw [hlf, h1]; rfl
end
end UF
set_option maxHeartbeats 4000000
namespace UF
open PySem PySem.Spec PyProof.Rows L2
/-! ### heights that stay -/
theorem alEq_eq : ∀ {a b : AL}, alEq a b = true → a = b
  | [], [], _ => rfl
  | [], _ :: _, h => by cases h
  | _ :: _, [], h => by cases h
  | (k, u) :: r, (l, v) :: s, h => by
    unfold alEq at h
    cases e : weq k l with
    | false => rw [e] at h; cases h
    | true =>
    cases e2 : Nat.beq u v with
    | false => rw [e, e2] at h; cases h
    | true =>
    rw [e, e2] at h
    rw [weq_eq.mp e, Nat.beq_eq.mp e2, alEq_eq h]
def LeA (a b : AL) : Prop := Paired (fun x y : Wd × Nat => x.1 = y.1 ∧ x.2 ≤ y.2) a b
theorem LeA.refl : ∀ a : AL, LeA a a
  | [] => .nil
  | x :: a => .cons ⟨rfl, Nat.le_refl _⟩ (LeA.refl a)
theorem LeA.trans : ∀ {a b c : AL}, LeA a b → LeA b c → LeA a c
  | _, _, _, .nil, .nil => .nil
  | _, _, _, .cons r t, .cons r' t' => .cons ⟨r.1.trans r'.1, Nat.le_trans r.2 r'.2⟩ (LeA.trans t t')
theorem LeA.antisymm : ∀ {a b : AL}, LeA a b → LeA b a → a = b
  | _, _, .nil, .nil => rfl
  | x :: _, y :: _, .cons r t, .cons r' t' => by
    obtain ⟨k, u⟩ := x
    obtain ⟨l, v⟩ := y
    have e1 : k = l := r.1
    have e2 : u = v := Nat.le_antisymm r.2 r'.2
    rw [e1, e2, LeA.antisymm t t']
theorem upA_ge {x : Wd} {v : Nat} : ∀ {al : AL}, x ∈ al.map (·.1) → LeA al (upA al x v)
  | [], h => by cases h
  | (k, u) :: r, h => by
    unfold upA
    cases e : weq k x with
    | true =>
      cases e2 : Nat.ble v u with
      | true => exact LeA.refl _
      | false =>
        have : ¬ v ≤ u := fun q => by rw [Nat.ble_eq.mpr q] at e2; cases e2
        exact .cons ⟨rfl, by show u ≤ v; omega⟩ (LeA.refl _)
    | false =>
      have hx : x ∈ r.map (·.1) := by
        rcases List.mem_cons.mp h with h | h
        · have h : x = k := h
          rw [h, weq_self] at e; cases e
        · exact h
      exact .cons ⟨rfl, Nat.le_refl _⟩ (upA_ge hx)
theorem upA_fix {x : Wd} {v : Nat} : ∀ {al : AL}, x ∈ al.map (·.1) → upA al x v = al → v ≤ (getA al x).getD 0
  | [], h, _ => by cases h
  | (k, u) :: r, h, hf => by
    unfold upA at hf
    unfold getA
    cases e : weq k x with
    | true =>
      rw [e] at hf
      cases e2 : Nat.ble v u with
      | true => exact Nat.ble_eq.mp e2
      | false =>
        rw [e2] at hf
        have : v = u := by simpa using hf
        exact Nat.le_of_eq this
    | false =>
      rw [e] at hf
      have hx : x ∈ r.map (·.1) := by
        rcases List.mem_cons.mp h with h | h
        · have h : x = k := h
          rw [h, weq_self] at e; cases e
        · exact h
      exact upA_fix hx (by simpa using hf)
section
variable {M : Mvs} {p q : Nat}
theorem relH_ge (hC : Clo M) {h : AL} (hk : h.map (·.1) = keys M) {x : Wd} {e : Eg} (he : (look M e.2).isSome = true) : LeA h (relH p q h x e) := upA_ge (by rw [hk]; exact look_key he)
theorem roundH_ge (hC : Clo M) : ∀ {L : Mvs} {h : AL}, (∀ m ∈ L, m ∈ M) → h.map (·.1) = keys M → LeA h (roundH p q L h)
  | [], h, _, _ => LeA.refl h
  | m :: r, h, hl, hk => by
    have hm := hl m (List.mem_cons_self ..)
    have k1 := relH_keys (p := p) (q := q) (x := m.1) hk (hC.e0 m hm)
    have k2 := relH_keys (p := p) (q := q) (x := m.1) k1 (hC.e1 m hm)
    exact ((relH_ge hC hk (hC.e0 m hm)).trans (relH_ge hC k1 (hC.e1 m hm))).trans (roundH_ge hC (L := r) (fun x hx => hl x (List.mem_cons_of_mem _ hx)) k2)
theorem round_fix (hC : Clo M) : ∀ {L : Mvs} {h : AL}, (∀ m ∈ L, m ∈ M) → h.map (·.1) = keys M → roundH p q L h = h → ∀ m ∈ L, relH p q h m.1 m.2.1 = h ∧ relH p q h m.1 m.2.2 = h
  | [], _, _, _, _, m, hm => by cases hm
  | m :: r, h, hl, hk, hf, x, hx => by
    have hm := hl m (List.mem_cons_self ..)
    have k1 := relH_keys (p := p) (q := q) (x := m.1) hk (hC.e0 m hm)
    have k2 := relH_keys (p := p) (q := q) (x := m.1) k1 (hC.e1 m hm)
    have g1 : LeA h (relH p q h m.1 m.2.1) := relH_ge hC hk (hC.e0 m hm)
    have g2 : LeA (relH p q h m.1 m.2.1) (relH p q (relH p q h m.1 m.2.1) m.1 m.2.2) := relH_ge hC k1 (hC.e1 m hm)
    have g3 := roundH_ge (p := p) (q := q) hC (L := r) (fun x hx => hl x (List.mem_cons_of_mem _ hx)) k2
    have hf' : roundH p q r (relH p q (relH p q h m.1 m.2.1) m.1 m.2.2) = h := hf
    rw [hf'] at g3
    have f1 : relH p q h m.1 m.2.1 = h := LeA.antisymm (g2.trans g3) g1
    rw [f1] at g2 g3 hf'
    have f2 : relH p q h m.1 m.2.2 = h := LeA.antisymm g3 g2
    rw [f2] at hf'
    rcases List.mem_cons.mp hx with rfl | hx
    · exact ⟨f1, f2⟩
    · exact round_fix hC (fun x hx => hl x (List.mem_cons_of_mem _ hx)) hk hf' x hx
/-- rounds until nothing changes -/
def htN (M : Mvs) (p q : Nat) : Nat → AL → Option Nat
  | 0, _ => none
  | f + 1, h => match roundH p q M h with
    | h' => match alEq h' h with
      | true => some 0
      | false => match htN M p q f h' with
        | none => none
        | some n => some (n + 1)
theorem hts_fix {h : AL} (hf : roundH p q M h = h) : ∀ N, hts M p q N h = h
  | 0 => rfl
  | N + 1 => by
    show hts M p q N (roundH p q M h) = h
    rw [hf]; exact hts_fix hf N
theorem htN_fix : ∀ (f : Nat) (h : AL) (n N : Nat), htN M p q f h = some n → n ≤ N → roundH p q M (hts M p q N h) = hts M p q N h
  | 0, _, _, _, e, _ => by cases e
  | f + 1, h, n, N, e, hN => by
    have es : htN M p q (f + 1) h = (match alEq (roundH p q M h) h with
      | true => some 0
      | false => match htN M p q f (roundH p q M h) with
        | none => none
        | some n => some (n + 1)) := rfl
    rw [es] at e
    cases ea : alEq (roundH p q M h) h with
    | true =>
      have hf := alEq_eq ea
      rw [hts_fix hf, hf]
    | false =>
      rw [ea] at e
      cases eb : htN M p q f (roundH p q M h) with
      | none => rw [eb] at e; cases e
      | some n' =>
        rw [eb] at e
        have hn : n = n' + 1 := by simpa using e.symm
        cases N with
        | zero => omega
        | succ N => exact htN_fix f (roundH p q M h) n' N eb (by omega)
end
/-! ### lowest terms -/
theorem lw_nat (a q : Nat) : lw a q = (((a / Nat.gcd a q : Nat) : Int), ((q / Nat.gcd a q : Nat) : Int)) := by
  have e : lw a q = ((a : Int) / (Int.gcd a q : Int), (q : Int) / (Int.gcd a q : Int)) := rfl
  rw [e, show Int.gcd (a : Int) (q : Int) = Nat.gcd a q from rfl, ← Int.natCast_ediv, ← Int.natCast_ediv]
theorem lw_facts {a q : Nat} (hq : 0 < q) : ∃ A B : Nat, lw a q = ((A : Int), (B : Int)) ∧ 0 < B ∧ B ≤ q ∧ A * q = a * B ∧ lw A B = ((A : Int), (B : Int)) := by
  have hg : 0 < Nat.gcd a q := Nat.gcd_pos_of_pos_right _ hq
  have h1 : a / Nat.gcd a q * Nat.gcd a q = a := Nat.div_mul_cancel (Nat.gcd_dvd_left a q)
  have h2 : q / Nat.gcd a q * Nat.gcd a q = q := Nat.div_mul_cancel (Nat.gcd_dvd_right a q)
  refine ⟨a / Nat.gcd a q, q / Nat.gcd a q, lw_nat a q, ?_, Nat.div_le_self _ _, ?_, ?_⟩
  · exact Nat.div_pos (Nat.le_of_dvd hq (Nat.gcd_dvd_right a q)) hg
  · generalize a / Nat.gcd a q = A at h1
    generalize q / Nat.gcd a q = B at h2
    generalize Nat.gcd a q = g at h1 h2
    rw [← h1, ← h2, Nat.mul_assoc, Nat.mul_comm g B]
  · have h3 : Nat.gcd (a / Nat.gcd a q) (q / Nat.gcd a q) = 1 := by
      have h4 : Nat.gcd (a / Nat.gcd a q * Nat.gcd a q) (q / Nat.gcd a q * Nat.gcd a q) = Nat.gcd (a / Nat.gcd a q) (q / Nat.gcd a q) * Nat.gcd a q := Nat.gcd_mul_right _ _ _
      rw [h1, h2] at h4
      exact Nat.eq_of_mul_eq_mul_right hg (by rw [← h4, Nat.one_mul])
    rw [lw_nat, h3, Nat.div_one, Nat.div_one]
theorem keep_ineq {A B C D q a c z : Int} (h1 : A * q = a * B) (h2 : C * q = c * D) (hB : 0 ≤ B) (hD : 0 ≤ D) (h : a + z ≤ c) : (A * q + z * B) * D ≤ C * (B * q) := by
  have e1 : (A * q + z * B) * D = (a + z) * (B * D) := by rw [h1, ← Int.add_mul, Int.mul_assoc]
  have e2 : C * (B * q) = c * (B * D) := by rw [Int.mul_comm B q, ← Int.mul_assoc, h2, Int.mul_assoc, Int.mul_comm D B]
  rw [e1, e2]
  exact Int.mul_le_mul_of_nonneg_right h (Int.mul_nonneg hB hD)
theorem keeps_of {M : Mvs} {p q : Nat} (hC : Clo M) (q0 : 0 < q) (q1 : q ≤ 100) (p1 : p ≤ 10000) {h : AL} (hk : h.map (·.1) = keys M) (hf : roundH p q M h = h) : Keeps M p q h := by
  have hfx := round_fix hC (fun m hm => hm) hk hf
  have edge : ∀ (x : Wd) (e : Eg), (look M e.2).isSome = true → relH p q h x e = h → ((hgt q h x).1 * q + (e.1 * q - p) * (hgt q h x).2) * (hgt q h e.2).2 ≤ (hgt q h e.2).1 * ((hgt q h x).2 * q) := fun x e he hr => by
    have hv := upA_fix (by rw [hk]; exact look_key he) hr
    unfold hgt
    obtain ⟨A, B, hw1, hB, _, hAB, _⟩ := lw_facts (a := (getA h x).getD 0) q0
    obtain ⟨C, D, hw2, hD, _, hCD, _⟩ := lw_facts (a := (getA h e.2).getD 0) q0
    rw [hw1, hw2]
    refine keep_ineq (a := (((getA h x).getD 0 : Nat) : Int)) (c := (((getA h e.2).getD 0 : Nat) : Int)) (show (A : Int) * (q : Int) = (((getA h x).getD 0 : Nat) : Int) * (B : Int) by exact_mod_cast hAB) (show (C : Int) * (q : Int) = (((getA h e.2).getD 0 : Nat) : Int) * (D : Int) by exact_mod_cast hCD) (by omega) (by omega) ?_
    rw [← Int.natCast_mul]
    omega
  refine ⟨q0, q1, p1, fun x hx => ?_, fun x hx => edge x.1 x.2.1 (hC.e0 x hx) (hfx x hx).1, fun x hx => edge x.1 x.2.2 (hC.e1 x hx) (hfx x hx).2⟩
  unfold hgt
  obtain ⟨A, B, hw1, hB, hBq, _, hl⟩ := lw_facts (a := (getA h x.1).getD 0) q0
  rw [hw1]
  exact ⟨by show (0 : Int) < (B : Int); omega, by show (B : Int) ≤ 100; omega, hl⟩
end UF
set_option maxHeartbeats 4000000
namespace UF
open PySem PySem.Spec PyProof.Rows L2
/-! ### the finite check -/
def goodR (M : Mvs) (a : AL) (told : List AL) : Bool := match a.foldl (rt1 told) (0, 1) with
  | v => match lw v.1 v.2 with
    | (.ofNat p, .ofNat q) => (match Nat.ble q 100, Nat.ble 1 q, Nat.ble p 10000 with
      | true, true, true => (match htN M p q 12 (h0 M) with
        | none => false
        | some n => Nat.ble n M.length)
      | _, _, _ => false)
    | _ => false
def goodY (ss : List Stf) : Bool := match edl ss (lng ss) 40 [[]] 0 with
  | some false => (match mvs ss (lng ss) 60 [] [[]] with
    | none => false
    | some M => match nodupW (keys M), look M [], closedM (lng ss) M M, Nat.ble M.length 20 with
      | true, some _, true, true => (match wks M M.length [[([], 0)]] with
        | [] => false
        | a :: told => match meansOk told a with
          | false => false
          | true => goodR M a told)
      | _, _, _, _ => false)
  | _ => false
def chk1 (ss : List Stf) : Bool := match apart ss with
  | false => true
  | true => match ltl ss 40 [[]] 0 with
    | none => false
    | some false => true
    | some true => goodY (srt ss)
def chkA (a : Stf) : Bool := (stfs 3).all fun b => chk1 [a, b]
theorem lng3 {ss : List Stf} (h : Dom ss) : lng ss ≤ 3 := lng_le fun st hs => (h.2 st hs).2
theorem Dom.srt {ss : List Stf} (h : Dom ss) : Dom (srt ss) := ⟨by rw [srt_len]; exact h.1, fun st hs => h.2 st (srt_mem hs)⟩
theorem htF_of {M : Mvs} {p q : Nat} : ∀ (f : Nat) (h : AL) (n : Nat), htN M p q f h = some n → ∃ h', htF M p q f h = some h'
  | 0, _, _, e => by cases e
  | f + 1, h, n, e => by
    have es : htN M p q (f + 1) h = (match alEq (roundH p q M h) h with
      | true => some 0
      | false => match htN M p q f (roundH p q M h) with
        | none => none
        | some n => some (n + 1)) := rfl
    have ef : htF M p q (f + 1) h = (match alEq (roundH p q M h) h with
      | true => some h
      | false => htF M p q f (roundH p q M h)) := rfl
    rw [es] at e
    rw [ef]
    cases ea : alEq (roundH p q M h) h with
    | true => exact ⟨h, rfl⟩
    | false =>
      rw [ea] at e
      cases eb : htN M p q f (roundH p q M h) with
      | none => rw [eb] at e; cases e
      | some n' => exact htF_of f _ n' eb
theorem rfacts_of {ss : List Stf} (hd : Dom ss) (h : goodY ss = true) : RFacts ss := by
  have h3 := lng3 hd
  unfold goodY at h
  cases hedl : edl ss (lng ss) 40 [[]] 0 with
  | none => rw [hedl] at h; cases h
  | some b =>
  cases b with
  | true => rw [hedl] at h; cases h
  | false =>
  rw [hedl] at h
  cases hM : mvs ss (lng ss) 60 [] [[]] with
  | none => rw [hM] at h; cases h
  | some M =>
  have eM : mvsOf ss = M := by unfold mvsOf; rw [hM]; rfl
  rw [hM] at h
  dsimp only at h
  cases h1 : nodupW (keys M) with
  | false => rw [h1] at h; simp at h
  | true =>
  cases h2 : look M [] with
  | none => rw [h1, h2] at h; simp at h
  | some e0 =>
  cases h4 : closedM (lng ss) M M with
  | false => rw [h1, h2, h4] at h; simp at h
  | true =>
  cases h5 : Nat.ble M.length 20 with
  | false => rw [h1, h2, h4, h5] at h; simp at h
  | true =>
  rw [h1, h2, h4, h5] at h
  dsimp only at h
  have hcl := closedM_iff h4
  have hmv := mvs_ok 60 [] [[]] M (fun x hx => by cases hx) hM
  have hmov : Mov ss M := fun x hx => ⟨(hmv x hx).1, (hmv x hx).2, (hcl x hx).2.2⟩
  have hclo : Clo M := {
    nd := nodupW_iff h1
    nil := by rw [h2]; rfl
    e0 := fun x hx => (hcl x hx).1
    e1 := fun x hx => (hcl x hx).2.1
    len := Nat.ble_eq.mp h5
    sm := fun x hx => by
      have a := (mv_len (hmv x hx).1).1
      have b := (mv_len (hmv x hx).2).1
      have c := (hcl x hx).2.2
      exact ⟨by omega, by omega, by omega⟩ }
  cases hw : wks M M.length [[([], 0)]] with
  | nil => rw [hw] at h; cases h
  | cons a told =>
  rw [hw] at h
  dsimp only at h
  cases hmo : meansOk told a with
  | false => rw [hmo] at h; cases h
  | true =>
  rw [hmo] at h
  dsimp only at h
  have hrt : rt M = lw (a.foldl (rt1 told) (0, 1)).1 (a.foldl (rt1 told) (0, 1)).2 := by
    have e : rt M = lw (rtp M).1 (rtp M).2 := rfl
    rw [e]; unfold rtp; rw [hw]
  have hgR : goodR M a told = (match rt M with
    | (.ofNat p, .ofNat q) => (match Nat.ble q 100, Nat.ble 1 q, Nat.ble p 10000 with
      | true, true, true => (match htN M p q 12 (h0 M) with
        | none => false
        | some n => Nat.ble n M.length)
      | _, _, _ => false)
    | _ => false) := by rw [hrt]; rfl
  rw [hgR] at h
  obtain ⟨p, q, hpq, hb1, hb2, hb3, n, hn, hnM⟩ : ∃ p q : Nat, rt M = ((p : Int), (q : Int)) ∧ Nat.ble q 100 = true ∧ Nat.ble 1 q = true ∧ Nat.ble p 10000 = true ∧ ∃ n, htN M p q 12 (h0 M) = some n ∧ n ≤ M.length := by
    revert h
    rcases rt M with ⟨u, v⟩
    cases u with
    | negSucc u => intro h; cases h
    | ofNat p =>
    cases v with
    | negSucc v => intro h; cases h
    | ofNat q =>
    intro h
    dsimp only at h
    cases e1 : Nat.ble q 100 with
    | false => rw [e1] at h; simp at h
    | true =>
    cases e2 : Nat.ble 1 q with
    | false => rw [e1, e2] at h; simp at h
    | true =>
    cases e3 : Nat.ble p 10000 with
    | false => rw [e1, e2, e3] at h; simp at h
    | true =>
    rw [e1, e2, e3] at h
    dsimp only at h
    cases e4 : htN M p q 12 (h0 M) with
    | none => rw [e4] at h; cases h
    | some n =>
      rw [e4] at h
      exact ⟨p, q, rfl, e1, e2, e3, n, e4, Nat.ble_eq.mp h⟩
  obtain ⟨h', hF⟩ := htF_of 12 _ n hn
  have hok : rateOk M = true := by
    unfold rateOk
    rw [hw]
    dsimp only
    rw [hmo, hpq]
    show (match Nat.ble q 100, Nat.ble 1 q with
      | true, true => (match htF M p q 12 (h0 M) with
        | none => false
        | some _ => true)
      | _, _ => false) = true
    rw [hb1, hb2, hF]
  have q1 := Nat.ble_eq.mp hb1
  have q0 := Nat.ble_eq.mp hb2
  have p1 := Nat.ble_eq.mp hb3
  refine ⟨hedl, ⟨by rw [eM]; exact hM, by rw [eM]; exact hclo, by rw [eM]; exact hok⟩, ⟨p, q, by rw [eM]; exact hpq, q0, q1, p1⟩, by rw [eM]; exact hmov, fun p' q' e => ?_, fun bits hb => ?_, fun n hn => ?_⟩
  · rw [eM] at e ⊢
    rw [hpq] at e
    have e1 : p = p' := by have e0 : (p : Int) = (p' : Int) := congrArg Prod.fst e; exact_mod_cast e0
    have e2 : q = q' := by have e0 : (q : Int) = (q' : Int) := congrArg Prod.snd e; exact_mod_cast e0
    subst e1 e2
    exact keeps_of hclo q0 q1 p1 (hts_keys hclo (h0_keys M)) (htN_fix 12 _ n _ hn hnM)
  · rw [eM]
    obtain ⟨x, hx, hxl⟩ := bod_bd hmov hclo bits [] [] (tl_full (by simp)) hclo.nil
    exact ⟨x, hx, by simpa using hxl⟩
  · rw [eM]
    obtain ⟨hl, x, hx, hxl⟩ := dr_bod hmov hclo n [] [] (tl_full (by simp)) hclo.nil
    exact ⟨hl, x, hx, by simpa using hxl⟩
end UF
set_option maxHeartbeats 8000000
namespace UF
open PySem PySem.Spec PyProof.Rows L2
theorem ck0 : chkA ([false], false) = true := by decide +kernel
theorem ck1 : chkA ([false], true) = true := by decide +kernel
theorem ck2 : chkA ([true], false) = true := by decide +kernel
theorem ck3 : chkA ([true], true) = true := by decide +kernel
theorem ck4 : chkA ([false, false], false) = true := by decide +kernel
theorem ck5 : chkA ([false, false], true) = true := by decide +kernel
theorem ck6 : chkA ([false, true], false) = true := by decide +kernel
theorem ck7 : chkA ([false, true], true) = true := by decide +kernel
theorem ck8 : chkA ([true, false], false) = true := by decide +kernel
theorem ck9 : chkA ([true, false], true) = true := by decide +kernel
theorem ck10 : chkA ([true, true], false) = true := by decide +kernel
theorem ck11 : chkA ([true, true], true) = true := by decide +kernel
theorem ck12 : chkA ([false, false, false], false) = true := by decide +kernel
theorem ck13 : chkA ([false, false, false], true) = true := by decide +kernel
theorem ck14 : chkA ([false, false, true], false) = true := by decide +kernel
theorem ck15 : chkA ([false, false, true], true) = true := by decide +kernel
theorem ck16 : chkA ([false, true, false], false) = true := by decide +kernel
theorem ck17 : chkA ([false, true, false], true) = true := by decide +kernel
theorem ck18 : chkA ([false, true, true], false) = true := by decide +kernel
theorem ck19 : chkA ([false, true, true], true) = true := by decide +kernel
theorem ck20 : chkA ([true, false, false], false) = true := by decide +kernel
theorem ck21 : chkA ([true, false, false], true) = true := by decide +kernel
theorem ck22 : chkA ([true, false, true], false) = true := by decide +kernel
theorem ck23 : chkA ([true, false, true], true) = true := by decide +kernel
theorem ck24 : chkA ([true, true, false], false) = true := by decide +kernel
theorem ck25 : chkA ([true, true, false], true) = true := by decide +kernel
theorem ck26 : chkA ([true, true, true], false) = true := by decide +kernel
theorem ck27 : chkA ([true, true, true], true) = true := by decide +kernel
theorem ck_one : (stfs 3).all (fun a => chk1 [a]) = true := by decide +kernel
theorem ck_nil : chk1 [] = true := by decide +kernel
theorem stfs3 : stfs 3 = [([false], false), ([false], true), ([true], false), ([true], true), ([false, false], false), ([false, false], true), ([false, true], false), ([false, true], true), ([true, false], false), ([true, false], true), ([true, true], false), ([true, true], true), ([false, false, false], false), ([false, false, false], true), ([false, false, true], false), ([false, false, true], true), ([false, true, false], false), ([false, true, false], true), ([false, true, true], false), ([false, true, true], true), ([true, false, false], false), ([true, false, false], true), ([true, false, true], false), ([true, false, true], true), ([true, true, false], false), ([true, true, false], true), ([true, true, true], false), ([true, true, true], true)] := by decide +kernel
theorem ck_all {a : Stf} (h : a ∈ stfs 3) : chkA a = true := by
  rw [stfs3] at h
  simp only [List.mem_cons, List.not_mem_nil, or_false] at h
  rcases h with rfl | rfl | rfl | rfl | rfl | rfl | rfl | rfl | rfl | rfl | rfl | rfl | rfl | rfl | rfl | rfl | rfl | rfl | rfl | rfl | rfl | rfl | rfl | rfl | rfl | rfl | rfl | rfl
  · exact ck0
  · exact ck1
  · exact ck2
  · exact ck3
  · exact ck4
  · exact ck5
  · exact ck6
  · exact ck7
  · exact ck8
  · exact ck9
  · exact ck10
  · exact ck11
  · exact ck12
  · exact ck13
  · exact ck14
  · exact ck15
  · exact ck16
  · exact ck17
  · exact ck18
  · exact ck19
  · exact ck20
  · exact ck21
  · exact ck22
  · exact ck23
  · exact ck24
  · exact ck25
  · exact ck26
  · exact ck27
end UF
set_option maxHeartbeats 4000000
namespace UF
open PySem PySem.Spec PyProof.Rows L2
theorem stf3 {st : Stf} (h1 : 1 ≤ st.1.length) (h2 : st.1.length ≤ 3) : st ∈ stfs 3 := by
  obtain ⟨w, b⟩ := st
  exact mem_stfs (k := w.length - 1) (by show w.length - 1 < 3; simp at h2; omega) (mem_words (by simp at h1; omega))
theorem chk_of {ss : List Stf} (h : Dom ss) : chk1 ss = true := by
  obtain ⟨hn, hs⟩ := h
  match ss, hn, hs with
  | [], _, _ => exact ck_nil
  | [a], _, hs =>
    have ha := hs a (List.mem_singleton.mpr rfl)
    exact List.all_eq_true.mp ck_one a (stf3 ha.1 ha.2)
  | [a, b], _, hs =>
    have ha := hs a (List.mem_cons_self ..)
    have hb := hs b (List.mem_cons_of_mem _ (List.mem_singleton.mpr rfl))
    exact List.all_eq_true.mp (ck_all (stf3 ha.1 ha.2)) b (stf3 hb.1 hb.2)
  | a :: b :: c :: r, hn, _ => simp at hn
theorem dom_ok : DomOk := fun ss h ha => by
  have := chk_of h
  unfold chk1 at this
  rw [ha] at this
  cases e : ltl ss 40 [[]] 0 with
  | none => rw [e] at this; cases this
  | some b => exact ⟨b, rfl⟩
theorem rule_ok : ∀ ss, Dom ss → lawAre ss = true → RFacts (srt ss) := fun ss h hl => by
  have := chk_of h
  unfold lawAre at hl
  rw [Bool.and_eq_true] at hl
  unfold chk1 at this
  rw [hl.1] at this
  cases e : ltl ss 40 [[]] 0 with
  | none => rw [e] at this; cases this
  | some b =>
    cases b with
    | false => rw [e] at hl; cases hl.2
    | true =>
      rw [e] at this
      exact rfacts_of h.srt this
theorem sgl_law : vst.all (fun st => lawAre [st]) = true := by decide +kernel
theorem req_ok : vst.all (fun a => vst.all fun b => !decide ((rtS a).1 * (rtS b).2 = (rtS b).1 * (rtS a).2) || decide (rtS a = rtS b)) = true := by decide +kernel
theorem pin_all : vst.all (fun st => (upto 2).all fun l => match pin [st] (lng [st]) 20 l [] [] with | some (some _) => true | _ => false) = true := by decide +kernel
theorem vst_lng {st : Stf} (h : st ∈ vst) : lng [st] ≤ 2 := by
  have := (sgl_len (vst_sub h)).2
  unfold lng lng; omega
theorem pin_tot {st : Stf} (h : st ∈ vst) (l : Wd) : ∃ x, pin [st] (lng [st]) 20 l [] [] = some (some x) := by
  have h1 := List.all_eq_true.mp (List.all_eq_true.mp pin_all st h) (tl (lng [st]) l) (mem_upto (Nat.le_trans (tl_len _ _) (vst_lng h)))
  rw [pin_same (ss := [st]) (a := l) (b := tl (lng [st]) l) (tl_tl _ _).symm]
  split at h1
  · rename_i x e; exact ⟨x, e⟩
  · cases h1
/-! ### clean -/
section
variable {fl : Wd} {ss : List Stf}
theorem bitC_tot (hp : ∀ l, ∃ x, pin ss (lng ss) 20 l [] [] = some (some x)) (hw : wd fl ss ≤ 4) (here : Wd) : ∀ (bs : List Bool) (kn la : List Wd) (k : List Wd → List Wd → Option Bool), KnOk kn la →
    (∀ kn2 la2, KnOk kn2 la2 → kn2.length + la.length = kn.length + la2.length → ∃ c, k kn2 la2 = some c) → ∃ c, bitC fl ss here bs kn la k = some c
  | [], kn, la, k, hk, hc => hc kn la hk rfl
  | b :: r, kn, la, k, hk, hc => by
    obtain ⟨more, hm⟩ := hp (here ++ [b])
    have hst : stC fl ss here b kn la = (if inl' fl (here ++ [b] ++ more) || !bc fl (tl (wd fl ss) (here ++ [b] ++ more)) then some none
      else if mem (tl (wd fl ss) (here ++ [b] ++ more)) kn then some (some (kn, la)) else some (some (kn ++ [tl (wd fl ss) (here ++ [b] ++ more)], la ++ [tl (wd fl ss) (here ++ [b] ++ more)]))) := by unfold stC; rw [hm]
    have hs : bitC fl ss here (b :: r) kn la k = (match stC fl ss here b kn la with
      | none => none
      | some none => some false
      | some (some v) => bitC fl ss here r v.1 v.2 k) := rfl
    rw [hs, hst]
    by_cases h1 : (inl' fl (here ++ [b] ++ more) || !bc fl (tl (wd fl ss) (here ++ [b] ++ more))) = true
    · rw [if_pos h1]; exact ⟨false, rfl⟩
    · rw [if_neg h1]
      have htl := tl_len (wd fl ss) (here ++ [b] ++ more)
      by_cases h2 : mem (tl (wd fl ss) (here ++ [b] ++ more)) kn = true
      · rw [if_pos h2]; exact bitC_tot hp hw here r kn la k hk hc
      · rw [if_neg h2]
        refine bitC_tot hp hw here r _ _ k (hk.snoc (mem_false (by simpa using h2)) (by omega)) fun kn2 la2 h3 h4 => hc kn2 la2 h3 ?_
        rw [List.length_append, List.length_append] at h4
        simp at h4; omega
theorem layC_tot (hp : ∀ l, ∃ x, pin ss (lng ss) 20 l [] [] = some (some x)) (hw : wd fl ss ≤ 4) : ∀ (layer kn la : List Wd) (k : List Wd → List Wd → Option Bool), KnOk kn la →
    (∀ kn2 la2, KnOk kn2 la2 → kn2.length + la.length = kn.length + la2.length → ∃ c, k kn2 la2 = some c) → ∃ c, layC fl ss layer kn la k = some c
  | [], kn, la, k, hk, hc => hc kn la hk rfl
  | h :: r, kn, la, k, hk, hc => by
    show ∃ c, bitC fl ss h [false, true] kn la (fun kn la => layC fl ss r kn la k) = some c
    refine bitC_tot hp hw h _ kn la _ hk fun kn2 la2 hk2 e2 => ?_
    exact layC_tot hp hw r kn2 la2 k hk2 fun kn3 la3 hk3 e3 => hc kn3 la3 hk3 (by omega)
theorem wlkC_tot (hp : ∀ l, ∃ x, pin ss (lng ss) 20 l [] [] = some (some x)) (hw : wd fl ss ≤ 4) : ∀ (f : Nat) (layer kn : List Wd), kn.Nodup → (∀ w ∈ kn, w.length ≤ 4) → 1 ≤ f → (layer ≠ [] → 33 ≤ f + kn.length) → ∃ c, wlkC fl ss f layer kn = some c
  | 0, _, _, _, _, h, _ => absurd h (by decide)
  | f + 1, [], kn, _, _, _, _ => ⟨true, rfl⟩
  | f + 1, h :: r, kn, nd, l4, _, hf => by
    have hf := hf (by simp)
    have h31 := kn_le nd l4
    show ∃ c, layC fl ss (h :: r) kn [] (fun kn la => wlkC fl ss f la kn) = some c
    refine layC_tot hp hw _ kn [] _ ⟨nd, l4, (fun w hw => by cases hw), Nat.zero_le _⟩ fun kn2 la2 hk2 e2 => ?_
    refine wlkC_tot hp hw f la2 kn2 hk2.nd hk2.l4 (by omega) fun hne => ?_
    have : 0 < la2.length := List.length_pos_iff.mpr hne
    simp at e2
    omega
end
theorem cln_ok : ∀ fl : Wd, 2 ≤ fl.length → fl.length ≤ 5 → CleanTot fl := fun fl h2 h5 st hst => by
  have hl := vst_lng hst
  have hw : wd fl [st] ≤ 4 := by unfold wd; omega
  obtain ⟨c, hc⟩ := wlkC_tot (pin_tot hst) hw 40 [[]] [[]] (by simp) (by simp) (by omega) (by simp)
  exact ⟨c, by omega, h5, by omega, hc⟩
theorem facts : Facts where
  dom := dom_ok
  rule := rule_ok
  sgl := fun st h => List.all_eq_true.mp sgl_law st h
  cln := cln_ok
  req := fun a ha b hb e => by
    have := List.all_eq_true.mp (List.all_eq_true.mp req_ok a ha) b hb
    rw [decide_eq_true e] at this
    simpa using this
end UF
set_option maxHeartbeats 0
open PySem PySem.W PySem.Calls PyProof.Rows
theorem PySem.Challenge.cw_unseenflips_k97_whole_costs_of_what_was_holds : PySem.Challenge.rw_unseenflips_k97_whole_costs_of_what_was.Holds := by
  w_on; o_law
  refine HandSHeadRun.head_any (r := OpenLaw.row PySem.Challenge.rw_unseenflips_k97_whole_costs_of_what_was) (q := view (OpenLaw.row PySem.Challenge.rw_unseenflips_k97_whole_costs_of_what_was).prog [69]) (H := UF.hk) (ob := UF.ob) (M := 6000) (loose := UF.loose)
    (d := HandSHeadRun.topDef (OpenLaw.row PySem.Challenge.rw_unseenflips_k97_whole_costs_of_what_was).prog 69) (kwd := []) UF.ob_eq
    (by kernel_rfl) (fun s => by kernel_rfl) UF.run (by kernel_rfl) (by kernel_rfl) (by kernel_rfl) (by rfl) (by first | assumption | decide +kernel) (by decide +kernel) ⟨rfl, rfl, rfl, rfl, rfl, by decide +kernel⟩ ?hw ?hc
  case hw => w_witness2
  case hc =>
    refine L2.walk_ofE (l := PySem.Challenge.rw_unseenflips_k97_whole_costs_of_what_was) (n := 63) (k := 11) (x := "_law_script") (CX := L2.CX0) rfl (by decide) (by kernel_rfl) ⟨rfl, by decide, by decide⟩ ?F (fun _ _ _ _ z => z)
    intro w mg fa h Y G hmg0
    obtain ⟨K, KX, c⟩ := Y
    have hmg : mg ("law" : PySem.Str) = some (.ref fa) := by
      have e : (HandSHeadRun.topDef (OpenLaw.row PySem.Challenge.rw_unseenflips_k97_whole_costs_of_what_was).prog 69).name = ("law" : PySem.Str) := by kernel_rfl
      rw [← e]
      exact hmg0
    have efa : fa = He.ga K "law" := by
      have e := hmg.symm.trans (He.glo_ok KX G (c.fact 54 (f := .glo "law") rfl))
      cases e
      rfl
    subst efa
    obtain ⟨fd, hb, hF⟩ := UF.all_ok (P := (PySem.Challenge.rw_unseenflips_k97_whole_costs_of_what_was).prog) (w := w) rfl KX G c
    exact ⟨K, fd, UF.sp_law K (He.ga K "Rule"), KX, hb, fun H a ns hl _ hS => ⟨a, ns, rfl, hS, by omega, UF.facts, fun _ => rfl⟩, fun base _ _ => hF base⟩
