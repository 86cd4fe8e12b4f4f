import PyProof.Rows.All
import Wide.All
import OpenK.AllK
import Wide.FinOn
import HandS.ForMost
import HandS.ForExc
import HandS.More
import HandS.Flow
import HandS.IsInst
import HandS.ClsMeth
import HandS.SlotsOwn
import HandS.Star
import HandS.Steps
import HandS.Evl
import PySem.Challenge.RW_shownwrites_k38_writes_are_values
set_option Elab.async false
set_option linter.all false
set_option maxRecDepth 100000
set_option maxHeartbeats 4000000
/-! Sw0: further rules over the hand layer. -/
namespace Sw
open PySem PySem.Spec PyProof.Rows L2

/-! ### calls by FnR -/
def tCR (sp : Sp) (E : XK) (t : TA) : TE := fun σ H Q => t σ H fun vs H1 => sp vs H1 Q E
section
variable {X : Cx} {CX : CXT} {k : Nat} {f C g : Addr} {sp : Sp} {E : XK} {x m : Str} {p pos apos : Pos} {e : Expr} {es : List Expr} {t : TA} {pl : Sem Bool}
theorem pe_cR (F : FnR X.prog X.w X.K X.mg X.base CX k f sp) (hr : Room k X.A) (hg : Gl X x) (hm : X.mg x = some (.ref f)) (hk : PySem.W.keepIn X.K (.ref f) = true) (hx : Passes CX X E)
    (ha : PA X (e :: es) t) (hdb : (x == ("__debug__" : Str)) = false := by decide) (he : starEach (e :: es) X.env = (false, eval e X.env) :: starEach es X.env := by rfl) (hpl : (backTo pos (starEach es X.env)).any (·.1) = false := by rfl) :
    PE X (.Call (.Name x p) (e :: es) [] pos) (tCR sp E t) := by
  refine ⟨fun pins s σ H Q I h => ?_⟩
  refine wpAny_Call_Name_kw (ld_glob I hg hm ?_ hdb)
  refine PySem.W.callWith_K (h₀ := X.base) I.ok.mod.kin hk (thn (ha.run pos pins s σ H _ I h) fun us s1 ⟨vs, H1, I1, r, q⟩ => ⟨I1.kIn, ?_⟩) he hpl
  exact wpAny_call (run_fnR F hr hx I1 r q)

/-- C.m is a def of the class C (or a staticmethod of it) -/
structure CFn (K : PySem.W.Frag) (C : Addr) (m : Str) (g : Addr) : Prop where
  rd : PySem.W.readsIn K C (.type "type") = true
  ga : PySem.W.specialIn K (.ref C) "__getattribute__" = some (some (.builtin "type.__getattribute__"))
  at_ : PySem.W.findCls K (.ref C) (.type "type") m = some (.val (.ref g)) ∨
    ∃ (p : Addr) (rest : List Value), PySem.W.findCls K (.ref C) (.type "type") m = some (.get (.builtin "staticmethod.__get__") (.ref p) .none (.ref C)) ∧ PySem.W.recIn K p "staticmethod" = some (.ref g :: rest)
  kp : PySem.W.keepIn K (.ref g) = true
theorem handed_ref (g : Addr) : PySem.W.handedIn (.ref g) = true := handed_of (v := .ref g) rfl
theorem getCFn {b : Bool} {A : Around} {E : Value → Shared → Prop} {Q : Value → Shared → Prop} {pins : List (Addr × Obj)} {σ : L2.St} {H : Hp} {s : Shared} (I : Inv X pins σ H s) (c : CFn X.K C m g) (h : ∀ s', Inv X pins σ H s' → Q (.ref g) s') :
    wpAny (model X.prog X.w) A (getAttr (.ref C) m b) Q E s := by
  rcases c.at_ with e | ⟨p, rest, e, hp⟩
  · exact PySem.W.cls_value I.kIn c.rd e (handed_ref g) (h _ (I.tok _))
  · exact PySem.W.cls_bind I.kIn c.rd e (wpAny_call (PySem.W.sm_get (s := { s with toks := s.toks + 1 }) I.kIn hp (PySem.W.handed_on (handed_ref g) (h _ (I.tok _)))))
theorem pe_clsR (c : CFn X.K C m g) (F : FnR X.prog X.w X.K X.mg X.base CX k g sp) (hr : Room k X.A) (hg : Gl X x) (hm : X.mg x = some (.ref C)) (hx : Passes CX X E) (ha : PA X (e :: es) t) (hdb : (x == ("__debug__" : Str)) = false := by decide)
    (hst : starEach (e :: es) X.env = (false, eval e X.env) :: starEach es X.env := by rfl) (hpl : (backTo pos (starEach es X.env)).any (·.1) = false := by rfl)
    (ht : eval (.Call (.Attribute (.Name x p) m apos) (e :: es) [] pos) X.env = (do
      let ov ← eval (.Name x p) X.env
      standAt apos.atName
      let (f, first) ← holding [ov] (getMethod ov m pl)
      callWith pos f first (backTo pos (starEach (e :: es) X.env)) (backToKw pos (keywordEach [] X.env))) := by rfl) :
    PE X (.Call (.Attribute (.Name x p) m apos) (e :: es) [] pos) (tCR sp E t) := by
  refine ⟨fun pins s σ H Q I h => ?_⟩
  refine PySem.W.methodCall_KW (pl := pl) (ld_glob I hg hm ?_ hdb) ht
  refine PySem.W.method_cls I.kIn c.ga (getCFn I c fun s2 I2 => ?_)
  refine PySem.W.callWith_K (h₀ := X.base) I.ok.mod.kin c.kp (thn (ha.run pos pins s2 σ H _ I2 h) fun us s3 ⟨vs, H2, I3, r, q2⟩ => ⟨I3.kIn, ?_⟩) hst hpl
  exact wpAny_call (run_fnR F hr hx I3 r q2)
end

/-! ### own comparisons of instances with a dict -/
/-- x op y, x an instance of the class at C whose def for op is at g -/
def rOwnI (K : PySem.W.Frag) (C : Addr) (sp : Sp) (E : XK) : R2 := fun x y H Q => ∃ a dx fs t, x = .ref a ∧ H a = some (.ins C dx fs) ∧ TyX K H y t ∧ PySem.W.notFirst K C t = true ∧ sp [x, y] H Q E
section
variable {X : Cx} {CX : CXT} {n : Nat} {C g : Addr} {sp : Sp} {E : XK}
theorem op_ownI {op : CmpOp} (hop : ∀ a b, compareOp op a b = richCompare op a b) (hs : PySem.W.findIn X.K (.ref C) (cmpInfo op).2.1 = some (some (.ref g))) (hf : PySem.W.isFn X.K (.ref g) = true) (F : FnR X.prog X.w X.K X.mg X.base CX n g sp)
    (hr : Room n X.A) (hx : Passes CX X E) : OpR X (compareOp op) (rOwnI X.K C sp E) := by
  intro pins s σ H x y v u Q I rx ry h
  obtain ⟨a, dx, fs, t, rfl, ha, ty, hn, q⟩ := h
  cases (show v = Value.ref a from rx)
  obtain ⟨mA, O, _⟩ := ins_get I.hok ha
  obtain ⟨od, J, _⟩ := O.look
  obtain ⟨P, Z, p, _⟩ := kit_of I ry ty
  obtain ⟨m, hF⟩ := I.fr
  rw [hop]
  refine PySem.W.cmp_K (op := op) (tb := t) hr.units0 hF I.ok.mod.kin J (Z.ty _ _ I.kIn p) hn hs hf ?_
  refine wpAny_mono (wpAny_call (run_fnR (us := [.ref a, u]) (vs := [.ref a, y]) F hr hx I (.cons rfl (.cons ry .nil)) q)) (fun w s' z => ?_) fun _ _ x => x
  obtain ⟨z', H', I', rz, qz⟩ := z
  exact SlX.cmpback rz ⟨z', H', I', rz, qz⟩
theorem op_ownEq (hs : PySem.W.findIn X.K (.ref C) "__eq__" = some (some (.ref g))) (hf : PySem.W.isFn X.K (.ref g) = true) (F : FnR X.prog X.w X.K X.mg X.base CX n g sp)
    (hr : Room n X.A) (hx : Passes CX X E) : OpR X (compareOp .Eq) (rOwnI X.K C sp E) := op_ownI (op := .Eq) (fun _ _ => rfl) hs hf F hr hx
end

/-! ### a def of the text, by its place -/
structure DefAt (K : PySem.W.Frag) (x qual : Str) (st : Stmt) (ps : List Str) (f : Addr) : Prop where
  ex : ∃ fd, Fun K x qual st f fd ∧ Binds K fd ps []
section
variable {P : Program} {w : World} {K : PySem.W.Frag} {mg : Str → Option Value} {base : Heap} {x qual : Str} {st : Stmt} {ps : List Str} {f : Addr}
theorem DefAt.kp (D : DefAt K x qual st ps f) : PySem.W.keepIn K (.ref f) = true := let ⟨_, F, _⟩ := D.ex; F.kp
theorem DefAt.mk' {oc : Value} {od an : Option Addr} {osl : Array (Option Value)} {kV doc pm cdv ct : Value} (l : K.lookup f = some ⟨oc, od, .func (PySem.W.fnOf x qual (defArgs st) (defBody st) (defScope st) .none kV doc pm an cdv ct), osl⟩)
    (c : PySem.W.codeIn K cdv qual = true) (k : PySem.W.keepIn K (.ref f) = true)
    (h : ∀ (kV doc pm : Value) (an : Option Addr) (cdv ct : Value) (us : List Value), us.length = ps.length → bindArgs (PySem.W.fnOf x qual (defArgs st) (defBody st) (defScope st) .none kV doc pm an cdv ct) ⟨us, []⟩ = pure (ps.zip us)) : DefAt K x qual st ps f :=
  have F := fun_mk (st := st) l c k
  ⟨_, F, F.binds h⟩
theorem FnOk.toR {CX : CXT} {k : Nat} {fd : FuncData} {sp : Sp} (F : FnOk P w K mg base CX k f fd ps sp) (hb : Binds K fd ps []) : FnR P w K mg base CX k f sp :=
  (FnOk.raw F hb .nil).imp fun vs H Q E h => by rw [List.append_nil]; exact h
theorem DefAt.okR {N : List Str} {k : Nat} {sp : Sp} (D : DefAt K x qual st ps f) (S : FnScope N ps (defScope st)) (len : ∀ vs H Q E, sp vs H Q E → vs.length = ps.length)
    (hbody : ∀ (cdv : Value) (A : Around) (outer : List Env) (s : Shared) (H : Hp) (vs : List V) (Q : VK) (E : XK), Room k (A.deeper (envOfC qual (defScope st) s.heap.objs.size f cdv)) → sp vs H Q E →
      ∃ t, PSs (cxOf CX0 P w K mg base N qual (defScope st) f cdv A outer s H E).nox (defBody st) t ∧ t { nx := fun _ H' => Q .non H', rt := Q } (start N vs) H) : FnR P w K mg base CX0 (k + 1) f sp := by
  obtain ⟨fd, F, hb⟩ := D.ex
  exact FnOk.toR (F.ok S len hbody) hb
end
/-- what isinstance asks of the class at C -/
structure ClsTy (K : PySem.W.Frag) (C : Addr) : Prop where
  ca : PySem.W.findIn K (.ref C) "__class__" = some (some (.builtin "object.__class__"))
  cn : PySem.W.specialIn K (.builtin "object.__class__") "__get__" = some (some (.builtin "getset_descriptor.__get__"))
  ct : PySem.W.takesIn K (.builtin "object.__class__") = some true
  cm : PySem.W.mroIn K C (.type "object") = some true
theorem tyI {K : PySem.W.Frag} {H : Hp} {a C dx : Addr} {fs : List (Str × V)} (e : H a = some (.ins C dx fs)) (c : Cls K C) (t : ClsTy K C) : TyX K H (.ref a) (.ref C) := .base (.ins e c t.ca t.cn t.ct t.cm)

/-! ### built-ins by named readings -/
def rLen (K : PySem.W.Frag) : List V → Hp → VK → Prop := fun xs H Q => ∃ p ys, xs = [.ref p] ∧ (SqL K H p ys ∨ SqT K H p ys) ∧ Q (.int ys.length) H
theorem cr_len {X : Cx} : CallR X (.builtin "len") (rLen X.K) := call_len_seq
def rLenStr : List V → Hp → VK → Prop := fun xs H Q => ∃ z, xs = [.str z] ∧ z.length ≤ sizeLine ∧ Q (.int z.length) H
theorem cr_lenStr {X : Cx} : CallR X (.builtin "len") rLenStr := call_len_str
def rInt1 : List V → Hp → VK → Prop := fun xs H Q => (∃ i, xs = [.int i] ∧ Q (.int i) H) ∨ ∃ k, xs = [.bl k] ∧ Q (.int (if k then 1 else 0)) H
theorem cr_int {X : Cx} : CallR X (.type "int") rInt1 := call_int1
def rBool1 : List V → Hp → VK → Prop := fun xs H Q => (∃ i, xs = [.int i] ∧ Q (.bl (i != 0)) H) ∨ ∃ k, xs = [.bl k] ∧ Q (.bl k) H
theorem cr_bool {X : Cx} : CallR X (.type "bool") rBool1 := call_bool1
def rListOf (K : PySem.W.Frag) : List V → Hp → VK → Prop := fun xs H Q => ∃ p ys, xs = [.ref p] ∧ (SqL K H p ys ∨ SqT K H p ys) ∧ ∀ l, H l = none → Q (.ref l) (upd H l (.lst ys))
theorem cr_list {X : Cx} : CallR X (.type "list") (rListOf X.K) := call_list_of
def rTupOf (K : PySem.W.Frag) : List V → Hp → VK → Prop := fun xs H Q => ∃ p ys, xs = [.ref p] ∧ ((SqL K H p ys ∧ ∀ l, H l = none → Q (.ref l) (upd H l (.tup ys))) ∨ (SqT K H p ys ∧ Q (.ref p) H))
theorem cr_tuple {X : Cx} : CallR X (.type "tuple") (rTupOf X.K) := call_tuple_of
/-! ### the same rules, the written part named (a comprehension's block has its own X) -/
section
variable {X : Cx} (K : PySem.W.Frag)
theorem ix_listK (hK : X.K = K := by rfl) : IxR X (rIxL K) := hK ▸ ix_list
theorem ix_tupK (hK : X.K = K := by rfl) : IxR X (rIxT K) := hK ▸ ix_tup
theorem cr_lenK (hK : X.K = K := by rfl) : CallR X (.builtin "len") (rLen K) := hK ▸ cr_len
theorem cr_listK (hK : X.K = K := by rfl) : CallR X (.type "list") (rListOf K) := hK ▸ cr_list
theorem cr_tupleK (hK : X.K = K := by rfl) : CallR X (.type "tuple") (rTupOf K) := hK ▸ cr_tuple
theorem cr_isiK (hK : X.K = K := by rfl) : CallR X (.builtin "isinstance") (rIsi K) := hK ▸ call_isi
theorem cr_allK (hc : X.calm = true := by rfl) (hK : X.K = K := by rfl) : CallR X (.builtin "all") (rAll K) := hK ▸ cr_all hc
theorem cr_anyK (hc : X.calm = true := by rfl) (hK : X.K = K := by rfl) : CallR X (.builtin "any") (rAny K) := hK ▸ cr_any hc
theorem cr_sortedK (hK : X.K = K := by rfl) : CallR X (.builtin "sorted") (rSorted K) := hK ▸ cr_sorted
theorem op_inK (hK : X.K = K := by rfl) : OpR X (compareOp .In) (rIn K false) := hK ▸ op_in_seq
theorem op_notInK (hK : X.K = K := by rfl) : OpR X (compareOp .NotIn) (rIn K true) := hK ▸ op_notIn_seq
theorem op_eqDK (hu : X.A.units + 64 < cLine) (hK : X.K = K := by rfl) : OpR X (compareOp .Eq) (rEqD K) := hK ▸ op_eqD hu
theorem op_neDK (hu : X.A.units + 64 < cLine) (hK : X.K = K := by rfl) : OpR X (compareOp .NotEq) (rNeD K) := hK ▸ op_neD hu
theorem sl_listK (hK : X.K = K := by rfl) : SlR X (rSlL K) := hK ▸ sl_list
theorem sl_tupK (hK : X.K = K := by rfl) : SlR X (rSlT K) := hK ▸ sl_tup
theorem pe_fldK {e : Expr} {f : Str} {pos : Pos} {ta : TE} (he : PE X e ta) (hb : attributeBase e f X.env (eval e X.env) = eval e X.env) (hK : X.K = K := by rfl) : PE X (.Attribute e f pos) (tFld K ta f) := hK ▸ pe_fld he hb
theorem ps_fldK {o value : Expr} {f : Str} {pos pos' : Pos} {ta tv : TE} (ha : PE X o ta) (hv : PE X value tv) (hs : swapsWith value (some (.Attribute o f pos')) pos.line X.env = pure false) (hK : X.K = K := by rfl) :
    PS X (.Assign [.Attribute o f pos'] value pos) (sFld K ta tv f) := hK ▸ ps_fld ha hv hs
theorem pi_listK {tg l : Expr} {tl : TE} (hl : PE X l tl) (hK : X.K = K := by rfl) : PI X tg l (iList K tl) := hK ▸ pi_list hl
theorem pi_tupK {tg l : Expr} {tl : TE} (hl : PE X l tl) (hK : X.K = K := by rfl) : PI X tg l (iTup K tl) := hK ▸ pi_tup hl
theorem pg_tupK {es : List Expr} {k : Nat} {t : TGs} {n : Nat} {pos : Pos} (hc : X.calm = true) (h : PGs X es t)
    (hn : (assignEach es X.env).length = n := by rfl) (hst : (assignEach es X.env).findIdx? (·.1) = none := by rfl) (hK : X.K = K := by rfl) : PG X (.Tuple es k pos) (gTup K n t) := hK ▸ pg_tup hc h hn hst
def tTruK (K : PySem.W.Frag) (ta : TE) : TT := fun σ H Q => ta σ H fun x H' => ∃ k, TruV K x H' k ∧ Q k H'
theorem pt_truthK {e : Expr} {ta : TE} (ha : PE X e ta) (he : ∀ whole, isTrue e X.env whole = (do let v ← whole; standAt e.pos; holding [v] (truthy v))) (hK : X.K = K := by rfl) : PT X e (tTruK K ta) := hK ▸ pt_truth ha he
theorem pe_orTK {a b : Expr} {rest : List Expr} {pos : Pos} {ta tb : TE} (ha : PE X a ta) (hb : PE X (.BoolOp .Or (b :: rest) pos) tb) (hK : X.K = K := by rfl) : PE X (.BoolOp .Or (a :: b :: rest) pos) (tOrT K ta tb) := hK ▸ pe_orT ha hb
theorem pe_bmK {T : String} {name : Str} {id : String} {r : V → List V → Hp → VK → Prop} {o e : Expr} {es : List Expr} {apos cpos : Pos} {to : TE} {t : TA} (pa : PlainAttrs T) (slot : Slot T name id) (hty : typeOf (.builtin id) = pure (.type "method_descriptor")) (hm : MtR X id r) (ho : PE X o to) (ha : PA X (e :: es) t)
    (hbase : attributeBase o name X.env (eval o X.env) = eval o X.env := by rfl)
    (hfew : ((backTo cpos (starEach (e :: es) X.env)).all (fun x => !x.1) && (backToKw cpos (keywordEach [] X.env)).all (fun x => x.1.isSome)
      && decide ((e :: es).length + ([] : List Keyword).length + (if ([] : List Keyword).isEmpty then 0 else 1) < 30)) = true := by rfl)
    (hline : (apos.endLine == cpos.line) = true := by rfl) (hs : starEach (e :: es) X.env = (false, eval e X.env) :: starEach es X.env := by rfl) (hplain : (backTo cpos (starEach es X.env)).any (·.1) = false := by rfl) (hK : X.K = K := by rfl) : PE X (.Call (.Attribute o name apos) (e :: es) [] cpos) (tBM K T r to t) := hK ▸ pe_bm pa slot hty hm ho ha hbase hfew hline hs hplain
theorem pe_bm0K {T : String} {name : Str} {id : String} {r : V → List V → Hp → VK → Prop} {o : Expr} {apos cpos : Pos} {to : TE} (pa : PlainAttrs T) (slot : Slot T name id) (hty : typeOf (.builtin id) = pure (.type "method_descriptor")) (hm : MtR X id r) (ho : PE X o to)
    (hbase : attributeBase o name X.env (eval o X.env) = eval o X.env := by rfl) (hline : (apos.endLine == cpos.line) = true := by rfl) (hK : X.K = K := by rfl) : PE X (.Call (.Attribute o name apos) [] [] cpos) (tBM0 K T r to) := hK ▸ pe_bm0 pa slot hty hm ho hbase hline
end
/-! ### heaps -/
theorem same_new {H : Hp} {p : Addr} {o : HO} (h : H p = none) : Same H (upd H p o) := fun a u e => by rw [upd_ne (ne_of_none e h)]; exact e
/-- a new object: the heap from then on is a letter -/
theorem new_obj {H : Hp} {o : HO} {R : Addr → Hp → Prop} (h : ∀ p H1, H p = none → Same H H1 → H1 p = some o → R p H1) : ∀ p, H p = none → R p (upd H p o) := fun p hp => h p _ hp (same_new hp) upd_same
end Sw

set_option Elab.async false
set_option linter.all false
set_option maxRecDepth 100000
set_option maxHeartbeats 4000000
/-! Sw1: readings, one lemma a word, for a walk by heads. -/
namespace Sw
open PySem PySem.Spec PyProof.Rows L2
section
variable {K : PySem.W.Frag} {D : Ends} {σ : L2.St} {H : Hp} {Q : VK} {R : L2.St → Hp → Prop} {B : Bool → Hp → Prop} {t u : TS} {te ta tb tc tx ti to tl : TE} {tt ut : TT} {ts : TA} {g : TG} {gs : TGs} {r r' : R2} {x y z v : V} {i j : Nat} {xs ys : List V} {p q C dx : Addr} {fs : List (Str × V)} {f : Str} {sp : Sp} {E : XK}
theorem c_seq (h : t { D with nx := u D } σ H) : tSeq t u D σ H := h
theorem c_asgv (h : te σ H fun v H1 => D.nx (σ.set i (some v)) H1) : tAsg te (gName i) D σ H := h
theorem c_asg (h : te σ H fun v H1 => g v σ H1 D.nx) : tAsg te g D σ H := h
theorem c_name (h : R (σ.set i (some v)) H) : gName i v σ H R := h
theorem c_if (h : tt σ H fun b H1 => if b = true then t D σ H1 else u D σ H1) : tIfS tt t u D σ H := h
theorem c_ret (h : te σ H D.rt) : tRet te D σ H := h
theorem c_retN (h : D.rt .non H) : tRetN D σ H := h
theorem c_drop (h : te σ H fun _ H1 => D.nx σ H1) : tDrop te D σ H := h
theorem c_next (h : D.nx σ H) : tNext D σ H := h
theorem c_brk (h : D.bk σ H) : tBreak D σ H := h
theorem c_cont (h : D.ct σ H) : tCont D σ H := h
theorem c_var (e : σ[i]? = some (some v)) (h : Q v H) : tVar i σ H Q := ⟨v, e, h⟩
theorem c_c (h : Q v H) : tC v σ H Q := h
theorem c_op (h : ta σ H fun x H1 => tb σ H1 fun y H2 => r x y H2 Q) : tOp r ta tb σ H Q := h
theorem c_un {r : V → Hp → VK → Prop} (h : ta σ H fun x H1 => r x H1 Q) : tUn r ta σ H Q := h
theorem c_rU {g : Int → V} {i : Int} (h : Q (g i) H) : rU g (.int i) H Q := ⟨i, rfl, h⟩
theorem c_I0 {g : Int → Int → V} {i j : Int} (h : Q (g i j) H) : rI0 g (.int i) (.int j) H Q := ⟨i, j, rfl, rfl, h⟩
theorem c_I {C : Int → Int → Prop} {g : Int → Int → V} {i j : Int} (c : C i j) (h : Q (g i j) H) : rI C g (.int i) (.int j) H Q := ⟨i, j, rfl, rfl, c, h⟩
theorem c_eq (e : scal x y = true) (h : Q (.bl (decide (x = y))) H) : rEq x y H Q := ⟨e, h⟩
theorem c_ne (e : scal x y = true) (h : Q (.bl (!decide (x = y))) H) : rNe x y H Q := ⟨e, h⟩
theorem c_test (h : te σ H fun x H' => ∃ k, x = .bl k ∧ B k H') : tTest te σ H B := h
theorem c_B (h : te σ H fun x H' => ∃ k, x = .bl k ∧ B k H') : tB te σ H B := h
theorem c_bl {b : Bool} {B' : Bool → Prop} (h : B' b) : ∃ k, V.bl b = .bl k ∧ B' k := ⟨b, rfl, h⟩
theorem c_and (h : tt σ H fun c H1 => if c = true then ut σ H1 B else B false H1) : tAnd tt ut σ H B := h
theorem c_or (h : tt σ H fun c H1 => if c = true then B true H1 else ut σ H1 B) : tOr tt ut σ H B := h
theorem c_not (h : tt σ H fun c H1 => B (!c) H1) : tNot tt σ H B := h
theorem c_ifE (h : tt σ H fun c H1 => if c = true then ta σ H1 Q else tb σ H1 Q) : tIf tt ta tb σ H Q := h
theorem c_CB {r : List V → Hp → VK → Prop} (h : ts σ H fun vs H1 => r vs H1 Q) : tCB r ts σ H Q := h
theorem c_CR (h : ts σ H fun vs H1 => sp vs H1 Q E) : tCR sp E ts σ H Q := h
theorem c_cons {R : List V → Hp → Prop} (h : ta σ H fun x H1 => ts σ H1 fun xs H2 => R (x :: xs) H2) : tCons ta ts σ H R := h
theorem c_nil {R : List V → Hp → Prop} (h : R [] H) : tNil σ H R := h
/-- a made list, a made tuple -/
def NewL (xs : List V) (H : Hp) (Q : VK) : Prop := xs.length ≤ sizeLine ∧ ∀ p, H p = none → Q (.ref p) (upd H p (.lst xs))
def NewT (xs : List V) (H : Hp) (Q : VK) : Prop := xs.length ≤ sizeLine ∧ ∀ p, H p = none → Q (.ref p) (upd H p (.tup xs))
theorem c_lst (h : ts σ H fun xs H1 => NewL xs H1 Q) : tLst ts σ H Q := h
theorem c_tup (h : ts σ H fun xs H1 => NewT xs H1 Q) : tTup ts σ H Q := h
/-- .. short: the heap becomes a letter -/
theorem c_newL (hl : xs.length ≤ 100000) (h : ∀ p H1, H p = none → Same H H1 → H1 p = some (.lst xs) → Q (.ref p) H1) : NewL xs H Q :=
  ⟨Nat.le_trans hl (by decide), new_obj h⟩
theorem c_newT (hl : xs.length ≤ 100000) (h : ∀ p H1, H p = none → Same H H1 → H1 p = some (.tup xs) → Q (.ref p) H1) : NewT xs H Q :=
  ⟨Nat.le_trans hl (by decide), new_obj h⟩
theorem c_ixL {i : Int} (e : H p = some (.lst xs)) (ea : atI xs i = some v) (h : Q v H) : rIxL K (.ref p) (.int i) H Q := ⟨p, xs, i, v, rfl, rfl, SqL.of e, ea, h⟩
theorem c_ixT {i : Int} (e : H p = some (.tup xs)) (ea : atI xs i = some v) (h : Q v H) : rIxT K (.ref p) (.int i) H Q := ⟨p, xs, i, v, rfl, rfl, SqT.of e, ea, h⟩
theorem c_sub {S : TSet} (h : to σ H fun o H1 => ti σ H1 fun i H2 => S o i v H2 fun H3 => R σ H3) : gSub to ti S v σ H R := h
theorem c_setL {k : Int} {R : Hp → Prop} (e : H p = some (.lst xs)) (ej : ixN xs.length k = some j) (h : ∀ H1, (∀ b, b ≠ p → H1 b = H b) → H1 p = some (.lst (xs.set j v)) → R H1) : rSetL (.ref p) (.int k) v H R :=
  ⟨p, xs, k, j, rfl, rfl, e, ej, h _ (fun b hb => upd_ne hb) upd_same⟩
/-- x.f -/
def FldAt (K : PySem.W.Frag) (f : Str) (x : V) (H : Hp) (Q : VK) : Prop := ∃ a C dx fs v, x = .ref a ∧ H a = some (.ins C dx fs) ∧ Cls K C ∧ NoAttr K C f ∧ fs.lookup f = some v ∧ Q v H
theorem c_fld (h : ta σ H fun x H1 => FldAt K f x H1 Q) : tFld K ta f σ H Q := h
theorem c_fldv (e : H p = some (.ins C dx fs)) (c : Cls K C) (n : NoAttr K C f) (l : fs.lookup f = some v) (h : Q v H) : FldAt K f (.ref p) H Q := ⟨p, C, dx, fs, v, rfl, e, c, n, l, h⟩
/-- x.f = y -/
def FldTo (K : PySem.W.Frag) (f : Str) (x y : V) (H : Hp) (W : Hp → Prop) : Prop := ∃ a C dx fs, x = .ref a ∧ H a = some (.ins C dx fs) ∧ Cls K C ∧ NoAttr K C f ∧ fs.length < 1000 ∧ W (upd H a (.ins C dx (putF f y fs)))
theorem c_sfld (h : te σ H fun y H1 => ta σ H1 fun x H2 => FldTo K f x y H2 fun H3 => D.nx σ H3) : sFld K ta te f D σ H := h
theorem c_sfldv {W : Hp → Prop} (e : H p = some (.ins C dx fs)) (c : Cls K C) (n : NoAttr K C f) (l : fs.length < 1000) (h : ∀ H1, (∀ b, b ≠ p → H1 b = H b) → H1 p = some (.ins C dx (putF f v fs)) → W H1) : FldTo K f (.ref p) v H W :=
  ⟨p, C, dx, fs, rfl, e, c, n, l, h _ (fun b hb => upd_ne hb) upd_same⟩
end
/-! ### tests that are decided -/
theorem iteD {p A B : Prop} [Decidable p] (h1 : p → A) (h2 : ¬ p → B) : if decide p = true then A else B := by
  by_cases h : p
  · rw [decide_eq_true h]; exact iteT (h1 h)
  · rw [decide_eq_false h]; exact iteF (h2 h)
theorem iteDN {p A B : Prop} [Decidable p] (h1 : ¬ p → A) (h2 : p → B) : if (!decide p) = true then A else B := by
  by_cases h : p
  · rw [decide_eq_true h]; exact iteF (h2 h)
  · rw [decide_eq_false h]; exact iteT (h1 h)
theorem iteB {b : Bool} {A B : Prop} (h1 : b = true → A) (h2 : b = false → B) : if b = true then A else B := by
  cases b
  · exact iteF (h2 rfl)
  · exact iteT (h1 rfl)
/-! ### what int(..), len(..) read -/
section
variable {K : PySem.W.Frag} {H : Hp} {Q : VK} {p : Addr} {xs : List V}
theorem c_int1 {i : Int} (h : Q (.int i) H) : rInt1 [.int i] H Q := .inl ⟨i, rfl, h⟩
theorem c_int1b {k : Bool} (h : Q (.int (if k then 1 else 0)) H) : rInt1 [.bl k] H Q := .inr ⟨k, rfl, h⟩
theorem c_bool1 {i : Int} (h : Q (.bl (i != 0)) H) : rBool1 [.int i] H Q := .inl ⟨i, rfl, h⟩
theorem c_bool1b {k : Bool} (h : Q (.bl k) H) : rBool1 [.bl k] H Q := .inr ⟨k, rfl, h⟩
theorem c_lenL (e : H p = some (.lst xs)) (h : Q (.int xs.length) H) : rLen K [.ref p] H Q := ⟨p, xs, rfl, .inl (SqL.of e), h⟩
theorem c_lenT (e : H p = some (.tup xs)) (h : Q (.int xs.length) H) : rLen K [.ref p] H Q := ⟨p, xs, rfl, .inr (SqT.of e), h⟩
theorem c_lenQ (e : SqL K H p xs) (h : Q (.int xs.length) H) : rLen K [.ref p] H Q := ⟨p, xs, rfl, .inl e, h⟩
theorem c_listL (e : SqL K H p xs) (h : ∀ l H1, H l = none → Same H H1 → H1 l = some (.lst xs) → Q (.ref l) H1) : rListOf K [.ref p] H Q := ⟨p, xs, rfl, .inl e, new_obj h⟩
theorem c_listT (e : SqT K H p xs) (h : ∀ l H1, H l = none → Same H H1 → H1 l = some (.lst xs) → Q (.ref l) H1) : rListOf K [.ref p] H Q := ⟨p, xs, rfl, .inr e, new_obj h⟩
theorem c_tupL (e : SqL K H p xs) (h : ∀ l H1, H l = none → Same H H1 → H1 l = some (.tup xs) → Q (.ref l) H1) : rTupOf K [.ref p] H Q := ⟨p, xs, rfl, .inl ⟨e, new_obj h⟩⟩
theorem c_tupT (e : SqT K H p xs) (h : Q (.ref p) H) : rTupOf K [.ref p] H Q := ⟨p, xs, rfl, .inr ⟨e, h⟩⟩
theorem c_isN {x : V} (h : Q (.bl (decide (x = .non))) H) : rIsN x .non H Q := ⟨rfl, h⟩
theorem c_notN {x : V} (h : Q (.bl (!decide (x = .non))) H) : rNotN x .non H Q := ⟨rfl, h⟩
end
section
variable {K : PySem.W.Frag} {H : Hp} {Q : VK} {p : Addr} {xs : List V} {x : V}
theorem c_inT (e : H p = some (.tup xs)) (hx : flatV x = true) (ha : xs.all flatV = true) (h : Q (.bl (inV x xs)) H) : rIn K false x (.ref p) H Q := ⟨p, xs, rfl, .inr (SqT.of e), hx, ha, h⟩
theorem c_inL (e : H p = some (.lst xs)) (hx : flatV x = true) (ha : xs.all flatV = true) (h : Q (.bl (inV x xs)) H) : rIn K false x (.ref p) H Q := ⟨p, xs, rfl, .inl (SqL.of e), hx, ha, h⟩
theorem c_notInT (e : H p = some (.tup xs)) (hx : flatV x = true) (ha : xs.all flatV = true) (h : Q (.bl (!inV x xs)) H) : rIn K true x (.ref p) H Q := ⟨p, xs, rfl, .inr (SqT.of e), hx, ha, h⟩
theorem c_notInL (e : H p = some (.lst xs)) (hx : flatV x = true) (ha : xs.all flatV = true) (h : Q (.bl (!inV x xs)) H) : rIn K true x (.ref p) H Q := ⟨p, xs, rfl, .inl (SqL.of e), hx, ha, h⟩
end
/-! ### items by place -/
theorem atI_mem {α : Type} {xs : List α} {i : Int} (h0 : 0 ≤ i) (h1 : i < xs.length) : ∃ v, atI xs i = some v ∧ v ∈ xs := by
  obtain ⟨k, rfl⟩ : ∃ k : Nat, i = k := ⟨i.toNat, by omega⟩
  have hk : k < xs.length := by omega
  exact ⟨xs[k], atI_nat (List.getElem?_eq_getElem hk), List.getElem_mem hk⟩
theorem atI_map {α β : Type} {f : α → β} {xs : List α} {i : Int} (h0 : 0 ≤ i) (h1 : i < xs.length) : ∃ n, atI (xs.map f) i = some (f n) ∧ n ∈ xs ∧ atI xs i = some n := by
  obtain ⟨k, rfl⟩ : ∃ k : Nat, i = k := ⟨i.toNat, by omega⟩
  have hk : k < xs.length := by omega
  exact ⟨xs[k], atI_nat (by rw [List.getElem?_map, List.getElem?_eq_getElem hk]; rfl), List.getElem_mem hk, atI_nat (List.getElem?_eq_getElem hk)⟩
theorem ixN_in {n : Nat} {i : Int} (h0 : 0 ≤ i) (h1 : i < n) : ixN n i = some i.toNat := by
  unfold ixN
  rw [if_pos h0, if_pos h1]

theorem iteY {b : Bool} {A B : Prop} (e : b = true) (h : A) : if b = true then A else B := by rw [e]; exact iteT h
theorem iteN {b : Bool} {A B : Prop} (e : b = false) (h : B) : if b = true then A else B := by rw [e]; exact iteF h
/-! ### comprehensions: over range(..), over a list, over a tuple -/
section
variable {K : PySem.W.Frag} {σ : L2.St} {H : Hp} {Q : VK} {te tl : TE} {tt : TT} {ts : TA} {i : Nat} {lo : Int} {n : Nat} {xs : List V} {a : Addr}
/-- the list at D holds acc, behind k turns -/
def LcP (Pv : Nat → List V → Hp → Prop) (D : Addr) (k : Nat) (H : Hp) : Prop := ∃ acc, H D = some (.lst acc) ∧ acc.length ≤ k ∧ Pv k acc H
theorem c_acc {Pv : Nat → List V → Hp → Prop} {D : Addr} {k : Nat} {acc : List V} {y : V} {H4 : Hp} (e : H4 D = some (.lst acc)) (hk : acc.length ≤ k) (hl : k ≤ 100000) (h : ∀ H5, (∀ b, b ≠ D → H5 b = H4 b) → H5 D = some (.lst (acc ++ [y])) → Pv (k + 1) (acc ++ [y]) H5) :
    ∃ acc, H4 D = some (.lst acc) ∧ acc.length < sizeLine ∧ LcP Pv D (k + 1) (upd H4 D (.lst (acc ++ [y]))) :=
  ⟨acc, e, Nat.lt_of_le_of_lt (Nat.le_trans hk hl) (by decide), acc ++ [y], upd_same, by simp; omega, h _ (fun b hb => upd_ne hb) upd_same⟩
theorem c_skip {Pv : Nat → List V → Hp → Prop} {D : Addr} {k : Nat} {acc : List V} {H4 : Hp} (e : H4 D = some (.lst acc)) (hk : acc.length ≤ k) (h : Pv (k + 1) acc H4) : LcP Pv D (k + 1) H4 := ⟨acc, e, Nat.le_succ_of_le hk, h⟩
/-- one turn -/
def LcTurn (Pv : Nat → List V → Hp → Prop) (tt : TT) (te : TE) (D : Addr) (k : Nat) (σ : L2.St) (H : Hp) : Prop :=
  tt σ H fun b H3 => if b = true then te σ H3 fun y H4 => ∃ acc, H4 D = some (.lst acc) ∧ acc.length < sizeLine ∧ LcP Pv D (k + 1) (upd H4 D (.lst (acc ++ [y]))) else LcP Pv D (k + 1) H3
theorem c_turn1 {Pv : Nat → List V → Hp → Prop} {D : Addr} {k : Nat} (h : te σ H fun y H4 => ∃ acc, H4 D = some (.lst acc) ∧ acc.length < sizeLine ∧ LcP Pv D (k + 1) (upd H4 D (.lst (acc ++ [y])))) : LcTurn Pv tYes te D k σ H := by
  show (if true = true then te σ H (fun y H4 => ∃ acc, H4 D = some (.lst acc) ∧ acc.length < sizeLine ∧ LcP Pv D (k + 1) (upd H4 D (.lst (acc ++ [y])))) else LcP Pv D (k + 1) H)
  exact iteT h
theorem c_turn {Pv : Nat → List V → Hp → Prop} {D : Addr} {k : Nat} (h : tt σ H fun b H3 => if b = true then te σ H3 fun y H4 => ∃ acc, H4 D = some (.lst acc) ∧ acc.length < sizeLine ∧ LcP Pv D (k + 1) (upd H4 D (.lst (acc ++ [y]))) else LcP Pv D (k + 1) H3) : LcTurn Pv tt te D k σ H := h
/-- what a comprehension asks -/
structure LcAsk (xs : List V) (tt : TT) (te : TE) (i : Nat) (σ : L2.St) (stay : Hp → Prop) (D : Addr) (H2 : Hp) (Q : VK) (Pv : Nat → List V → Hp → Prop) : Prop where
  start : Pv 0 [] H2
  stays : ∀ k acc H, Pv k acc H → stay H
  turn : ∀ k x acc H, xs[k]? = some x → acc.length ≤ k → H D = some (.lst acc) → Pv k acc H → LcTurn Pv tt te D k ((wipe σ [i]).set i (some x)) H
  done : ∀ acc H, acc.length ≤ xs.length → H D = some (.lst acc) → Pv xs.length acc H → Q (.ref D) H
/-- the rest of a comprehension, its iterator made -/
def LcGo (J : It) (g : TG) (tt : TT) (te : TE) (vs : List Nat) (σ : L2.St) (Q : VK) (H1 : Hp) : Prop := ∀ D, H1 D = none → ∃ W : Nat → Nat → Hp → Prop, (∃ m, W 0 m (upd H1 D (.lst []))) ∧ ∀ i m H, W i m H →
  (J.stop i H ∧ Q (.ref D) H) ∨ (J.go i H ∧ ∃ Nx : Hp → Prop, (∀ H', Nx H' → ∃ m', m' < m ∧ W (i + 1) m' H') ∧ ∀ x H', J.yld i H x H' → g x (wipe σ vs) H' fun σ2 H2 => wipe σ2 vs = wipe σ vs ∧ tt σ2 H2 fun b H3 =>
    if b = true then te σ2 H3 fun y H4 => ∃ acc, H4 D = some (.lst acc) ∧ acc.length < sizeLine ∧ Nx (upd H4 D (.lst (acc ++ [y]))) else Nx H3)
theorem c_lc {wi : TI} {g : TG} {vs : List Nat} (h : wi σ H fun J H1 => LcGo J g tt te vs σ Q H1) : tLc wi g tt te vs σ H Q := h
theorem c_iR1 {R : It → Hp → Prop} (h : ts σ H fun vs H1 => ∃ j : Int, vs = [.int j] ∧ -(2 ^ 62) ≤ j ∧ j < 2 ^ 62 ∧ R (Itr 0 j.toNat) H1) : iRng1 ts σ H R := h
theorem c_iR2 {R : It → Hp → Prop} (h : ts σ H fun vs H1 => ∃ i j : Int, vs = [.int i, .int j] ∧ (-(2 ^ 62) ≤ i ∧ i < 2 ^ 62 ∧ -(2 ^ 62) ≤ j ∧ j < 2 ^ 62) ∧ R (Itr i (j - i).toNat) H1) : iRng2 ts σ H R := h
theorem c_iL {R : It → Hp → Prop} (h : tl σ H fun x H1 => ∃ a, x = .ref a ∧ (∃ xs, SqL K H1 a xs) ∧ R (Itl K a) H1) : iList K tl σ H R := h
theorem c_iT {R : It → Hp → Prop} (h : tl σ H fun x H1 => ∃ a, x = .ref a ∧ (∃ xs, SqT K H1 a xs) ∧ R (Itt K a) H1) : iTup K tl σ H R := h
/-- the ints lo, lo + 1, .. -/
def intsV (lo : Int) (n : Nat) : List V := (List.range n).map fun (k : Nat) => V.int (lo + (k : Int))
theorem intsV_len (lo : Int) (n : Nat) : (intsV lo n).length = n := by unfold intsV; simp
theorem intsV_get {lo : Int} {n k : Nat} {x : V} (h : (intsV lo n)[k]? = some x) : k < n ∧ x = .int (lo + k) := by
  unfold intsV at h
  rw [List.getElem?_map] at h
  have hk : k < n := by
    by_cases q : k < n
    · exact q
    · rw [List.getElem?_eq_none (by simp; omega)] at h
      cases h
  rw [List.getElem?_range hk] at h
  exact ⟨hk, (Option.some.inj h).symm⟩
theorem intsV_at {lo : Int} {n k : Nat} (h : k < n) : (intsV lo n)[k]? = some (.int (lo + k)) := by
  unfold intsV
  rw [List.getElem?_map, List.getElem?_range h]
  rfl
theorem lcgo_r (h : ∀ D H2, H D = none → Same H H2 → H2 D = some (.lst []) → ∃ Pv, LcAsk (intsV lo n) tt te i σ (fun _ => True) D H2 Q Pv) : LcGo (Itr lo n) (gName i) tt te [i] σ Q H := by
  intro D hD
  obtain ⟨Pv, A⟩ := h D _ hD (same_new hD) upd_same
  have len := intsV_len lo n
  refine lc_range (lo := lo) (n := n) (LcP Pv D) ⟨[], upd_same, Nat.le_refl _, A.start⟩ (fun k H hk p => ?_) (fun H p => ?_)
  · obtain ⟨acc, e, hl, p⟩ := p
    exact ⟨by simp [wipe], A.turn k (.int (lo + k)) acc H (intsV_at hk) hl e p⟩
  · obtain ⟨acc, e, hl, p⟩ := p
    rw [← len] at hl p
    exact A.done acc H hl e p
theorem lcgo_l (h : ∀ D H2, H D = none → Same H H2 → H2 D = some (.lst []) → ∃ Pv, LcAsk xs tt te i σ (fun H => SqL K H a xs) D H2 Q Pv) : LcGo (Itl K a) (gName i) tt te [i] σ Q H := by
  intro D hD
  obtain ⟨Pv, A⟩ := h D _ hD (same_new hD) upd_same
  refine lc_list (K := K) (a := a) (xs := xs) (LcP Pv D) ⟨[], upd_same, Nat.le_refl _, A.start⟩ (fun k H _ ⟨acc, _, _, p⟩ => A.stays k acc H p) (fun k x H hk p => ?_) (fun H p => ?_)
  · obtain ⟨acc, e, hl, p⟩ := p
    exact ⟨by simp [wipe], A.turn k x acc H hk hl e p⟩
  · obtain ⟨acc, e, hl, p⟩ := p
    exact A.done acc H hl e p
theorem lcgo_t (h : ∀ D H2, H D = none → Same H H2 → H2 D = some (.lst []) → ∃ Pv, LcAsk xs tt te i σ (fun H => SqT K H a xs) D H2 Q Pv) : LcGo (Itt K a) (gName i) tt te [i] σ Q H := by
  intro D hD
  obtain ⟨Pv, A⟩ := h D _ hD (same_new hD) upd_same
  refine lc_tup (K := K) (a := a) (xs := xs) (LcP Pv D) ⟨[], upd_same, Nat.le_refl _, A.start⟩ (fun k H _ ⟨acc, _, _, p⟩ => A.stays k acc H p) (fun k x H hk p => ?_) (fun H p => ?_)
  · obtain ⟨acc, e, hl, p⟩ := p
    exact ⟨by simp [wipe], A.turn k x acc H hk hl e p⟩
  · obtain ⟨acc, e, hl, p⟩ := p
    exact A.done acc H hl e p
theorem c_lcR1 {j : Int} (j0 : -100000 ≤ j) (j1 : j ≤ 100000) (h : ∀ D H2, H D = none → Same H H2 → H2 D = some (.lst []) → ∃ Pv, LcAsk (intsV 0 j.toNat) tt te i σ (fun _ => True) D H2 Q Pv) :
    ∃ j' : Int, [V.int j] = [.int j'] ∧ -(2 ^ 62) ≤ j' ∧ j' < 2 ^ 62 ∧ LcGo (Itr 0 j'.toNat) (gName i) tt te [i] σ Q H := ⟨j, rfl, by omega, by omega, lcgo_r h⟩
theorem c_lcL (e : SqL K H a xs) (h : ∀ D H2, H D = none → Same H H2 → H2 D = some (.lst []) → ∃ Pv, LcAsk xs tt te i σ (fun H => SqL K H a xs) D H2 Q Pv) :
    ∃ a', V.ref a = .ref a' ∧ (∃ xs, SqL K H a' xs) ∧ LcGo (Itl K a') (gName i) tt te [i] σ Q H := ⟨a, rfl, ⟨xs, e⟩, lcgo_l h⟩
theorem c_lcT (e : SqT K H a xs) (h : ∀ D H2, H D = none → Same H H2 → H2 D = some (.lst []) → ∃ Pv, LcAsk xs tt te i σ (fun H => SqT K H a xs) D H2 Q Pv) :
    ∃ a', V.ref a = .ref a' ∧ (∃ xs, SqT K H a' xs) ∧ LcGo (Itt K a') (gName i) tt te [i] σ Q H := ⟨a, rfl, ⟨xs, e⟩, lcgo_t h⟩

/-! ### for loops -/
def ForGo (J : It) (g : TG) (tb : TS) (D : Ends) (σ : L2.St) (H1 : Hp) : Prop := ∃ W : Nat → Nat → L2.St → Hp → Prop, (∃ m, W 0 m σ H1) ∧ ∀ i m σ H, W i m σ H →
  (J.stop i H ∧ D.nx σ H) ∨ (J.go i H ∧ ∃ N : L2.St → Hp → Prop, (∀ σ' H', N σ' H' → ∃ m', m' < m ∧ W (i + 1) m' σ' H') ∧ ∀ x H', J.yld i H x H' → g x σ H' fun σ2 H2 => tb { D with nx := N, ct := N, bk := D.nx } σ2 H2)
theorem c_for {wi : TI} {g : TG} {tb : TS} {D : Ends} (h : wi σ H fun J H1 => ForGo J g tb D σ H1) : tFor wi g tb D σ H := h
/-- what a loop over the items xs asks -/
structure ForAsk (xs : List V) (g : TG) (tb : TS) (D : Ends) (σ : L2.St) (stay : Hp → Prop) (H1 : Hp) (Pv : Nat → L2.St → Hp → Prop) : Prop where
  start : Pv 0 σ H1
  stays : ∀ k σ H, Pv k σ H → stay H
  turn : ∀ k x σ H, xs[k]? = some x → Pv k σ H → g x σ H fun σ2 H2 => tb { D with nx := Pv (k + 1), ct := Pv (k + 1), bk := D.nx } σ2 H2
  done : ∀ σ H, Pv xs.length σ H → D.nx σ H
theorem c_forR1 {g : TG} {tb : TS} {D : Ends} {j : Int} (j0 : -100000 ≤ j) (j1 : j ≤ 100000) (h : ∃ Pv, ForAsk (intsV 0 j.toNat) g tb D σ (fun _ => True) H Pv) :
    ∃ j' : Int, [V.int j] = [.int j'] ∧ -(2 ^ 62) ≤ j' ∧ j' < 2 ^ 62 ∧ ForGo (Itr 0 j'.toNat) g tb D σ H := by
  obtain ⟨Pv, A⟩ := h
  refine ⟨j, rfl, by omega, by omega, for_range (lo := 0) (n := j.toNat) Pv A.start (fun k σ H hk p => A.turn k _ σ H (intsV_at hk) p) (fun σ H p => A.done σ H ?_)⟩
  rw [intsV_len]; exact p
theorem c_forL {g : TG} {tb : TS} {D : Ends} (e : SqL K H a xs) (h : ∃ Pv, ForAsk xs g tb D σ (fun H => SqL K H a xs) H Pv) :
    ∃ a', V.ref a = .ref a' ∧ (∃ xs, SqL K H a' xs) ∧ ForGo (Itl K a') g tb D σ H := by
  obtain ⟨Pv, A⟩ := h
  exact ⟨a, rfl, ⟨xs, e⟩, for_list (K := K) (a := a) (xs := xs) Pv A.start (fun k σ H _ p => A.stays k σ H p) (fun k x σ H hk p => A.turn k x σ H hk p) A.done⟩
theorem c_forT {g : TG} {tb : TS} {D : Ends} (e : SqT K H a xs) (h : ∃ Pv, ForAsk xs g tb D σ (fun H => SqT K H a xs) H Pv) :
    ∃ a', V.ref a = .ref a' ∧ (∃ xs, SqT K H a' xs) ∧ ForGo (Itt K a') g tb D σ H := by
  obtain ⟨Pv, A⟩ := h
  exact ⟨a, rfl, ⟨xs, e⟩, for_tup (K := K) (a := a) (xs := xs) Pv A.start (fun k σ H _ p => A.stays k σ H p) (fun k x σ H hk p => A.turn k x σ H hk p) A.done⟩
end

theorem c_cut {D : Ends} {σ : L2.St} {H : Hp} {t u : TS} (M : L2.St → Hp → Prop) (h : t { D with nx := M } σ H) (k : ∀ σ' H', M σ' H' → u D σ' H') : Evl.tCut t u D σ H := ⟨M, h, k⟩
/-! ### and, or as values -/
section
variable {K : PySem.W.Frag} {σ : L2.St} {H : Hp} {Q : VK} {ta tb : TE} {x y : V} {B : Bool → Hp → Prop}
def AndV (tb : TE) (σ : L2.St) (Q : VK) (x : V) (H : Hp) : Prop := ∃ c, x = .bl c ∧ if c = true then tb σ H Q else Q (.bl false) H
def OrV (tb : TE) (σ : L2.St) (Q : VK) (x : V) (H : Hp) : Prop := ∃ c, x = .bl c ∧ if c = true then Q (.bl true) H else tb σ H Q
def NotV (Q : VK) (x : V) (H : Hp) : Prop := ∃ c, x = .bl c ∧ Q (.bl (!c)) H
theorem c_andV (h : ta σ H fun x H1 => AndV tb σ Q x H1) : tAndV ta tb σ H Q := h
theorem c_orV (h : ta σ H fun x H1 => OrV tb σ Q x H1) : tOrV ta tb σ H Q := h
theorem c_notV (h : ta σ H fun x H1 => NotV Q x H1) : tNotV ta σ H Q := h
theorem c_andB {b : Bool} (h1 : b = true → tb σ H Q) (h2 : b = false → Q (.bl false) H) : AndV tb σ Q (.bl b) H := ⟨b, rfl, iteB h1 h2⟩
theorem c_orB {b : Bool} (h1 : b = true → Q (.bl true) H) (h2 : b = false → tb σ H Q) : OrV tb σ Q (.bl b) H := ⟨b, rfl, iteB h1 h2⟩
theorem c_notB {b : Bool} (h : Q (.bl (!b)) H) : NotV Q (.bl b) H := ⟨b, rfl, h⟩
def TruAt (K : PySem.W.Frag) (B : Bool → Hp → Prop) (x : V) (H : Hp) : Prop := ∃ k, TruV K x H k ∧ B k H
theorem c_tru (h : ta σ H fun x H1 => TruAt K B x H1) : tTruK K ta σ H B := h
theorem c_truL {p : Addr} {xs : List V} (e : H p = some (.lst xs)) (h : B (!xs.isEmpty) H) : TruAt K B (.ref p) H := ⟨_, .inl ⟨xs, SqL.of e, rfl⟩, h⟩
theorem c_truT {p : Addr} {xs : List V} (e : H p = some (.tup xs)) (h : B (!xs.isEmpty) H) : TruAt K B (.ref p) H := ⟨_, .inr (.inl ⟨xs, SqT.of e, rfl⟩), h⟩
def OrT (K : PySem.W.Frag) (tb : TE) (σ : L2.St) (Q : VK) (x : V) (H : Hp) : Prop := ∃ k, TruV K x H k ∧ if k = true then Q x H else tb σ H Q
theorem c_orT (h : ta σ H fun x H1 => OrT K tb σ Q x H1) : tOrT K ta tb σ H Q := h
theorem c_orTL {p : Addr} {xs : List V} (e : H p = some (.lst xs)) (h1 : xs ≠ [] → Q (.ref p) H) (h2 : xs = [] → tb σ H Q) : OrT K tb σ Q (.ref p) H := by
  refine ⟨_, .inl ⟨xs, SqL.of e, rfl⟩, ?_⟩
  cases xs with
  | nil => exact iteF (h2 rfl)
  | cons x r => exact iteT (h1 (by intro q; cases q))
theorem c_orT1 {p : Addr} {xs : List V} {d : V} (e : H p = some (.lst xs)) (h : ∀ q H1 ys, Same H H1 → H1 q = some (.lst ys) → (ys = xs ∧ xs ≠ [] ∨ xs = [] ∧ ys = [d]) → Q (.ref q) H1) : OrT K (tLst (tCons (tC d) tNil)) σ Q (.ref p) H := by
  refine c_orTL e (fun hn => h p H xs (Same.refl _) e (.inl ⟨rfl, hn⟩)) (fun hn => ?_)
  exact ⟨by show 1 ≤ sizeLine; decide, fun q hq => h q _ [d] (same_new hq) upd_same (.inr ⟨hn, rfl⟩)⟩
/-! ### C(..) -/
def MakeAt (C : Addr) (sp : Sp) (E : XK) (Q : VK) (vs : List V) (H1 : Hp) : Prop := ∀ x dx, H1 x = none → H1 dx = none → dx ≠ x → sp (V.ref x :: vs) (upd (upd H1 dx (.own x)) x (.ins C dx [])) (fun v H2 => v = .non ∧ Q (.ref x) H2) E
theorem c_make {C : Addr} {sp : Sp} {E : XK} {ts : TA} (h : ts σ H fun vs H1 => MakeAt C sp E Q vs H1) : StX.tMakeR C sp E ts σ H Q := h
theorem c_mk {C : Addr} {sp : Sp} {E : XK} {vs : List V} (h : ∀ x dx H2, H x = none → Same H H2 → H2 x = some (.ins C dx []) → sp (.ref x :: vs) H2 (fun v H3 => v = .non ∧ Q (.ref x) H3) E) : MakeAt C sp E Q vs H := fun x dx hx hdx ne =>
  h x dx _ hx (fun b o e => by rw [upd_ne (ne_of_none e hx), upd_ne (ne_of_none e hdx)]; exact e) upd_same
/-! ### isinstance -/
theorem c_isi {c : V} {t u : Value} {b : Bool} (hc : ClsV c u) (ht : TyX K H x t) (e : PySem.W.kitOne K t u = some b) (h : Q (.bl b) H) : rIsi K [x, c] H Q := ⟨x, c, t, u, b, rfl, hc, ht, e, h⟩
theorem c_eqD {d e : PyData} (hd : Dp K H x d) (he : Dp K H y e) (sd : SeqAt.shaped d = true) (se : SeqAt.shaped e = true) (h : Q (.bl (PyData.eqv d e)) H) : rEqD K x y H Q := ⟨d, e, hd, he, sd, se, h⟩
theorem c_neD {d e : PyData} (hd : Dp K H x d) (he : Dp K H y e) (sd : SeqAt.shaped d = true) (se : SeqAt.shaped e = true) (h : Q (.bl (!PyData.eqv d e)) H) : rNeD K x y H Q := ⟨d, e, hd, he, sd, se, h⟩
end
/-! ### data: tuples and lists of ints -/
theorem dpAll_ints {K : PySem.W.Frag} {H : Hp} : ∀ ns : List Int, DpAll K H (ns.map V.int) (ns.map PyData.int)
  | [] => .nil
  | n :: r => .cons (.int n) (dpAll_ints r)
theorem dp_tupI {K : PySem.W.Frag} {H : Hp} {p : Addr} {ns : List Int} (e : H p = some (.tup (ns.map V.int))) : Dp K H (.ref p) (.tuple (ns.map PyData.int)) := .tup (SqT.of e) (dpAll_ints ns)
theorem dp_lstI {K : PySem.W.Frag} {H : Hp} {p : Addr} {ns : List Int} (e : H p = some (.lst (ns.map V.int))) : Dp K H (.ref p) (.list (ns.map PyData.int)) := .lst (SqL.of e) (dpAll_ints ns)
theorem canLay_ints : ∀ ns : List Int, PyData.canLayAll0 (ns.map PyData.int) = true
  | [] => by simp [PyData.canLayAll0]
  | n :: r => by simp [PyData.canLayAll0, PyData.canLay0, canLay_ints r]
theorem depth_ints : ∀ ns : List Int, PyData.depthAll (ns.map PyData.int) = 0
  | [] => by simp [PyData.depthAll]
  | n :: r => by simp [PyData.depthAll, PyData.depth, depth_ints r]
theorem shaped_tupI (ns : List Int) : SeqAt.shaped (.tuple (ns.map PyData.int)) = true := by simp [SeqAt.shaped, PyData.canLay0, canLay_ints, PyData.depth, depth_ints]
theorem shaped_lstI (ns : List Int) : SeqAt.shaped (.list (ns.map PyData.int)) = true := by simp [SeqAt.shaped, PyData.canLay0, canLay_ints, PyData.depth, depth_ints]
theorem eqvAll_ints : ∀ ns ms : List Int, PyData.eqvAll (ns.map PyData.int) (ms.map PyData.int) = decide (ns = ms)
  | [], [] => by simp [PyData.eqvAll]
  | [], m :: s => by simp [PyData.eqvAll]
  | n :: r, [] => by simp [PyData.eqvAll]
  | n :: r, m :: s => by
    rw [List.map_cons, List.map_cons, PyData.eqvAll, eqvAll_ints r s]
    by_cases h : n = m <;> simp [PyData.eqv, h]
theorem eqv_tupI (ns ms : List Int) : PyData.eqv (.tuple (ns.map PyData.int)) (.tuple (ms.map PyData.int)) = decide (ns = ms) := by rw [PyData.eqv, eqvAll_ints]
theorem eqv_lstI (ns ms : List Int) : PyData.eqv (.list (ns.map PyData.int)) (.list (ms.map PyData.int)) = decide (ns = ms) := by rw [PyData.eqv, eqvAll_ints]

/-! ### methods of lists -/
section
variable {K : PySem.W.Frag} {σ : L2.St} {H : Hp} {Q : VK} {to : TE} {ts : TA} {T : String} {r : V → List V → Hp → VK → Prop} {p : Addr} {xs ys : List V} {y : V}
def BmAt (K : PySem.W.Frag) (T : String) (r : V → List V → Hp → VK → Prop) (ts : TA) (σ : L2.St) (Q : VK) (x : V) (H : Hp) : Prop := tyV K T x H ∧ ts σ H fun xs H2 => r x xs H2 Q
theorem c_bm (h : to σ H fun x H1 => BmAt K T r ts σ Q x H1) : tBM K T r to ts σ H Q := h
theorem c_bmL (e : H p = some (.lst xs)) (h : ts σ H fun ys H2 => r (.ref p) ys H2 Q) : BmAt K "list" r ts σ Q (.ref p) H := ⟨.inl ⟨rfl, _, SqL.of e⟩, h⟩
theorem c_append (e : H p = some (.lst xs)) (hl : xs.length ≤ 100000) (h : ∀ H1, (∀ b, b ≠ p → H1 b = H b) → H1 p = some (.lst (xs ++ [y])) → Q .non H1) : rAppend (.ref p) [y] H Q :=
  ⟨p, xs, y, rfl, rfl, e, Nat.lt_of_le_of_lt hl (by decide), h _ (fun b hb => upd_ne hb) upd_same⟩
end
end Sw

set_option Elab.async false
set_option linter.all false
set_option maxRecDepth 100000
set_option maxHeartbeats 4000000

namespace K38
open PySem L2 Sw
local macro_rules | `(tactic| walk_at "go") => `(tactic| repeat (first
  | with_reducible refine c_seq ?_
  | with_reducible refine c_asgv ?_
  | with_reducible refine c_asg ?_
  | with_reducible refine c_op ?_
  | ((with_reducible refine' c_var ?h1 ?_); (case h1 => exact rfl))
  | with_reducible refine c_c ?_
  | with_reducible refine c_I0 ?_
  | with_reducible refine c_un ?_
  | with_reducible refine c_rU ?_
  | with_reducible refine c_if ?_
  | with_reducible refine c_ret ?_
  | with_reducible refine c_retN ?_
  | with_reducible refine c_drop ?_
  | with_reducible refine c_next ?_
  | with_reducible refine c_test ?_
  | with_reducible refine c_B ?_
  | with_reducible refine c_bl ?_
  | with_reducible refine c_and ?_
  | with_reducible refine c_or ?_
  | with_reducible refine c_not ?_
  | with_reducible refine c_ifE ?_
  | with_reducible refine c_CB ?_
  | with_reducible refine c_CR ?_
  | with_reducible refine c_cons ?_
  | with_reducible refine c_nil ?_
  | with_reducible refine c_lst ?_
  | with_reducible refine c_tup ?_
  | with_reducible refine c_sub ?_
  | with_reducible refine c_fld ?_
  | with_reducible refine c_sfld ?_
  | with_reducible refine c_name ?_
  | with_reducible refine c_bm ?_
  | with_reducible refine c_make ?_
  | with_reducible refine c_andV ?_
  | with_reducible refine c_orV ?_
  | with_reducible refine c_notV ?_
  | with_reducible refine c_notB ?_
  | with_reducible refine c_tru ?_
  | with_reducible refine c_orT ?_
  | ((with_reducible refine c_eq ?h1 ?_); (case h1 => exact rfl))
  | ((with_reducible refine c_ne ?h1 ?_); (case h1 => exact rfl))
  | with_reducible refine c_lc ?_
  | with_reducible refine c_iR1 ?_
  | with_reducible refine c_iR2 ?_
  | with_reducible refine c_iL ?_
  | with_reducible refine c_iT ?_
  | with_reducible refine c_for ?_
  | with_reducible refine c_turn1 ?_
  | with_reducible refine c_turn ?_
  | ((with_reducible refine' c_ixL ?h1 ?h2 ?_); (case h1 => assumption); (case h2 => exact rfl))
  | ((with_reducible refine' c_ixT ?h1 ?h2 ?_); (case h1 => assumption); (case h2 => exact rfl))
  | ((with_reducible refine' c_I ?h1 ?_); (case h1 => first | assumption | decide | exact ⟨by decide, by decide⟩ | exact ⟨by decide, by decide, by decide⟩ | exact .inr ⟨by decide, by decide⟩ | exact .inl ⟨by decide, by decide⟩))
  | with_reducible refine c_int1 ?_
  | with_reducible refine c_int1b ?_
  | with_reducible refine c_bool1 ?_
  | with_reducible refine c_bool1b ?_
  | with_reducible refine c_isN ?_
  | with_reducible refine c_notN ?_
  | ((with_reducible refine' c_lenL ?h1 ?_); (case h1 => assumption))
  | ((with_reducible refine' c_lenT ?h1 ?_); (case h1 => assumption))))

def top (i : Nat) : Stmt := PySem.Challenge.pw_shownwrites_k38_writes_are_values.main.body.getD i (.Pass ⟨0, 0, 0, 0⟩)
abbrev s_Write_init : Stmt := inClass (top 1) 0
abbrev N_Write_init : List Str := ["self", "kind"]
theorem sc_Write_init : FnScope N_Write_init ["self", "kind"] (defScope s_Write_init) := ⟨rfl, rfl, rfl, by decide +kernel, rfl, by decide +kernel, by decide +kernel⟩
abbrev s_Drop_init : Stmt := inClass (top 2) 0
abbrev N_Drop_init : List Str := ["self", "row"]
theorem sc_Drop_init : FnScope N_Drop_init ["self", "row"] (defScope s_Drop_init) := ⟨rfl, rfl, rfl, by decide +kernel, rfl, by decide +kernel, by decide +kernel⟩
abbrev s_Drop_eq : Stmt := inClass (top 2) 1
abbrev N_Drop_eq : List Str := ["self", "other"]
theorem sc_Drop_eq : FnScope N_Drop_eq ["self", "other"] (defScope s_Drop_eq) := ⟨rfl, rfl, rfl, by decide +kernel, rfl, by decide +kernel, by decide +kernel⟩
abbrev s_Add_init : Stmt := inClass (top 3) 0
abbrev N_Add_init : List Str := ["self", "row"]
theorem sc_Add_init : FnScope N_Add_init ["self", "row"] (defScope s_Add_init) := ⟨rfl, rfl, rfl, by decide +kernel, rfl, by decide +kernel, by decide +kernel⟩
abbrev s_Add_eq : Stmt := inClass (top 3) 1
abbrev N_Add_eq : List Str := ["self", "other"]
theorem sc_Add_eq : FnScope N_Add_eq ["self", "other"] (defScope s_Add_eq) := ⟨rfl, rfl, rfl, by decide +kernel, rfl, by decide +kernel, by decide +kernel⟩
abbrev s_Change_init : Stmt := inClass (top 4) 0
abbrev N_Change_init : List Str := ["self", "row", "name", "value"]
theorem sc_Change_init : FnScope N_Change_init ["self", "row", "name", "value"] (defScope s_Change_init) := ⟨rfl, rfl, rfl, by decide +kernel, rfl, by decide +kernel, by decide +kernel⟩
abbrev s_Change_eq : Stmt := inClass (top 4) 1
abbrev N_Change_eq : List Str := ["self", "other"]
theorem sc_Change_eq : FnScope N_Change_eq ["self", "other"] (defScope s_Change_eq) := ⟨rfl, rfl, rfl, by decide +kernel, rfl, by decide +kernel, by decide +kernel⟩
abbrev s_Total_init : Stmt := inClass (top 5) 0
abbrev N_Total_init : List Str := ["self", "group", "name", "value"]
theorem sc_Total_init : FnScope N_Total_init ["self", "group", "name", "value"] (defScope s_Total_init) := ⟨rfl, rfl, rfl, by decide +kernel, rfl, by decide +kernel, by decide +kernel⟩
abbrev s_Total_eq : Stmt := inClass (top 5) 1
abbrev N_Total_eq : List Str := ["self", "other"]
theorem sc_Total_eq : FnScope N_Total_eq ["self", "other"] (defScope s_Total_eq) := ⟨rfl, rfl, rfl, by decide +kernel, rfl, by decide +kernel, by decide +kernel⟩
abbrev s_Clear_init : Stmt := inClass (top 6) 0
abbrev N_Clear_init : List Str := ["self", "group"]
theorem sc_Clear_init : FnScope N_Clear_init ["self", "group"] (defScope s_Clear_init) := ⟨rfl, rfl, rfl, by decide +kernel, rfl, by decide +kernel, by decide +kernel⟩
abbrev s_Clear_eq : Stmt := inClass (top 6) 1
abbrev N_Clear_eq : List Str := ["self", "other"]
theorem sc_Clear_eq : FnScope N_Clear_eq ["self", "other"] (defScope s_Clear_eq) := ⟨rfl, rfl, rfl, by decide +kernel, rfl, by decide +kernel, by decide +kernel⟩
abbrev s_draw : Stmt := top 8
abbrev N_draw : List Str := ["_law_state", "_law_many", "_law_spot", "_law_at", "_law_cell", "_law_mixed"]
theorem sc_draw : FnScope N_draw ["_law_state", "_law_many"] (defScope s_draw) := ⟨rfl, rfl, rfl, by decide +kernel, rfl, by decide +kernel, by decide +kernel⟩
abbrev s_told : Stmt := top 9
abbrev N_told : List Str := ["_law_state", "_law_kind", "_law_size", "_law_row", "_law_name", "_law_value", "_law_k"]
theorem sc_told : FnScope N_told ["_law_state"] (defScope s_told) := ⟨rfl, rfl, rfl, by decide +kernel, rfl, by decide +kernel, by decide +kernel⟩
abbrev s_made : Stmt := top 10
abbrev N_made : List Str := ["_law_told_here", "_law_given"]
theorem sc_made : FnScope N_made ["_law_told_here", "_law_given"] (defScope s_made) := ⟨rfl, rfl, rfl, by decide +kernel, rfl, by decide +kernel, by decide +kernel⟩
abbrev s_arguments : Stmt := top 11
abbrev N_arguments : List Str := ["_law_write"]
theorem sc_arguments : FnScope N_arguments ["_law_write"] (defScope s_arguments) := ⟨rfl, rfl, rfl, by decide +kernel, rfl, by decide +kernel, by decide +kernel⟩
abbrev s_law : Stmt := top 12
abbrev N_law : List Str := ["_law_script", "_law_state", "_law_specs", "_law_made_here", "_law_turn", "_law_told_here", "_law_write", "_law_copied", "_law_k", "_law_found", "_law_j"]
theorem sc_law : FnScope N_law ["_law_script"] (defScope s_law) := ⟨rfl, rfl, rfl, by decide +kernel, rfl, by decide +kernel, by decide +kernel⟩
structure Ad where
  Write_init : Addr
  Drop_init : Addr
  Drop_eq : Addr
  Add_init : Addr
  Add_eq : Addr
  Change_init : Addr
  Change_eq : Addr
  Total_init : Addr
  Total_eq : Addr
  Clear_init : Addr
  Clear_eq : Addr
  draw : Addr
  told : Addr
  made : Addr
  arguments : Addr
  law : Addr
  CWrite : Addr
  CDrop : Addr
  CAdd : Addr
  CChange : Addr
  CTotal : Addr
  CClear : Addr
structure Txt (K : PySem.W.Frag) (mg : Str → Option Value) (a : Ad) : Prop where
  D_Write_init : DefAt K "__init__" "Write.__init__" s_Write_init ["self", "kind"] a.Write_init
  D_Drop_init : DefAt K "__init__" "Drop.__init__" s_Drop_init ["self", "row"] a.Drop_init
  D_Drop_eq : DefAt K "__eq__" "Drop.__eq__" s_Drop_eq ["self", "other"] a.Drop_eq
  D_Add_init : DefAt K "__init__" "Add.__init__" s_Add_init ["self", "row"] a.Add_init
  D_Add_eq : DefAt K "__eq__" "Add.__eq__" s_Add_eq ["self", "other"] a.Add_eq
  D_Change_init : DefAt K "__init__" "Change.__init__" s_Change_init ["self", "row", "name", "value"] a.Change_init
  D_Change_eq : DefAt K "__eq__" "Change.__eq__" s_Change_eq ["self", "other"] a.Change_eq
  D_Total_init : DefAt K "__init__" "Total.__init__" s_Total_init ["self", "group", "name", "value"] a.Total_init
  D_Total_eq : DefAt K "__eq__" "Total.__eq__" s_Total_eq ["self", "other"] a.Total_eq
  D_Clear_init : DefAt K "__init__" "Clear.__init__" s_Clear_init ["self", "group"] a.Clear_init
  D_Clear_eq : DefAt K "__eq__" "Clear.__eq__" s_Clear_eq ["self", "other"] a.Clear_eq
  D_draw : DefAt K "_law_draw" "_law_draw" s_draw ["_law_state", "_law_many"] a.draw
  g_draw : mg "_law_draw" = some (.ref a.draw)
  D_told : DefAt K "_law_told" "_law_told" s_told ["_law_state"] a.told
  g_told : mg "_law_told" = some (.ref a.told)
  D_made : DefAt K "_law_made" "_law_made" s_made ["_law_told_here", "_law_given"] a.made
  g_made : mg "_law_made" = some (.ref a.made)
  D_arguments : DefAt K "_law_arguments" "_law_arguments" s_arguments ["_law_write"] a.arguments
  g_arguments : mg "_law_arguments" = some (.ref a.arguments)
  D_law : DefAt K "law" "law" s_law ["_law_script"] a.law
  g_law : mg "law" = some (.ref a.law)
  g_Write : mg "Write" = some (.ref a.CWrite)
  cl_Write : Cls K a.CWrite
  ty_Write : ClsTy K a.CWrite
  c_Write_init : CFn K a.CWrite "__init__" a.Write_init
  g_Drop : mg "Drop" = some (.ref a.CDrop)
  cl_Drop : Cls K a.CDrop
  ty_Drop : ClsTy K a.CDrop
  M_Drop : Mk K a.CDrop a.Drop_init
  na_Drop_kind : NoAttr K a.CDrop "kind"
  na_Drop_row : NoAttr K a.CDrop "row"
  is_Drop_Write : PySem.W.kitOne K (.ref a.CDrop) (.ref a.CWrite) = some true
  is_Drop_Drop : PySem.W.kitOne K (.ref a.CDrop) (.ref a.CDrop) = some true
  is_Drop_Add : PySem.W.kitOne K (.ref a.CDrop) (.ref a.CAdd) = some false
  is_Drop_Change : PySem.W.kitOne K (.ref a.CDrop) (.ref a.CChange) = some false
  is_Drop_Total : PySem.W.kitOne K (.ref a.CDrop) (.ref a.CTotal) = some false
  is_Drop_Clear : PySem.W.kitOne K (.ref a.CDrop) (.ref a.CClear) = some false
  nf_Drop_Drop : PySem.W.notFirst K a.CDrop (.ref a.CDrop) = true
  nf_Drop_Add : PySem.W.notFirst K a.CDrop (.ref a.CAdd) = true
  nf_Drop_Change : PySem.W.notFirst K a.CDrop (.ref a.CChange) = true
  nf_Drop_Total : PySem.W.notFirst K a.CDrop (.ref a.CTotal) = true
  nf_Drop_Clear : PySem.W.notFirst K a.CDrop (.ref a.CClear) = true
  eq_Drop : PySem.W.findIn K (.ref a.CDrop) "__eq__" = some (some (.ref a.Drop_eq))
  fe_Drop : PySem.W.isFn K (.ref a.Drop_eq) = true
  g_Add : mg "Add" = some (.ref a.CAdd)
  cl_Add : Cls K a.CAdd
  ty_Add : ClsTy K a.CAdd
  M_Add : Mk K a.CAdd a.Add_init
  na_Add_kind : NoAttr K a.CAdd "kind"
  na_Add_row : NoAttr K a.CAdd "row"
  is_Add_Write : PySem.W.kitOne K (.ref a.CAdd) (.ref a.CWrite) = some true
  is_Add_Drop : PySem.W.kitOne K (.ref a.CAdd) (.ref a.CDrop) = some false
  is_Add_Add : PySem.W.kitOne K (.ref a.CAdd) (.ref a.CAdd) = some true
  is_Add_Change : PySem.W.kitOne K (.ref a.CAdd) (.ref a.CChange) = some false
  is_Add_Total : PySem.W.kitOne K (.ref a.CAdd) (.ref a.CTotal) = some false
  is_Add_Clear : PySem.W.kitOne K (.ref a.CAdd) (.ref a.CClear) = some false
  nf_Add_Drop : PySem.W.notFirst K a.CAdd (.ref a.CDrop) = true
  nf_Add_Add : PySem.W.notFirst K a.CAdd (.ref a.CAdd) = true
  nf_Add_Change : PySem.W.notFirst K a.CAdd (.ref a.CChange) = true
  nf_Add_Total : PySem.W.notFirst K a.CAdd (.ref a.CTotal) = true
  nf_Add_Clear : PySem.W.notFirst K a.CAdd (.ref a.CClear) = true
  eq_Add : PySem.W.findIn K (.ref a.CAdd) "__eq__" = some (some (.ref a.Add_eq))
  fe_Add : PySem.W.isFn K (.ref a.Add_eq) = true
  g_Change : mg "Change" = some (.ref a.CChange)
  cl_Change : Cls K a.CChange
  ty_Change : ClsTy K a.CChange
  M_Change : Mk K a.CChange a.Change_init
  na_Change_kind : NoAttr K a.CChange "kind"
  na_Change_row : NoAttr K a.CChange "row"
  na_Change_name : NoAttr K a.CChange "name"
  na_Change_value : NoAttr K a.CChange "value"
  is_Change_Write : PySem.W.kitOne K (.ref a.CChange) (.ref a.CWrite) = some true
  is_Change_Drop : PySem.W.kitOne K (.ref a.CChange) (.ref a.CDrop) = some false
  is_Change_Add : PySem.W.kitOne K (.ref a.CChange) (.ref a.CAdd) = some false
  is_Change_Change : PySem.W.kitOne K (.ref a.CChange) (.ref a.CChange) = some true
  is_Change_Total : PySem.W.kitOne K (.ref a.CChange) (.ref a.CTotal) = some false
  is_Change_Clear : PySem.W.kitOne K (.ref a.CChange) (.ref a.CClear) = some false
  nf_Change_Drop : PySem.W.notFirst K a.CChange (.ref a.CDrop) = true
  nf_Change_Add : PySem.W.notFirst K a.CChange (.ref a.CAdd) = true
  nf_Change_Change : PySem.W.notFirst K a.CChange (.ref a.CChange) = true
  nf_Change_Total : PySem.W.notFirst K a.CChange (.ref a.CTotal) = true
  nf_Change_Clear : PySem.W.notFirst K a.CChange (.ref a.CClear) = true
  eq_Change : PySem.W.findIn K (.ref a.CChange) "__eq__" = some (some (.ref a.Change_eq))
  fe_Change : PySem.W.isFn K (.ref a.Change_eq) = true
  g_Total : mg "Total" = some (.ref a.CTotal)
  cl_Total : Cls K a.CTotal
  ty_Total : ClsTy K a.CTotal
  M_Total : Mk K a.CTotal a.Total_init
  na_Total_kind : NoAttr K a.CTotal "kind"
  na_Total_group : NoAttr K a.CTotal "group"
  na_Total_name : NoAttr K a.CTotal "name"
  na_Total_value : NoAttr K a.CTotal "value"
  is_Total_Write : PySem.W.kitOne K (.ref a.CTotal) (.ref a.CWrite) = some true
  is_Total_Drop : PySem.W.kitOne K (.ref a.CTotal) (.ref a.CDrop) = some false
  is_Total_Add : PySem.W.kitOne K (.ref a.CTotal) (.ref a.CAdd) = some false
  is_Total_Change : PySem.W.kitOne K (.ref a.CTotal) (.ref a.CChange) = some false
  is_Total_Total : PySem.W.kitOne K (.ref a.CTotal) (.ref a.CTotal) = some true
  is_Total_Clear : PySem.W.kitOne K (.ref a.CTotal) (.ref a.CClear) = some false
  nf_Total_Drop : PySem.W.notFirst K a.CTotal (.ref a.CDrop) = true
  nf_Total_Add : PySem.W.notFirst K a.CTotal (.ref a.CAdd) = true
  nf_Total_Change : PySem.W.notFirst K a.CTotal (.ref a.CChange) = true
  nf_Total_Total : PySem.W.notFirst K a.CTotal (.ref a.CTotal) = true
  nf_Total_Clear : PySem.W.notFirst K a.CTotal (.ref a.CClear) = true
  eq_Total : PySem.W.findIn K (.ref a.CTotal) "__eq__" = some (some (.ref a.Total_eq))
  fe_Total : PySem.W.isFn K (.ref a.Total_eq) = true
  g_Clear : mg "Clear" = some (.ref a.CClear)
  cl_Clear : Cls K a.CClear
  ty_Clear : ClsTy K a.CClear
  M_Clear : Mk K a.CClear a.Clear_init
  na_Clear_kind : NoAttr K a.CClear "kind"
  na_Clear_group : NoAttr K a.CClear "group"
  is_Clear_Write : PySem.W.kitOne K (.ref a.CClear) (.ref a.CWrite) = some true
  is_Clear_Drop : PySem.W.kitOne K (.ref a.CClear) (.ref a.CDrop) = some false
  is_Clear_Add : PySem.W.kitOne K (.ref a.CClear) (.ref a.CAdd) = some false
  is_Clear_Change : PySem.W.kitOne K (.ref a.CClear) (.ref a.CChange) = some false
  is_Clear_Total : PySem.W.kitOne K (.ref a.CClear) (.ref a.CTotal) = some false
  is_Clear_Clear : PySem.W.kitOne K (.ref a.CClear) (.ref a.CClear) = some true
  nf_Clear_Drop : PySem.W.notFirst K a.CClear (.ref a.CDrop) = true
  nf_Clear_Add : PySem.W.notFirst K a.CClear (.ref a.CAdd) = true
  nf_Clear_Change : PySem.W.notFirst K a.CClear (.ref a.CChange) = true
  nf_Clear_Total : PySem.W.notFirst K a.CClear (.ref a.CTotal) = true
  nf_Clear_Clear : PySem.W.notFirst K a.CClear (.ref a.CClear) = true
  eq_Clear : PySem.W.findIn K (.ref a.CClear) "__eq__" = some (some (.ref a.Clear_eq))
  fe_Clear : PySem.W.isFn K (.ref a.Clear_eq) = true
  n_len : mg "len" = none
  n_int : mg "int" = none
  n_tuple : mg "tuple" = none
  n_list : mg "list" = none
  n_range : mg "range" = none
  n_isinstance : mg "isinstance" = none
  n_bool : mg "bool" = none
section
variable {P : Program} {w : World} {K : PySem.W.Frag} {mg : Str → Option Value} {base : Heap} {a : Ad}

/-! ### draws -/
def But (st l : Addr) (H H' : Hp) : Prop := ∀ b o, b ≠ st → b ≠ l → H b = some o → H' b = some o
def DrSt (H : Hp) (st l : Addr) (b : Int) : Prop := ∃ (n : Int) (ns : List Int), 0 ≤ n ∧ n ≤ b ∧ ns ≠ [] ∧ ns.length ≤ 100 ∧ H st = some (.lst [.ref l, .int n]) ∧ H l = some (.lst (ns.map V.int))
theorem DrSt.ne {H : Hp} {st l : Addr} {b : Int} (h : DrSt H st l b) : st ≠ l := by
  obtain ⟨n, ns, _, _, _, _, h1, h2⟩ := h
  refine ne_of h1 h2 fun q => ?_
  cases ns with
  | nil => cases q
  | cons m r => simp at q
def sp_draw : Sp := fun vs H Q _ => ∃ (st l : Addr) (m b : Int), vs = [.ref st, .int m] ∧ 0 < m ∧ m ≤ 1000 ∧ b ≤ 100000 ∧ DrSt H st l b ∧
  ∀ H' r, But st l H H' → DrSt H' st l (b + 1) → 0 ≤ r → r < m → Q (.int r) H'
theorem ok_draw (T : Txt K mg a) : FnR P w K mg base CX0 1 a.draw sp_draw := by
  refine T.D_draw.okR sc_draw (by rintro _ _ _ _ ⟨_, _, _, _, rfl, _⟩; rfl) (fun cdv A outer s H vs Q E hr h => ?_)
  obtain ⟨st, l, m, b, rfl, m0, m1, hb, hD, k⟩ := h
  have ne := hD.ne
  obtain ⟨n, ns, n0, n1, nn, nl, h1, h2⟩ := hD
  refine ⟨_, (pss_cons (ps_set (i := 2) sc_draw.nd rfl (Or.inl rfl) (pe_ix (ix_listK K) (pv 0) (pe_int) (fun _ _ => rfl)))
      (pss_cons (ps_asg (pe_op op_add (pv 2) (pe_int)) (pg_sub (pv 0) (pe_int) set_list))
      (pss_cons (ps_set (i := 3) sc_draw.nd rfl (Or.inl rfl) (pe_op op_mod (pv 2) (pe_callB (cr_lenK K) (by rfl) T.n_len (by decide +kernel) (pa_cons (pe_ix (ix_listK K) (pv 0) (pe_int) (fun _ _ => rfl)) pa_nil))))
      (pss_cons (ps_set (i := 4) sc_draw.nd rfl (Or.inl rfl) (pe_callTy cr_int (by rfl) T.n_int (by decide +kernel) (pa_cons (pe_ix (ix_listK K) (pe_ix (ix_listK K) (pv 0) (pe_int) (fun _ _ => rfl)) (pv 3) (fun _ _ => rfl)) pa_nil)))
      (pss_cons (ps_if (pt_cmpR op_ge (pv 4) (pe_op op_pow (pe_int) (pe_int)) (nomark _))
      (pss_cons (ps_asg (pe_op op_fdiv (pv 4) (pv 1)) (pg_sub (pe_ix (ix_listK K) (pv 0) (pe_int) (fun _ _ => rfl)) (pv 3) set_list))
      (pss_one (ps_ret (pe_op op_mod (pe_callTy cr_int (by rfl) T.n_int (by decide +kernel) (pa_cons (pv 4) pa_nil)) (pv 1)))))
      pss_nil)
      (pss_cons (ps_set (i := 5) sc_draw.nd rfl (Or.inl rfl) (pe_op op_pow (pe_callTy cr_int (by rfl) T.n_int (by decide +kernel) (pa_cons (pe_op op_add (pe_op op_add (pe_op op_mul (pe_op op_mod (pe_callTy cr_int (by rfl) T.n_int (by decide +kernel) (pa_cons (pv 4) pa_nil)) (pe_int)) (pe_int)) (pe_op op_mul (pv 2) (pe_int))) (pe_int)) pa_nil)) (pe_int)))
      (pss_one (ps_ret (pe_op op_mod (pe_op op_fdiv (pe_callTy cr_int (by rfl) T.n_int (by decide +kernel) (pa_cons (pe_op op_mod (pe_callTy cr_int (by rfl) T.n_int (by decide +kernel) (pa_cons (pv 5) pa_nil)) (pe_int)) pa_nil)) (pe_int)) (pv 1)))))))))), ?_⟩
  walk_at "go"
  refine c_setL h1 rfl fun H1 e1 h1' => ?_
  have h2' : H1 l = some (.lst (ns.map V.int)) := (e1 l ne.symm).trans h2
  have len0 : (0 : Int) < ((ns.map V.int).length : Int) := by
    rw [List.length_map]
    have : ns.length ≠ 0 := fun q => nn (List.length_eq_zero_iff.mp q)
    omega
  walk_at "go"
  have a0 := Int.emod_nonneg n (Int.ne_of_gt len0)
  have a1 := Int.emod_lt_of_pos n len0
  generalize n % ((ns.map V.int).length : Int) = at_ at a0 a1
  rw [List.length_map] at a1
  obtain ⟨cell, ea, _⟩ := atI_map (f := V.int) a0 a1
  refine c_ixL h2' ea ?_
  walk_at "go"
  refine iteB (fun hc => ?_) (fun hc => ?_)
  · walk_at "go"
    refine c_I ⟨m0, by omega⟩ ?_
    walk_at "go"
    refine c_setL h2' (ixN_in a0 (by rw [List.length_map]; exact a1)) fun H2 e2 h2'' => ?_
    walk_at "go"
    refine k _ _ (fun b o b1 b2 e => ?_) ⟨n + 1, ns.set at_.toNat (cell / m), by omega, by omega, ?_, ?_, ?_, ?_⟩ (Int.emod_nonneg _ (Int.ne_of_gt m0)) (Int.emod_lt_of_pos _ m0)
    · rw [e2 b b2, e1 b b1]; exact e
    · intro q; apply nn; exact List.length_eq_zero_iff.mp (by rw [← List.length_set (as := ns) (i := at_.toNat) (a := cell / m), q]; rfl)
    · rw [List.length_set]; exact nl
    · rw [e2 st ne]; exact h1'
    · rw [h2'', List.map_set]
  · walk_at "go"
    have q0 := Int.emod_nonneg cell (show (1000003 : Int) ≠ 0 by decide)
    have q1 := Int.emod_lt_of_pos cell (show (0 : Int) < 1000003 by decide)
    refine c_I ⟨by decide, by decide, ?_⟩ ?_
    · have e : (2 : Nat) ^ 64 = 18446744073709551616 := by decide
      rw [e]
      omega
    walk_at "go"
    refine k _ _ (fun b o b1 b2 e => ?_) ⟨n + 1, ns, by omega, by omega, nn, nl, h1', h2'⟩ (Int.emod_nonneg _ (Int.ne_of_gt m0)) (Int.emod_lt_of_pos _ m0)
    rw [e1 b b1]; exact e
/-! ### heaps that a draw changes -/
theorem But.of {st l : Addr} {H H' : Hp} (h : Same H H') : But st l H H' := fun b o _ _ e => h b o e
theorem But.trans {st l : Addr} {H H1 H2 : Hp} (h : But st l H H1) (h' : But st l H1 H2) : But st l H H2 := fun b o b1 b2 e => h' b o b1 b2 (h b o b1 b2 e)
theorem DrSt.same {st l : Addr} {H H' : Hp} {b : Int} (s : Same H H') (h : DrSt H st l b) : DrSt H' st l b := by
  obtain ⟨n, ns, a1, a2, a3, a4, h1, h2⟩ := h
  exact ⟨n, ns, a1, a2, a3, a4, s _ _ h1, s _ _ h2⟩
theorem DrSt.mono {st l : Addr} {H : Hp} {b c : Int} (h : DrSt H st l b) (q : b ≤ c) : DrSt H st l c := by
  obtain ⟨n, ns, a1, a2, a3, a4, h1, h2⟩ := h
  exact ⟨n, ns, a1, by omega, a3, a4, h1, h2⟩
theorem DrSt.new {st l p : Addr} {H : Hp} {b : Int} (h : DrSt H st l b) (e : H p = none) : p ≠ st ∧ p ≠ l := by
  obtain ⟨n, ns, a1, a2, a3, a4, h1, h2⟩ := h
  exact ⟨(ne_of_none h1 e).symm, (ne_of_none h2 e).symm⟩
/-- what is no list stays -/
theorem But.keep {st l c : Addr} {H H' : Hp} {b : Int} {o : HO} (h : But st l H H') (D : DrSt H st l b) (e : H c = some o) (hn : ∀ xs, o ≠ .lst xs) : H' c = some o := by
  obtain ⟨n, ns, a1, a2, a3, a4, h1, h2⟩ := D
  exact h c o (ne_of e h1 (hn _)) (ne_of e h2 (hn _)) e

/-! ### what is written -/
structure Wd where
  k : Nat
  row : List Int
  nm : Str
  v : Int
def kn : Nat → Str
  | 0 => "drop"
  | 1 => "add"
  | 2 => "change"
  | 3 => "total"
  | _ => "clear"
def long (k : Nat) : Bool := k == 2 || k == 3
structure Wd.Ok (d : Wd) : Prop where
  k : d.k < 5
  row : d.row.length ≤ 3
  nm : d.nm = "a" ∨ d.nm = "ab"
def toldV (d : Wd) (r : Addr) : List V := if long d.k = true then [.str (kn d.k), .ref r, .str d.nm, .int d.v] else [.str (kn d.k), .ref r]
def Told (H : Hp) (p : Addr) (d : Wd) : Prop := ∃ r, H r = some (.tup (d.row.map V.int)) ∧ H p = some (.tup (toldV d r))
theorem kinds_at {r : Int} (h0 : 0 ≤ r) (h1 : r < 5) : ∃ k, k < 5 ∧ atI [V.str "drop", .str "add", .str "change", .str "total", .str "clear"] r = some (.str (kn k)) := by
  have h : r = 0 ∨ r = 1 ∨ r = 2 ∨ r = 3 ∨ r = 4 := by omega
  rcases h with rfl | rfl | rfl | rfl | rfl
  · exact ⟨0, by decide, rfl⟩
  · exact ⟨1, by decide, rfl⟩
  · exact ⟨2, by decide, rfl⟩
  · exact ⟨3, by decide, rfl⟩
  · exact ⟨4, by decide, rfl⟩
theorem two_at {x y : V} {r : Int} (h0 : 0 ≤ r) (h1 : r < 2) : atI [x, y] r = some x ∨ atI [x, y] r = some y := by
  have h : r = 0 ∨ r = 1 := by omega
  rcases h with rfl | rfl
  · exact .inl rfl
  · exact .inr rfl
def sp_told : Sp := fun vs H Q _ => ∃ (st l : Addr) (b : Int), vs = [.ref st] ∧ b ≤ 10000 ∧ DrSt H st l b ∧
  ∀ H' p d, But st l H H' → DrSt H' st l (b + 12) → Wd.Ok d → Told H' p d → Q (.ref p) H'
theorem ok_told (T : Txt K mg a) : FnR P w K mg base CX0 2 a.told sp_told := by
  have G_draw : FnR P w K mg base CX0 1 a.draw sp_draw := ok_draw T
  refine T.D_told.okR sc_told (by rintro _ _ _ _ ⟨_, _, _, rfl, _⟩; rfl) (fun cdv A outer s H vs Q E hr h => ?_)
  obtain ⟨st, l, b, rfl, hb, hD, k⟩ := h
  refine ⟨_, (pss_cons (ps_set (i := 1) sc_told.nd rfl (Or.inl rfl) (pe_ix (ix_listK K) (pe_lst (pa_cons (pe_str) (pa_cons (pe_str) (pa_cons (pe_str) (pa_cons (pe_str) (pa_cons (pe_str) pa_nil)))))) (pe_cR G_draw (hr.mono (by decide)) (by rfl) T.g_draw T.D_draw.kp pass0 (pa_cons (pv 0) (pa_cons (pe_int) pa_nil))) (fun _ _ => rfl)))
      (pss_cons (ps_set (i := 2) sc_told.nd rfl (Or.inl rfl) (pe_cR G_draw (hr.mono (by decide)) (by rfl) T.g_draw T.D_draw.kp pass0 (pa_cons (pv 0) (pa_cons (pe_int) pa_nil))))
      (pss_cons (ps_set (i := 3) sc_told.nd rfl (Or.inl rfl) (pe_callTy (cr_tupleK K) (by rfl) T.n_tuple (by decide +kernel) (pa_cons (pe_lc (own := [("_law_k", 6)]) (g := gName 6) (by rfl) sc_told.nd (pi_range1 (by rfl) T.n_range (pa_cons (pv 2) pa_nil)) (blkOk_by (own := [("_law_k", 6)]) (N := N_told) (sc := defScope s_told) (by decide +kernel)) (fun _ _ _ _ _ => (pg_name (i := 6) sc_told.nd rfl (Or.inl rfl))) (fun _ _ _ _ _ => pts_nil) (fun _ _ _ _ _ => (pe_op op_add (pe_ix (ix_listK K) (pe_lst (pa_cons (pe_int) (pa_cons (pe_op op_pow (pe_int) (pe_int)) pa_nil))) (pe_cR G_draw (hr.mono (by decide)) (by rfl) T.g_draw T.D_draw.kp pass0 (pa_cons (pv 0) (pa_cons (pe_int) pa_nil))) (fun _ _ => rfl)) (pe_cR G_draw (hr.mono (by decide)) (by rfl) T.g_draw T.D_draw.kp pass0 (pa_cons (pv 0) (pa_cons (pe_int) pa_nil)))))) pa_nil)))
      (pss_cons (ps_set (i := 4) sc_told.nd rfl (Or.inl rfl) (pe_ix (ix_listK K) (pe_lst (pa_cons (pe_str) (pa_cons (pe_str) pa_nil))) (pe_cR G_draw (hr.mono (by decide)) (by rfl) T.g_draw T.D_draw.kp pass0 (pa_cons (pv 0) (pa_cons (pe_int) pa_nil))) (fun _ _ => rfl)))
      (pss_cons (ps_set (i := 5) sc_told.nd rfl (Or.inl rfl) (pe_ix (ix_listK K) (pe_lst (pa_cons (pe_un un_neg (pe_int)) (pa_cons (pe_op op_pow (pe_int) (pe_int)) pa_nil))) (pe_cR G_draw (hr.mono (by decide)) (by rfl) T.g_draw T.D_draw.kp pass0 (pa_cons (pv 0) (pa_cons (pe_int) pa_nil))) (fun _ _ => rfl)))
      (pss_cons (ps_if (pt_cmpR (op_inK K) (pv 1) (pe_tup (pa_cons (pe_str) (pa_cons (pe_str) pa_nil))) (by rfl))
      (pss_one (ps_ret (pe_tup (pa_cons (pv 1) (pa_cons (pv 3) (pa_cons (pv 4) (pa_cons (pv 5) pa_nil)))))))
      pss_nil)
      (pss_one (ps_ret (pe_tup (pa_cons (pv 1) (pa_cons (pv 3) pa_nil))))))))))), ?_⟩
  walk_at "go"
  -- the kind
  refine c_newL (by decide) fun p1 H1 n1 s1 e1 => ?_
  walk_at "go"
  refine ⟨st, l, 5, b, rfl, by decide, by decide, by omega, hD.same s1, fun H2 r t2 D2 r0 r1 => ?_⟩
  obtain ⟨q1, q2⟩ := hD.new n1
  obtain ⟨kk, hk, ek⟩ := kinds_at r0 r1
  refine c_ixL (t2 _ _ q1 q2 e1) ek ?_
  walk_at "go"
  -- the size
  refine ⟨st, l, 4, b + 1, rfl, by decide, by decide, by omega, D2, fun H3 z t3 D3 z0 z1 => ?_⟩
  walk_at "go"
  -- the row
  have t13 : But st l H H3 := ((But.of s1).trans t2).trans t3
  refine c_lcR1 (by omega) (by omega) fun D H4 nD s4 e4 => ?_
  obtain ⟨d1, d2⟩ := D3.new nD
  refine ⟨fun i acc H' => But st l H3 H' ∧ DrSt H' st l (b + 2 + 2 * i) ∧ ∃ ns : List Int, acc = ns.map V.int ∧ ns.length = i, ⟨⟨But.of s4, (D3.same s4).mono (by omega), [], rfl, rfl⟩, fun _ _ _ _ => trivial, ?_, ?_⟩⟩
  · rintro i x acc H5 hi hl e5 ⟨t5, D5, ns, rfl, hn⟩
    obtain ⟨hi, rfl⟩ := intsV_get hi
    walk_at "go"
    refine c_newL (by decide) fun p6 H6 n6 s6 e6 => ?_
    walk_at "go"
    refine ⟨st, l, 2, _, rfl, by decide, by decide, by omega, D5.same s6, fun H7 r7 t7 D7 r70 r71 => ?_⟩
    obtain ⟨q61, q62⟩ := D5.new n6
    have nD6 : D ≠ p6 := ne_of_none e5 n6
    obtain ⟨x7, ex7⟩ : ∃ x : Int, atI [V.int 0, V.int (10 ^ (40 : Int).toNat)] r7 = some (.int x) := by
      rcases two_at (x := V.int 0) (y := V.int (10 ^ (40 : Int).toNat)) r70 r71 with z | z
      · exact ⟨_, z⟩
      · exact ⟨_, z⟩
    refine c_ixL (t7 _ _ q61 q62 e6) ex7 ?_
    walk_at "go"
    refine ⟨st, l, 2, _, rfl, by decide, by decide, by omega, D7, fun H8 r8 t8 D8 r80 r81 => ?_⟩
    walk_at "go"
    have e8 : H8 D = some (.lst (ns.map V.int)) := t8 _ _ d1 d2 (t7 _ _ d1 d2 (s6 _ _ e5))
    refine c_acc e8 hl (by omega) fun H9 e9 h9 => ⟨fun b o b1 b2 e => ?_, ?_, ns ++ [x7 + r8], by rw [List.map_append]; rfl, by rw [List.length_append, hn]; rfl⟩
    · have nb : b ≠ D := ne_of_none e nD
      rw [e9 b nb]
      exact t8 b o b1 b2 (t7 b o b1 b2 (s6 b o (t5 b o b1 b2 e)))
    · obtain ⟨n, ms, g1, g2, g3, g4, g5, g6⟩ := D8
      exact ⟨n, ms, g1, by omega, g3, g4, by rw [e9 st d1.symm]; exact g5, by rw [e9 l d2.symm]; exact g6⟩
  · rintro acc H5 hl e5 ⟨t5, D5, ns, rfl, hn⟩
    rw [intsV_len] at hn D5
    walk_at "go"
    refine c_tupL (SqL.of e5) fun pr H6 n6 s6 e6 => ?_
    walk_at "go"
    have D6 := (D5.same s6).mono (show b + 2 + 2 * (z.toNat : Int) ≤ b + 8 by omega)
    -- the name
    refine c_newL (by decide) fun p7 H7 n7 s7 e7 => ?_
    walk_at "go"
    refine ⟨st, l, 2, _, rfl, by decide, by decide, by omega, D6.same s7, fun H8 r8 t8 D8 r80 r81 => ?_⟩
    obtain ⟨q71, q72⟩ := D6.new n7
    obtain ⟨nm, hnm, enm⟩ : ∃ nm : Str, (nm = "a" ∨ nm = "ab") ∧ atI [V.str "a", V.str "ab"] r8 = some (.str nm) := by
      rcases two_at (x := V.str "a") (y := V.str "ab") r80 r81 with z | z
      · exact ⟨_, .inl rfl, z⟩
      · exact ⟨_, .inr rfl, z⟩
    refine c_ixL (t8 _ _ q71 q72 e7) enm ?_
    walk_at "go"
    -- the value
    refine c_newL (by decide) fun p9 H9 n9 s9 e9 => ?_
    walk_at "go"
    refine ⟨st, l, 2, _, rfl, by decide, by decide, by omega, D8.same s9, fun Ha ra ta Da ra0 ra1 => ?_⟩
    obtain ⟨q91, q92⟩ := D8.new n9
    obtain ⟨va, eva⟩ : ∃ x : Int, atI [V.int (-3), V.int (10 ^ (40 : Int).toNat)] ra = some (.int x) := by
      rcases two_at (x := V.int (-3)) (y := V.int (10 ^ (40 : Int).toNat)) ra0 ra1 with z | z
      · exact ⟨_, z⟩
      · exact ⟨_, z⟩
    refine c_ixL (ta _ _ q91 q92 e9) eva ?_
    walk_at "go"
    -- what is handed back
    have ea : Ha pr = some (.tup (ns.map V.int)) := ta.keep (D8.same s9) (s9 _ _ (t8.keep (D6.same s7) (s7 _ _ e6) (by intro _ q; cases q))) (by intro _ q; cases q)
    have ta' : But st l H Ha := t13.trans (t5.trans ((But.of (s6.trans s7)).trans (t8.trans ((But.of s9).trans ta))))
    refine c_newT (by decide) fun pb Hb nb sb eb => ?_
    refine c_inT eb rfl rfl ?_
    have el : inV (V.str (kn kk)) [V.str "change", V.str "total"] = long kk := by
      have h : kk = 0 ∨ kk = 1 ∨ kk = 2 ∨ kk = 3 ∨ kk = 4 := by omega
      rcases h with rfl | rfl | rfl | rfl | rfl <;> decide +kernel
    rw [el]
    walk_at "go"
    have tb : But st l H Hb := ta'.trans (But.of sb)
    have Db := Da.same sb
    refine iteB (fun hc => ?_) (fun hc => ?_)
    · walk_at "go"
      refine c_newT (by simp) fun pc Hc nc sc ec => ?_
      refine k Hc pc ⟨kk, ns, nm, va⟩ (tb.trans (But.of sc)) ((Db.same sc).mono (by omega)) ⟨hk, by show ns.length ≤ 3; omega, hnm⟩ ⟨pr, sc _ _ (sb _ _ ea), ?_⟩
      rw [ec]; unfold toldV; rw [if_pos hc]
    · walk_at "go"
      refine c_newT (by simp) fun pc Hc nc sc ec => ?_
      refine k Hc pc ⟨kk, ns, nm, va⟩ (tb.trans (But.of sc)) ((Db.same sc).mono (by omega)) ⟨hk, by show ns.length ≤ 3; omega, hnm⟩ ⟨pr, sc _ _ (sb _ _ ea), ?_⟩
      rw [ec]; unfold toldV; rw [if_neg (by rw [hc]; exact Bool.false_ne_true)]
/-! ### the writes -/
def cls (a : Ad) : Nat → Addr
  | 0 => a.CDrop
  | 1 => a.CAdd
  | 2 => a.CChange
  | 3 => a.CTotal
  | _ => a.CClear
def rw (k : Nat) : Str := if k ≤ 2 then "row" else "group"
def flds (k : Nat) (r : Addr) (nm : Str) (v : Int) : List (Str × V) := if long k = true then [("kind", .str (kn k)), (rw k, .ref r), ("name", .str nm), ("value", .int v)] else [("kind", .str (kn k)), (rw k, .ref r)]
def sp_winit (K : PySem.W.Frag) : Sp := fun vs H Q _ => ∃ (x C dx : Addr) (k : Str), vs = [.ref x, .str k] ∧ H x = some (.ins C dx []) ∧ Cls K C ∧ NoAttr K C "kind" ∧
  ∀ H', (∀ b, b ≠ x → H' b = H b) → H' x = some (.ins C dx [("kind", .str k)]) → Q .non H'
theorem ok_winit (T : Txt K mg a) : FnR P w K mg base CX0 1 a.Write_init (sp_winit K) := by
  refine T.D_Write_init.okR sc_Write_init (by rintro _ _ _ _ ⟨_, _, _, _, rfl, _⟩; rfl) (fun cdv A outer s H vs Q E hr h => ?_)
  obtain ⟨x, C, dx, kk, rfl, hx, hC, hn, k⟩ := h
  refine ⟨_, (pss_one (ps_fldK K (pv 0) (pv 1) rfl)), ?_⟩
  walk_at "go"
  refine c_sfldv hx hC hn (by simp) fun H1 e1 h1 => ?_
  exact k H1 e1 h1
/-- __init__(self, row) of the kind kk -/
def sp_init1 (C : Addr) (kk : Nat) : Sp := fun vs H Q _ => ∃ (x dx r : Addr) (row : List Int), vs = [.ref x, .ref r] ∧ H x = some (.ins C dx []) ∧ H r = some (.tup (row.map V.int)) ∧
  ∀ H', (∀ b, b ≠ x → H' b = H b) → H' x = some (.ins C dx (flds kk r "" 0)) → Q .non H'
def sp_init3 (C : Addr) (kk : Nat) : Sp := fun vs H Q _ => ∃ (x dx r : Addr) (row : List Int) (nm : Str) (v : Int), vs = [.ref x, .ref r, .str nm, .int v] ∧ H x = some (.ins C dx []) ∧ H r = some (.tup (row.map V.int)) ∧
  ∀ H', (∀ b, b ≠ x → H' b = H b) → H' x = some (.ins C dx (flds kk r nm v)) → Q .non H'
theorem ok_init_Drop (T : Txt K mg a) : FnR P w K mg base CX0 2 a.Drop_init (sp_init1 a.CDrop 0) := by
  have G_Write_init : FnR P w K mg base CX0 1 a.Write_init (sp_winit K) := ok_winit T
  refine T.D_Drop_init.okR sc_Drop_init (by rintro _ _ _ _ ⟨_, _, _, _, rfl, _⟩; rfl) (fun cdv A outer s H vs Q E hr h => ?_)
  obtain ⟨x, dx, r, row, rfl, hx, hr', k⟩ := h
  have nrx : r ≠ x := ne_of hr' hx (by intro q; cases q)
  refine ⟨_, (pss_cons (ps_expr (pe_clsR T.c_Write_init G_Write_init (hr.mono (by decide)) (by rfl) T.g_Write pass0 (pa_cons (pv 0) (pa_cons (pe_str) pa_nil))))
      (pss_one (ps_fldK K (pv 0) (pe_callTy (cr_tupleK K) (by rfl) T.n_tuple (by decide +kernel) (pa_cons (pv 1) pa_nil)) rfl))), ?_⟩
  walk_at "go"
  refine ⟨x, _, dx, _, rfl, hx, T.cl_Drop, T.na_Drop_kind, fun H1 e1 h1 => ?_⟩
  walk_at "go"
  refine c_tupT (SqT.of ((e1 r nrx).trans hr')) ?_
  walk_at "go"
  refine c_sfldv h1 T.cl_Drop T.na_Drop_row (by simp) fun H2 e2 h2 => ?_
  exact k H2 (fun b hb => (e2 b hb).trans (e1 b hb)) h2
theorem ok_init_Add (T : Txt K mg a) : FnR P w K mg base CX0 2 a.Add_init (sp_init1 a.CAdd 1) := by
  have G_Write_init : FnR P w K mg base CX0 1 a.Write_init (sp_winit K) := ok_winit T
  refine T.D_Add_init.okR sc_Add_init (by rintro _ _ _ _ ⟨_, _, _, _, rfl, _⟩; rfl) (fun cdv A outer s H vs Q E hr h => ?_)
  obtain ⟨x, dx, r, row, rfl, hx, hr', k⟩ := h
  have nrx : r ≠ x := ne_of hr' hx (by intro q; cases q)
  refine ⟨_, (pss_cons (ps_expr (pe_clsR T.c_Write_init G_Write_init (hr.mono (by decide)) (by rfl) T.g_Write pass0 (pa_cons (pv 0) (pa_cons (pe_str) pa_nil))))
      (pss_one (ps_fldK K (pv 0) (pe_callTy (cr_tupleK K) (by rfl) T.n_tuple (by decide +kernel) (pa_cons (pv 1) pa_nil)) rfl))), ?_⟩
  walk_at "go"
  refine ⟨x, _, dx, _, rfl, hx, T.cl_Add, T.na_Add_kind, fun H1 e1 h1 => ?_⟩
  walk_at "go"
  refine c_tupT (SqT.of ((e1 r nrx).trans hr')) ?_
  walk_at "go"
  refine c_sfldv h1 T.cl_Add T.na_Add_row (by simp) fun H2 e2 h2 => ?_
  exact k H2 (fun b hb => (e2 b hb).trans (e1 b hb)) h2
theorem ok_init_Change (T : Txt K mg a) : FnR P w K mg base CX0 2 a.Change_init (sp_init3 a.CChange 2) := by
  have G_Write_init : FnR P w K mg base CX0 1 a.Write_init (sp_winit K) := ok_winit T
  refine T.D_Change_init.okR sc_Change_init (by rintro _ _ _ _ ⟨_, _, _, _, _, _, rfl, _⟩; rfl) (fun cdv A outer s H vs Q E hr h => ?_)
  obtain ⟨x, dx, r, row, nm, v, rfl, hx, hr', k⟩ := h
  have nrx : r ≠ x := ne_of hr' hx (by intro q; cases q)
  refine ⟨_, (pss_cons (ps_expr (pe_clsR T.c_Write_init G_Write_init (hr.mono (by decide)) (by rfl) T.g_Write pass0 (pa_cons (pv 0) (pa_cons (pe_str) pa_nil))))
      (pss_cons (ps_fldK K (pv 0) (pe_callTy (cr_tupleK K) (by rfl) T.n_tuple (by decide +kernel) (pa_cons (pv 1) pa_nil)) rfl)
      (pss_cons (ps_fldK K (pv 0) (pv 2) rfl)
      (pss_one (ps_fldK K (pv 0) (pv 3) rfl))))), ?_⟩
  walk_at "go"
  refine ⟨x, _, dx, _, rfl, hx, T.cl_Change, T.na_Change_kind, fun H1 e1 h1 => ?_⟩
  walk_at "go"
  refine c_tupT (SqT.of ((e1 r nrx).trans hr')) ?_
  walk_at "go"
  refine c_sfldv h1 T.cl_Change T.na_Change_row (by simp) fun H2 e2 h2 => ?_
  walk_at "go"
  refine c_sfldv h2 T.cl_Change T.na_Change_name (by show 2 < 1000; decide) fun H3 e3 h3 => ?_
  walk_at "go"
  refine c_sfldv h3 T.cl_Change T.na_Change_value (by show 3 < 1000; decide) fun H4 e4 h4 => ?_
  exact k H4 (fun b hb => (e4 b hb).trans ((e3 b hb).trans ((e2 b hb).trans (e1 b hb)))) h4
theorem ok_init_Total (T : Txt K mg a) : FnR P w K mg base CX0 2 a.Total_init (sp_init3 a.CTotal 3) := by
  have G_Write_init : FnR P w K mg base CX0 1 a.Write_init (sp_winit K) := ok_winit T
  refine T.D_Total_init.okR sc_Total_init (by rintro _ _ _ _ ⟨_, _, _, _, _, _, rfl, _⟩; rfl) (fun cdv A outer s H vs Q E hr h => ?_)
  obtain ⟨x, dx, r, row, nm, v, rfl, hx, hr', k⟩ := h
  have nrx : r ≠ x := ne_of hr' hx (by intro q; cases q)
  refine ⟨_, (pss_cons (ps_expr (pe_clsR T.c_Write_init G_Write_init (hr.mono (by decide)) (by rfl) T.g_Write pass0 (pa_cons (pv 0) (pa_cons (pe_str) pa_nil))))
      (pss_cons (ps_fldK K (pv 0) (pe_callTy (cr_tupleK K) (by rfl) T.n_tuple (by decide +kernel) (pa_cons (pv 1) pa_nil)) rfl)
      (pss_cons (ps_fldK K (pv 0) (pv 2) rfl)
      (pss_one (ps_fldK K (pv 0) (pv 3) rfl))))), ?_⟩
  walk_at "go"
  refine ⟨x, _, dx, _, rfl, hx, T.cl_Total, T.na_Total_kind, fun H1 e1 h1 => ?_⟩
  walk_at "go"
  refine c_tupT (SqT.of ((e1 r nrx).trans hr')) ?_
  walk_at "go"
  refine c_sfldv h1 T.cl_Total T.na_Total_group (by simp) fun H2 e2 h2 => ?_
  walk_at "go"
  refine c_sfldv h2 T.cl_Total T.na_Total_name (by show 2 < 1000; decide) fun H3 e3 h3 => ?_
  walk_at "go"
  refine c_sfldv h3 T.cl_Total T.na_Total_value (by show 3 < 1000; decide) fun H4 e4 h4 => ?_
  exact k H4 (fun b hb => (e4 b hb).trans ((e3 b hb).trans ((e2 b hb).trans (e1 b hb)))) h4
theorem ok_init_Clear (T : Txt K mg a) : FnR P w K mg base CX0 2 a.Clear_init (sp_init1 a.CClear 4) := by
  have G_Write_init : FnR P w K mg base CX0 1 a.Write_init (sp_winit K) := ok_winit T
  refine T.D_Clear_init.okR sc_Clear_init (by rintro _ _ _ _ ⟨_, _, _, _, rfl, _⟩; rfl) (fun cdv A outer s H vs Q E hr h => ?_)
  obtain ⟨x, dx, r, row, rfl, hx, hr', k⟩ := h
  have nrx : r ≠ x := ne_of hr' hx (by intro q; cases q)
  refine ⟨_, (pss_cons (ps_expr (pe_clsR T.c_Write_init G_Write_init (hr.mono (by decide)) (by rfl) T.g_Write pass0 (pa_cons (pv 0) (pa_cons (pe_str) pa_nil))))
      (pss_one (ps_fldK K (pv 0) (pe_callTy (cr_tupleK K) (by rfl) T.n_tuple (by decide +kernel) (pa_cons (pv 1) pa_nil)) rfl))), ?_⟩
  walk_at "go"
  refine ⟨x, _, dx, _, rfl, hx, T.cl_Clear, T.na_Clear_kind, fun H1 e1 h1 => ?_⟩
  walk_at "go"
  refine c_tupT (SqT.of ((e1 r nrx).trans hr')) ?_
  walk_at "go"
  refine c_sfldv h1 T.cl_Clear T.na_Clear_group (by simp) fun H2 e2 h2 => ?_
  exact k H2 (fun b hb => (e2 b hb).trans (e1 b hb)) h2
/-! ### written objects, and when two are the same -/
def Made (a : Ad) (H : Hp) (x : Addr) (d : Wd) : Prop := ∃ dx r, H r = some (.tup (d.row.map V.int)) ∧ H x = some (.ins (cls a d.k) dx (flds d.k r d.nm d.v))
def sameW (d e : Wd) : Bool := (d.k == e.k) && (decide (d.row = e.row) && (!long d.k || (decide (d.nm = e.nm) && decide (d.v = e.v))))
theorem five {k : Nat} (h : k < 5) : k = 0 ∨ k = 1 ∨ k = 2 ∨ k = 3 ∨ k = 4 := by omega
theorem cl_cls (T : Txt K mg a) {k : Nat} (h : k < 5) : Cls K (cls a k) ∧ ClsTy K (cls a k) := by
  rcases five h with rfl | rfl | rfl | rfl | rfl
  · exact ⟨T.cl_Drop, T.ty_Drop⟩
  · exact ⟨T.cl_Add, T.ty_Add⟩
  · exact ⟨T.cl_Change, T.ty_Change⟩
  · exact ⟨T.cl_Total, T.ty_Total⟩
  · exact ⟨T.cl_Clear, T.ty_Clear⟩
theorem kit_Drop (T : Txt K mg a) {k : Nat} (h : k < 5) : PySem.W.kitOne K (.ref (cls a k)) (.ref a.CDrop) = some (k == 0) := by
  rcases five h with rfl | rfl | rfl | rfl | rfl
  · exact T.is_Drop_Drop
  · exact T.is_Add_Drop
  · exact T.is_Change_Drop
  · exact T.is_Total_Drop
  · exact T.is_Clear_Drop
theorem nf_Drop (T : Txt K mg a) {k : Nat} (h : k < 5) : PySem.W.notFirst K a.CDrop (.ref (cls a k)) = true := by
  rcases five h with rfl | rfl | rfl | rfl | rfl
  · exact T.nf_Drop_Drop
  · exact T.nf_Drop_Add
  · exact T.nf_Drop_Change
  · exact T.nf_Drop_Total
  · exact T.nf_Drop_Clear
theorem kit_Add (T : Txt K mg a) {k : Nat} (h : k < 5) : PySem.W.kitOne K (.ref (cls a k)) (.ref a.CAdd) = some (k == 1) := by
  rcases five h with rfl | rfl | rfl | rfl | rfl
  · exact T.is_Drop_Add
  · exact T.is_Add_Add
  · exact T.is_Change_Add
  · exact T.is_Total_Add
  · exact T.is_Clear_Add
theorem nf_Add (T : Txt K mg a) {k : Nat} (h : k < 5) : PySem.W.notFirst K a.CAdd (.ref (cls a k)) = true := by
  rcases five h with rfl | rfl | rfl | rfl | rfl
  · exact T.nf_Add_Drop
  · exact T.nf_Add_Add
  · exact T.nf_Add_Change
  · exact T.nf_Add_Total
  · exact T.nf_Add_Clear
theorem kit_Change (T : Txt K mg a) {k : Nat} (h : k < 5) : PySem.W.kitOne K (.ref (cls a k)) (.ref a.CChange) = some (k == 2) := by
  rcases five h with rfl | rfl | rfl | rfl | rfl
  · exact T.is_Drop_Change
  · exact T.is_Add_Change
  · exact T.is_Change_Change
  · exact T.is_Total_Change
  · exact T.is_Clear_Change
theorem nf_Change (T : Txt K mg a) {k : Nat} (h : k < 5) : PySem.W.notFirst K a.CChange (.ref (cls a k)) = true := by
  rcases five h with rfl | rfl | rfl | rfl | rfl
  · exact T.nf_Change_Drop
  · exact T.nf_Change_Add
  · exact T.nf_Change_Change
  · exact T.nf_Change_Total
  · exact T.nf_Change_Clear
theorem kit_Total (T : Txt K mg a) {k : Nat} (h : k < 5) : PySem.W.kitOne K (.ref (cls a k)) (.ref a.CTotal) = some (k == 3) := by
  rcases five h with rfl | rfl | rfl | rfl | rfl
  · exact T.is_Drop_Total
  · exact T.is_Add_Total
  · exact T.is_Change_Total
  · exact T.is_Total_Total
  · exact T.is_Clear_Total
theorem nf_Total (T : Txt K mg a) {k : Nat} (h : k < 5) : PySem.W.notFirst K a.CTotal (.ref (cls a k)) = true := by
  rcases five h with rfl | rfl | rfl | rfl | rfl
  · exact T.nf_Total_Drop
  · exact T.nf_Total_Add
  · exact T.nf_Total_Change
  · exact T.nf_Total_Total
  · exact T.nf_Total_Clear
theorem kit_Clear (T : Txt K mg a) {k : Nat} (h : k < 5) : PySem.W.kitOne K (.ref (cls a k)) (.ref a.CClear) = some (k == 4) := by
  rcases five h with rfl | rfl | rfl | rfl | rfl
  · exact T.is_Drop_Clear
  · exact T.is_Add_Clear
  · exact T.is_Change_Clear
  · exact T.is_Total_Clear
  · exact T.is_Clear_Clear
theorem nf_Clear (T : Txt K mg a) {k : Nat} (h : k < 5) : PySem.W.notFirst K a.CClear (.ref (cls a k)) = true := by
  rcases five h with rfl | rfl | rfl | rfl | rfl
  · exact T.nf_Clear_Drop
  · exact T.nf_Clear_Add
  · exact T.nf_Clear_Change
  · exact T.nf_Clear_Total
  · exact T.nf_Clear_Clear
theorem kit_Write (T : Txt K mg a) {k : Nat} (h : k < 5) : PySem.W.kitOne K (.ref (cls a k)) (.ref a.CWrite) = some true := by
  rcases five h with rfl | rfl | rfl | rfl | rfl
  · exact T.is_Drop_Write
  · exact T.is_Add_Write
  · exact T.is_Change_Write
  · exact T.is_Total_Write
  · exact T.is_Clear_Write
def sp_eq (a : Ad) (k : Nat) : Sp := fun vs H Q _ => ∃ (x y : Addr) (d e : Wd), vs = [.ref x, .ref y] ∧ d.k = k ∧ e.k < 5 ∧ Made a H x d ∧ Made a H y e ∧ Q (.bl (sameW d e)) H
theorem ok_eq_Drop (T : Txt K mg a) : FnR P w K mg base CX0 1 a.Drop_eq (sp_eq a 0) := by
  refine T.D_Drop_eq.okR sc_Drop_eq (by rintro _ _ _ _ ⟨_, _, _, _, rfl, _⟩; rfl) (fun cdv A outer s H vs Q E hr h => ?_)
  obtain ⟨x, y, ⟨dk, drow, dnm, dv⟩, ⟨ek, erow, enm, ev⟩, rfl, hk, h5, ⟨dx, r, hr1, hx⟩, ⟨dy, r', hr2, hy⟩, q⟩ := h
  dsimp only at hk h5 hr1 hx hr2 hy
  subst hk
  refine ⟨_, (pss_one (ps_ret ((pe_and (pe_callB (cr_isiK K) (by rfl) T.n_isinstance (by decide +kernel) (pa_cons (pv 1) (pa_cons (pe_glob (v := .ref a.CDrop) (by rfl) T.g_Drop rfl) pa_nil))) (pe_one (pe_cmpR (op_eqDK K hr.units) (pe_fldK K (pv 0) rfl) (pe_fldK K (pv 1) rfl) (nomark _))))))), ?_⟩
  walk_at "go"
  refine c_isi (.own _) (tyI hy (cl_cls T h5).1 (cl_cls T h5).2) (kit_Drop T h5) ?_
  refine c_andB (fun hb => ?_) (fun hb => ?_)
  · have e0 : ek = 0 := by simpa using hb
    subst e0
    walk_at "go"
    refine c_fldv hx T.cl_Drop T.na_Drop_row rfl ?_
    walk_at "go"
    refine c_fldv hy T.cl_Drop T.na_Drop_row rfl ?_
    refine c_eqD (dp_tupI hr1) (dp_tupI hr2) (shaped_tupI _) (shaped_tupI _) ?_
    rw [eqv_tupI]
    have e1 : sameW ⟨0, drow, dnm, dv⟩ ⟨0, erow, enm, ev⟩ = decide (drow = erow) := by simp [sameW, long]
    rw [e1] at q
    exact q
  · have e1 : sameW ⟨0, drow, dnm, dv⟩ ⟨ek, erow, enm, ev⟩ = false := by
      have h2 : ¬ 0 = ek := fun z => by rw [← z] at hb; simp at hb
      simp [sameW, h2]
    rw [e1] at q
    exact q
theorem ok_eq_Add (T : Txt K mg a) : FnR P w K mg base CX0 1 a.Add_eq (sp_eq a 1) := by
  refine T.D_Add_eq.okR sc_Add_eq (by rintro _ _ _ _ ⟨_, _, _, _, rfl, _⟩; rfl) (fun cdv A outer s H vs Q E hr h => ?_)
  obtain ⟨x, y, ⟨dk, drow, dnm, dv⟩, ⟨ek, erow, enm, ev⟩, rfl, hk, h5, ⟨dx, r, hr1, hx⟩, ⟨dy, r', hr2, hy⟩, q⟩ := h
  dsimp only at hk h5 hr1 hx hr2 hy
  subst hk
  refine ⟨_, (pss_one (ps_ret ((pe_and (pe_callB (cr_isiK K) (by rfl) T.n_isinstance (by decide +kernel) (pa_cons (pv 1) (pa_cons (pe_glob (v := .ref a.CAdd) (by rfl) T.g_Add rfl) pa_nil))) (pe_one (pe_cmpR (op_eqDK K hr.units) (pe_fldK K (pv 0) rfl) (pe_fldK K (pv 1) rfl) (nomark _))))))), ?_⟩
  walk_at "go"
  refine c_isi (.own _) (tyI hy (cl_cls T h5).1 (cl_cls T h5).2) (kit_Add T h5) ?_
  refine c_andB (fun hb => ?_) (fun hb => ?_)
  · have e0 : ek = 1 := by simpa using hb
    subst e0
    walk_at "go"
    refine c_fldv hx T.cl_Add T.na_Add_row rfl ?_
    walk_at "go"
    refine c_fldv hy T.cl_Add T.na_Add_row rfl ?_
    refine c_eqD (dp_tupI hr1) (dp_tupI hr2) (shaped_tupI _) (shaped_tupI _) ?_
    rw [eqv_tupI]
    have e1 : sameW ⟨1, drow, dnm, dv⟩ ⟨1, erow, enm, ev⟩ = decide (drow = erow) := by simp [sameW, long]
    rw [e1] at q
    exact q
  · have e1 : sameW ⟨1, drow, dnm, dv⟩ ⟨ek, erow, enm, ev⟩ = false := by
      have h2 : ¬ 1 = ek := fun z => by rw [← z] at hb; simp at hb
      simp [sameW, h2]
    rw [e1] at q
    exact q
theorem ok_eq_Change (T : Txt K mg a) : FnR P w K mg base CX0 1 a.Change_eq (sp_eq a 2) := by
  refine T.D_Change_eq.okR sc_Change_eq (by rintro _ _ _ _ ⟨_, _, _, _, rfl, _⟩; rfl) (fun cdv A outer s H vs Q E hr h => ?_)
  obtain ⟨x, y, ⟨dk, drow, dnm, dv⟩, ⟨ek, erow, enm, ev⟩, rfl, hk, h5, ⟨dx, r, hr1, hx⟩, ⟨dy, r', hr2, hy⟩, q⟩ := h
  dsimp only at hk h5 hr1 hx hr2 hy
  subst hk
  refine ⟨_, (pss_one (ps_ret ((pe_and (pe_callB (cr_isiK K) (by rfl) T.n_isinstance (by decide +kernel) (pa_cons (pv 1) (pa_cons (pe_glob (v := .ref a.CChange) (by rfl) T.g_Change rfl) pa_nil))) (pe_and (pe_cmpR (op_eqDK K hr.units) (pe_fldK K (pv 0) rfl) (pe_fldK K (pv 1) rfl) (nomark _)) (pe_and (pe_cmpR op_eq (pe_fldK K (pv 0) rfl) (pe_fldK K (pv 1) rfl) (nomark _)) (pe_one (pe_cmpR op_eq (pe_fldK K (pv 0) rfl) (pe_fldK K (pv 1) rfl) (nomark _))))))))), ?_⟩
  walk_at "go"
  refine c_isi (.own _) (tyI hy (cl_cls T h5).1 (cl_cls T h5).2) (kit_Change T h5) ?_
  refine c_andB (fun hb => ?_) (fun hb => ?_)
  · have e0 : ek = 2 := by simpa using hb
    subst e0
    walk_at "go"
    refine c_fldv hx T.cl_Change T.na_Change_row rfl ?_
    walk_at "go"
    refine c_fldv hy T.cl_Change T.na_Change_row rfl ?_
    refine c_eqD (dp_tupI hr1) (dp_tupI hr2) (shaped_tupI _) (shaped_tupI _) ?_
    rw [eqv_tupI]
    refine c_andB (fun hb2 => ?_) (fun hb2 => ?_)
    · walk_at "go"
      refine c_fldv hx T.cl_Change T.na_Change_name rfl ?_
      walk_at "go"
      refine c_fldv hy T.cl_Change T.na_Change_name rfl ?_
      walk_at "go"
      refine c_andB (fun hb3 => ?_) (fun hb3 => ?_)
      · walk_at "go"
        refine c_fldv hx T.cl_Change T.na_Change_value rfl ?_
        walk_at "go"
        refine c_fldv hy T.cl_Change T.na_Change_value rfl ?_
        walk_at "go"
        have e1 : sameW ⟨2, drow, dnm, dv⟩ ⟨2, erow, enm, ev⟩ = decide (V.int dv = V.int ev) := by
          have h1 := of_decide_eq_true hb2
          have h2 : dnm = enm := by simpa using hb3
          simp [sameW, long, h1, h2]
        rw [e1] at q
        exact q
      · have e1 : sameW ⟨2, drow, dnm, dv⟩ ⟨2, erow, enm, ev⟩ = false := by
          have h2 : ¬ dnm = enm := by simpa using hb3
          simp [sameW, long, h2]
        rw [e1] at q
        exact q
    · have e1 : sameW ⟨2, drow, dnm, dv⟩ ⟨2, erow, enm, ev⟩ = false := by
        have h2 : ¬ drow = erow := of_decide_eq_false hb2
        simp [sameW, long, h2]
      rw [e1] at q
      exact q
  · have e1 : sameW ⟨2, drow, dnm, dv⟩ ⟨ek, erow, enm, ev⟩ = false := by
      have h2 : ¬ 2 = ek := fun z => by rw [← z] at hb; simp at hb
      simp [sameW, h2]
    rw [e1] at q
    exact q
theorem ok_eq_Total (T : Txt K mg a) : FnR P w K mg base CX0 1 a.Total_eq (sp_eq a 3) := by
  refine T.D_Total_eq.okR sc_Total_eq (by rintro _ _ _ _ ⟨_, _, _, _, rfl, _⟩; rfl) (fun cdv A outer s H vs Q E hr h => ?_)
  obtain ⟨x, y, ⟨dk, drow, dnm, dv⟩, ⟨ek, erow, enm, ev⟩, rfl, hk, h5, ⟨dx, r, hr1, hx⟩, ⟨dy, r', hr2, hy⟩, q⟩ := h
  dsimp only at hk h5 hr1 hx hr2 hy
  subst hk
  refine ⟨_, (pss_one (ps_ret ((pe_and (pe_callB (cr_isiK K) (by rfl) T.n_isinstance (by decide +kernel) (pa_cons (pv 1) (pa_cons (pe_glob (v := .ref a.CTotal) (by rfl) T.g_Total rfl) pa_nil))) (pe_and (pe_cmpR (op_eqDK K hr.units) (pe_fldK K (pv 0) rfl) (pe_fldK K (pv 1) rfl) (nomark _)) (pe_and (pe_cmpR op_eq (pe_fldK K (pv 0) rfl) (pe_fldK K (pv 1) rfl) (nomark _)) (pe_one (pe_cmpR op_eq (pe_fldK K (pv 0) rfl) (pe_fldK K (pv 1) rfl) (nomark _))))))))), ?_⟩
  walk_at "go"
  refine c_isi (.own _) (tyI hy (cl_cls T h5).1 (cl_cls T h5).2) (kit_Total T h5) ?_
  refine c_andB (fun hb => ?_) (fun hb => ?_)
  · have e0 : ek = 3 := by simpa using hb
    subst e0
    walk_at "go"
    refine c_fldv hx T.cl_Total T.na_Total_group rfl ?_
    walk_at "go"
    refine c_fldv hy T.cl_Total T.na_Total_group rfl ?_
    refine c_eqD (dp_tupI hr1) (dp_tupI hr2) (shaped_tupI _) (shaped_tupI _) ?_
    rw [eqv_tupI]
    refine c_andB (fun hb2 => ?_) (fun hb2 => ?_)
    · walk_at "go"
      refine c_fldv hx T.cl_Total T.na_Total_name rfl ?_
      walk_at "go"
      refine c_fldv hy T.cl_Total T.na_Total_name rfl ?_
      walk_at "go"
      refine c_andB (fun hb3 => ?_) (fun hb3 => ?_)
      · walk_at "go"
        refine c_fldv hx T.cl_Total T.na_Total_value rfl ?_
        walk_at "go"
        refine c_fldv hy T.cl_Total T.na_Total_value rfl ?_
        walk_at "go"
        have e1 : sameW ⟨3, drow, dnm, dv⟩ ⟨3, erow, enm, ev⟩ = decide (V.int dv = V.int ev) := by
          have h1 := of_decide_eq_true hb2
          have h2 : dnm = enm := by simpa using hb3
          simp [sameW, long, h1, h2]
        rw [e1] at q
        exact q
      · have e1 : sameW ⟨3, drow, dnm, dv⟩ ⟨3, erow, enm, ev⟩ = false := by
          have h2 : ¬ dnm = enm := by simpa using hb3
          simp [sameW, long, h2]
        rw [e1] at q
        exact q
    · have e1 : sameW ⟨3, drow, dnm, dv⟩ ⟨3, erow, enm, ev⟩ = false := by
        have h2 : ¬ drow = erow := of_decide_eq_false hb2
        simp [sameW, long, h2]
      rw [e1] at q
      exact q
  · have e1 : sameW ⟨3, drow, dnm, dv⟩ ⟨ek, erow, enm, ev⟩ = false := by
      have h2 : ¬ 3 = ek := fun z => by rw [← z] at hb; simp at hb
      simp [sameW, h2]
    rw [e1] at q
    exact q
theorem ok_eq_Clear (T : Txt K mg a) : FnR P w K mg base CX0 1 a.Clear_eq (sp_eq a 4) := by
  refine T.D_Clear_eq.okR sc_Clear_eq (by rintro _ _ _ _ ⟨_, _, _, _, rfl, _⟩; rfl) (fun cdv A outer s H vs Q E hr h => ?_)
  obtain ⟨x, y, ⟨dk, drow, dnm, dv⟩, ⟨ek, erow, enm, ev⟩, rfl, hk, h5, ⟨dx, r, hr1, hx⟩, ⟨dy, r', hr2, hy⟩, q⟩ := h
  dsimp only at hk h5 hr1 hx hr2 hy
  subst hk
  refine ⟨_, (pss_one (ps_ret ((pe_and (pe_callB (cr_isiK K) (by rfl) T.n_isinstance (by decide +kernel) (pa_cons (pv 1) (pa_cons (pe_glob (v := .ref a.CClear) (by rfl) T.g_Clear rfl) pa_nil))) (pe_one (pe_cmpR (op_eqDK K hr.units) (pe_fldK K (pv 0) rfl) (pe_fldK K (pv 1) rfl) (nomark _))))))), ?_⟩
  walk_at "go"
  refine c_isi (.own _) (tyI hy (cl_cls T h5).1 (cl_cls T h5).2) (kit_Clear T h5) ?_
  refine c_andB (fun hb => ?_) (fun hb => ?_)
  · have e0 : ek = 4 := by simpa using hb
    subst e0
    walk_at "go"
    refine c_fldv hx T.cl_Clear T.na_Clear_group rfl ?_
    walk_at "go"
    refine c_fldv hy T.cl_Clear T.na_Clear_group rfl ?_
    refine c_eqD (dp_tupI hr1) (dp_tupI hr2) (shaped_tupI _) (shaped_tupI _) ?_
    rw [eqv_tupI]
    have e1 : sameW ⟨4, drow, dnm, dv⟩ ⟨4, erow, enm, ev⟩ = decide (drow = erow) := by simp [sameW, long]
    rw [e1] at q
    exact q
  · have e1 : sameW ⟨4, drow, dnm, dv⟩ ⟨ek, erow, enm, ev⟩ = false := by
      have h2 : ¬ 4 = ek := fun z => by rw [← z] at hb; simp at hb
      simp [sameW, h2]
    rw [e1] at q
    exact q
theorem flds_short {k : Nat} (h : long k = false) (r : Addr) (nm nm' : Str) (v v' : Int) : flds k r nm v = flds k r nm' v' := by unfold flds; rw [h]; rfl
def sp_made (a : Ad) : Sp := fun vs H Q _ => ∃ (t g : Addr) (d : Wd), vs = [.ref t, .ref g] ∧ d.Ok ∧ Told H t d ∧ H g = some (.tup (d.row.map V.int)) ∧
  ∀ H' x, Same H H' → H x = none → Made a H' x d → Q (.ref x) H'
theorem ok_made (T : Txt K mg a) : FnR P w K mg base CX0 4 a.made (sp_made a) := by
  have G_Drop_init : FnR P w K mg base CX0 2 a.Drop_init (sp_init1 a.CDrop 0) := ok_init_Drop T
  have G_Add_init : FnR P w K mg base CX0 2 a.Add_init (sp_init1 a.CAdd 1) := ok_init_Add T
  have G_Change_init : FnR P w K mg base CX0 2 a.Change_init (sp_init3 a.CChange 2) := ok_init_Change T
  have G_Total_init : FnR P w K mg base CX0 2 a.Total_init (sp_init3 a.CTotal 3) := ok_init_Total T
  have G_Clear_init : FnR P w K mg base CX0 2 a.Clear_init (sp_init1 a.CClear 4) := ok_init_Clear T
  refine T.D_made.okR sc_made (by rintro _ _ _ _ ⟨_, _, _, rfl, _⟩; rfl) (fun cdv A outer s H vs Q E hr h => ?_)
  obtain ⟨t, g, ⟨dk, row, nm, v⟩, rfl, ⟨h5, _, _⟩, ⟨r, hr1, ht⟩, hg, k⟩ := h
  dsimp only at h5 hr1 ht hg
  have fin : ∀ (x dx : Addr) (H2 H3 : Hp), H x = none → Same H H2 → (∀ b, b ≠ x → H3 b = H2 b) → H3 x = some (.ins (cls a dk) dx (flds dk g nm v)) → Q (.ref x) H3 := fun x dx H2 H3 hx s2 e3 h3 => by
    have s3 : Same H H3 := fun b o e => by rw [e3 b (ne_of_none e hx)]; exact s2 b o e
    exact k H3 x s3 hx ⟨dx, g, s3 _ _ hg, h3⟩
  refine ⟨_, (pss_cons (ps_if (pt_cmpR op_eq (pe_ix (ix_tupK K) (pv 0) (pe_int) (fun _ _ => rfl)) (pe_str) (nomark _))
      (pss_one (ps_ret (StX.pe_makeR T.M_Drop G_Drop_init (hr.mono (by decide)) (by rfl) T.g_Drop pass0 (pa_cons (pv 1) pa_nil))))
      pss_nil)
      (pss_cons (ps_if (pt_cmpR op_eq (pe_ix (ix_tupK K) (pv 0) (pe_int) (fun _ _ => rfl)) (pe_str) (nomark _))
      (pss_one (ps_ret (StX.pe_makeR T.M_Add G_Add_init (hr.mono (by decide)) (by rfl) T.g_Add pass0 (pa_cons (pv 1) pa_nil))))
      pss_nil)
      (pss_cons (ps_if (pt_cmpR op_eq (pe_ix (ix_tupK K) (pv 0) (pe_int) (fun _ _ => rfl)) (pe_str) (nomark _))
      (pss_one (ps_ret (StX.pe_makeR T.M_Change G_Change_init (hr.mono (by decide)) (by rfl) T.g_Change pass0 (pa_cons (pv 1) (pa_cons (pe_ix (ix_tupK K) (pv 0) (pe_int) (fun _ _ => rfl)) (pa_cons (pe_ix (ix_tupK K) (pv 0) (pe_int) (fun _ _ => rfl)) pa_nil))))))
      pss_nil)
      (pss_cons (ps_if (pt_cmpR op_eq (pe_ix (ix_tupK K) (pv 0) (pe_int) (fun _ _ => rfl)) (pe_str) (nomark _))
      (pss_one (ps_ret (StX.pe_makeR T.M_Total G_Total_init (hr.mono (by decide)) (by rfl) T.g_Total pass0 (pa_cons (pv 1) (pa_cons (pe_ix (ix_tupK K) (pv 0) (pe_int) (fun _ _ => rfl)) (pa_cons (pe_ix (ix_tupK K) (pv 0) (pe_int) (fun _ _ => rfl)) pa_nil))))))
      pss_nil)
      (pss_one (ps_ret (StX.pe_makeR T.M_Clear G_Clear_init (hr.mono (by decide)) (by rfl) T.g_Clear pass0 (pa_cons (pv 1) pa_nil)))))))), ?_⟩
  rcases five h5 with rfl | rfl | rfl | rfl | rfl
  · have ht' : H t = some (.tup [.str (kn 0), .ref r]) := ht
    walk_at "go"
    refine iteY (by decide +kernel) ?_
    walk_at "go"
    refine c_mk fun x dx H2 hx s2 h2 => ?_
    refine ⟨x, dx, g, row, rfl, h2, s2 _ _ hg, fun H3 e3 h3 => ⟨rfl, ?_⟩⟩
    exact fin x dx H2 H3 hx s2 e3 h3
  · have ht' : H t = some (.tup [.str (kn 1), .ref r]) := ht
    walk_at "go"
    refine iteN (by decide +kernel) ?_
    walk_at "go"
    refine iteY (by decide +kernel) ?_
    walk_at "go"
    refine c_mk fun x dx H2 hx s2 h2 => ?_
    refine ⟨x, dx, g, row, rfl, h2, s2 _ _ hg, fun H3 e3 h3 => ⟨rfl, ?_⟩⟩
    exact fin x dx H2 H3 hx s2 e3 h3
  · have ht' : H t = some (.tup [.str (kn 2), .ref r, .str nm, .int v]) := ht
    walk_at "go"
    refine iteN (by decide +kernel) ?_
    walk_at "go"
    refine iteN (by decide +kernel) ?_
    walk_at "go"
    refine iteY (by decide +kernel) ?_
    walk_at "go"
    refine c_mk fun x dx H2 hx s2 h2 => ?_
    refine ⟨x, dx, g, row, nm, v, rfl, h2, s2 _ _ hg, fun H3 e3 h3 => ⟨rfl, ?_⟩⟩
    exact fin x dx H2 H3 hx s2 e3 h3
  · have ht' : H t = some (.tup [.str (kn 3), .ref r, .str nm, .int v]) := ht
    walk_at "go"
    refine iteN (by decide +kernel) ?_
    walk_at "go"
    refine iteN (by decide +kernel) ?_
    walk_at "go"
    refine iteN (by decide +kernel) ?_
    walk_at "go"
    refine iteY (by decide +kernel) ?_
    walk_at "go"
    refine c_mk fun x dx H2 hx s2 h2 => ?_
    refine ⟨x, dx, g, row, nm, v, rfl, h2, s2 _ _ hg, fun H3 e3 h3 => ⟨rfl, ?_⟩⟩
    exact fin x dx H2 H3 hx s2 e3 h3
  · have ht' : H t = some (.tup [.str (kn 4), .ref r]) := ht
    walk_at "go"
    refine iteN (by decide +kernel) ?_
    walk_at "go"
    refine iteN (by decide +kernel) ?_
    walk_at "go"
    refine iteN (by decide +kernel) ?_
    walk_at "go"
    refine iteN (by decide +kernel) ?_
    walk_at "go"
    refine c_mk fun x dx H2 hx s2 h2 => ?_
    refine ⟨x, dx, g, row, rfl, h2, s2 _ _ hg, fun H3 e3 h3 => ⟨rfl, ?_⟩⟩
    exact fin x dx H2 H3 hx s2 e3 h3
theorem na_kind (T : Txt K mg a) {k : Nat} (h : k < 5) : NoAttr K (cls a k) "kind" := by
  rcases five h with rfl | rfl | rfl | rfl | rfl
  · exact T.na_Drop_kind
  · exact T.na_Add_kind
  · exact T.na_Change_kind
  · exact T.na_Total_kind
  · exact T.na_Clear_kind
def sp_args (a : Ad) : Sp := fun vs H Q _ => ∃ (x : Addr) (d : Wd), vs = [.ref x] ∧ d.Ok ∧ Made a H x d ∧ ∀ H' p, Same H H' → Told H' p d → Q (.ref p) H'
theorem ok_args (T : Txt K mg a) : FnR P w K mg base CX0 1 a.arguments (sp_args a) := by
  refine T.D_arguments.okR sc_arguments (by rintro _ _ _ _ ⟨_, _, rfl, _⟩; rfl) (fun cdv A outer s H vs Q E hr h => ?_)
  obtain ⟨x, ⟨dk, row, nm, v⟩, rfl, ⟨h5, _, _⟩, ⟨dx, r, hr1, hx⟩, k⟩ := h
  dsimp only at h5 hr1 hx
  refine ⟨_, (pss_cons (ps_if (pt_cmpR (op_inK K) (pe_fldK K (pv 0) rfl) (pe_tup (pa_cons (pe_str) (pa_cons (pe_str) pa_nil))) (by rfl))
      (pss_one (ps_ret (pe_tup (pa_cons (pe_fldK K (pv 0) rfl) (pa_cons (pe_fldK K (pv 0) rfl) pa_nil)))))
      pss_nil)
      (pss_cons (ps_if (pt_cmpR op_eq (pe_fldK K (pv 0) rfl) (pe_str) (nomark _))
      (pss_one (ps_ret (pe_tup (pa_cons (pe_fldK K (pv 0) rfl) (pa_cons (pe_fldK K (pv 0) rfl) pa_nil)))))
      pss_nil)
      (pss_cons (ps_if (pt_cmpR op_eq (pe_fldK K (pv 0) rfl) (pe_str) (nomark _))
      (pss_one (ps_ret (pe_tup (pa_cons (pe_fldK K (pv 0) rfl) (pa_cons (pe_fldK K (pv 0) rfl) (pa_cons (pe_fldK K (pv 0) rfl) (pa_cons (pe_fldK K (pv 0) rfl) pa_nil)))))))
      pss_nil)
      (pss_one (ps_ret (pe_tup (pa_cons (pe_fldK K (pv 0) rfl) (pa_cons (pe_fldK K (pv 0) rfl) (pa_cons (pe_fldK K (pv 0) rfl) (pa_cons (pe_fldK K (pv 0) rfl) pa_nil)))))))))), ?_⟩
  rcases five h5 with rfl | rfl | rfl | rfl | rfl
  · walk_at "go"
    refine c_fldv hx T.cl_Drop T.na_Drop_kind rfl ?_
    walk_at "go"
    refine c_newT (by decide) fun p1 H1 n1 s1 e1 => ?_
    refine c_inT e1 rfl rfl ?_
    walk_at "go"
    have hx1 := s1 _ _ hx
    refine iteY (by decide +kernel) ?_
    walk_at "go"
    refine c_fldv hx1 T.cl_Drop T.na_Drop_kind rfl ?_
    walk_at "go"
    refine c_fldv hx1 T.cl_Drop T.na_Drop_row rfl ?_
    walk_at "go"
    refine c_newT (by simp) fun p2 H2 n2 s2 e2 => ?_
    exact k H2 p2 (s1.trans s2) ⟨r, s2 _ _ (s1 _ _ hr1), e2⟩
  · walk_at "go"
    refine c_fldv hx T.cl_Add T.na_Add_kind rfl ?_
    walk_at "go"
    refine c_newT (by decide) fun p1 H1 n1 s1 e1 => ?_
    refine c_inT e1 rfl rfl ?_
    walk_at "go"
    have hx1 := s1 _ _ hx
    refine iteY (by decide +kernel) ?_
    walk_at "go"
    refine c_fldv hx1 T.cl_Add T.na_Add_kind rfl ?_
    walk_at "go"
    refine c_fldv hx1 T.cl_Add T.na_Add_row rfl ?_
    walk_at "go"
    refine c_newT (by simp) fun p2 H2 n2 s2 e2 => ?_
    exact k H2 p2 (s1.trans s2) ⟨r, s2 _ _ (s1 _ _ hr1), e2⟩
  · walk_at "go"
    refine c_fldv hx T.cl_Change T.na_Change_kind rfl ?_
    walk_at "go"
    refine c_newT (by decide) fun p1 H1 n1 s1 e1 => ?_
    refine c_inT e1 rfl rfl ?_
    walk_at "go"
    have hx1 := s1 _ _ hx
    refine iteN (by decide +kernel) ?_
    walk_at "go"
    refine c_fldv hx1 T.cl_Change T.na_Change_kind rfl ?_
    walk_at "go"
    refine iteN (by decide +kernel) ?_
    walk_at "go"
    refine c_fldv hx1 T.cl_Change T.na_Change_kind rfl ?_
    walk_at "go"
    refine iteY (by decide +kernel) ?_
    walk_at "go"
    refine c_fldv hx1 T.cl_Change T.na_Change_kind rfl ?_
    walk_at "go"
    refine c_fldv hx1 T.cl_Change T.na_Change_row rfl ?_
    walk_at "go"
    refine c_fldv hx1 T.cl_Change T.na_Change_name rfl ?_
    walk_at "go"
    refine c_fldv hx1 T.cl_Change T.na_Change_value rfl ?_
    walk_at "go"
    refine c_newT (by simp) fun p2 H2 n2 s2 e2 => ?_
    exact k H2 p2 (s1.trans s2) ⟨r, s2 _ _ (s1 _ _ hr1), e2⟩
  · walk_at "go"
    refine c_fldv hx T.cl_Total T.na_Total_kind rfl ?_
    walk_at "go"
    refine c_newT (by decide) fun p1 H1 n1 s1 e1 => ?_
    refine c_inT e1 rfl rfl ?_
    walk_at "go"
    have hx1 := s1 _ _ hx
    refine iteN (by decide +kernel) ?_
    walk_at "go"
    refine c_fldv hx1 T.cl_Total T.na_Total_kind rfl ?_
    walk_at "go"
    refine iteN (by decide +kernel) ?_
    walk_at "go"
    refine c_fldv hx1 T.cl_Total T.na_Total_kind rfl ?_
    walk_at "go"
    refine iteN (by decide +kernel) ?_
    walk_at "go"
    refine c_fldv hx1 T.cl_Total T.na_Total_kind rfl ?_
    walk_at "go"
    refine c_fldv hx1 T.cl_Total T.na_Total_group rfl ?_
    walk_at "go"
    refine c_fldv hx1 T.cl_Total T.na_Total_name rfl ?_
    walk_at "go"
    refine c_fldv hx1 T.cl_Total T.na_Total_value rfl ?_
    walk_at "go"
    refine c_newT (by simp) fun p2 H2 n2 s2 e2 => ?_
    exact k H2 p2 (s1.trans s2) ⟨r, s2 _ _ (s1 _ _ hr1), e2⟩
  · walk_at "go"
    refine c_fldv hx T.cl_Clear T.na_Clear_kind rfl ?_
    walk_at "go"
    refine c_newT (by decide) fun p1 H1 n1 s1 e1 => ?_
    refine c_inT e1 rfl rfl ?_
    walk_at "go"
    have hx1 := s1 _ _ hx
    refine iteN (by decide +kernel) ?_
    walk_at "go"
    refine c_fldv hx1 T.cl_Clear T.na_Clear_kind rfl ?_
    walk_at "go"
    refine iteY (by decide +kernel) ?_
    walk_at "go"
    refine c_fldv hx1 T.cl_Clear T.na_Clear_kind rfl ?_
    walk_at "go"
    refine c_fldv hx1 T.cl_Clear T.na_Clear_group rfl ?_
    walk_at "go"
    refine c_newT (by simp) fun p2 H2 n2 s2 e2 => ?_
    exact k H2 p2 (s1.trans s2) ⟨r, s2 _ _ (s1 _ _ hr1), e2⟩
/-! ### == of two writes -/
def rEqW (a : Ad) : R2 := fun x y H Q => ∃ (p q : Addr) (d e : Wd), x = .ref p ∧ y = .ref q ∧ d.k < 5 ∧ e.k < 5 ∧ Made a H p d ∧ Made a H q e ∧ Q (.bl (sameW d e)) H
theorem op_eqW {X : Cx} (T : Txt X.K X.mg a) (hc : X.calm = true) (hr : Room 1 X.A) : OpR X (compareOp .Eq) (rEqW a) := by
  intro pins s σ H x y v u Q I rx ry h
  obtain ⟨p, q, d, e, rfl, rfl, hd, he, mp, mq, k⟩ := h
  obtain ⟨dx, r, hr1, hp⟩ := id mp
  obtain ⟨dy, r', hr2, hq⟩ := id mq
  have ty : TyX X.K H (.ref q) (.ref (cls a e.k)) := tyI hq (cl_cls T he).1 (cl_cls T he).2
  rcases five hd with z | z | z | z | z
  · rw [z] at hp
    exact op_ownEq T.eq_Drop T.fe_Drop (ok_eq_Drop (P := X.prog) (w := X.w) (base := X.base) T) hr pass0 pins s σ H (.ref p) (.ref q) v u Q I rx ry ⟨p, dx, _, _, rfl, hp, ty, nf_Drop T he, p, q, d, e, rfl, z, he, mp, mq, k⟩
  · rw [z] at hp
    exact op_ownEq T.eq_Add T.fe_Add (ok_eq_Add (P := X.prog) (w := X.w) (base := X.base) T) hr pass0 pins s σ H (.ref p) (.ref q) v u Q I rx ry ⟨p, dx, _, _, rfl, hp, ty, nf_Add T he, p, q, d, e, rfl, z, he, mp, mq, k⟩
  · rw [z] at hp
    exact op_ownEq T.eq_Change T.fe_Change (ok_eq_Change (P := X.prog) (w := X.w) (base := X.base) T) hr pass0 pins s σ H (.ref p) (.ref q) v u Q I rx ry ⟨p, dx, _, _, rfl, hp, ty, nf_Change T he, p, q, d, e, rfl, z, he, mp, mq, k⟩
  · rw [z] at hp
    exact op_ownEq T.eq_Total T.fe_Total (ok_eq_Total (P := X.prog) (w := X.w) (base := X.base) T) hr pass0 pins s σ H (.ref p) (.ref q) v u Q I rx ry ⟨p, dx, _, _, rfl, hp, ty, nf_Total T he, p, q, d, e, rfl, z, he, mp, mq, k⟩
  · rw [z] at hp
    exact op_ownEq T.eq_Clear T.fe_Clear (ok_eq_Clear (P := X.prog) (w := X.w) (base := X.base) T) hr pass0 pins s σ H (.ref p) (.ref q) v u Q I rx ry ⟨p, dx, _, _, rfl, hp, ty, nf_Clear T he, p, q, d, e, rfl, z, he, mp, mq, k⟩
/-! ### data of what was told -/
def dat (d : Wd) : PyData := if long d.k = true then .tuple [.str (kn d.k), .tuple (d.row.map PyData.int), .str d.nm, .int d.v] else .tuple [.str (kn d.k), .tuple (d.row.map PyData.int)]
theorem dp_told {H : Hp} {p : Addr} {d : Wd} (h : Told H p d) : Dp K H (.ref p) (dat d) := by
  obtain ⟨r, hr, hp⟩ := h
  unfold dat
  unfold toldV at hp
  by_cases hl : long d.k = true
  · rw [if_pos hl] at hp ⊢
    exact .tup (SqT.of hp) (.cons (.str _) (.cons (dp_tupI hr) (.cons (.str _) (.cons (.int _) .nil))))
  · rw [if_neg hl] at hp ⊢
    exact .tup (SqT.of hp) (.cons (.str _) (.cons (dp_tupI hr) .nil))
theorem shaped_dat {d : Wd} (h : d.Ok) : SeqAt.shaped (dat d) = true := by
  have h1 : PyData.canLay0 (.str (kn d.k)) = true := by rcases five h.k with z | z | z | z | z <;> rw [z] <;> decide +kernel
  have h2 : PyData.canLay0 (.str d.nm) = true := by rcases h.nm with z | z <;> rw [z] <;> decide +kernel
  have h3 : PyData.canLay0 (.tuple (d.row.map PyData.int)) = true := by rw [PyData.canLay0]; exact canLay_ints _
  have h4 : PyData.depth (.tuple (d.row.map PyData.int)) = 1 := by rw [PyData.depth, depth_ints]
  unfold dat
  by_cases hl : long d.k = true
  · rw [if_pos hl]
    unfold SeqAt.shaped
    rw [PyData.canLay0, PyData.depth]
    simp only [PyData.canLayAll0, PyData.depthAll, h1, h2, h3, h4]
    simp [PyData.canLay0, PyData.depth]
  · rw [if_neg hl]
    unfold SeqAt.shaped
    rw [PyData.canLay0, PyData.depth]
    simp only [PyData.canLayAll0, PyData.depthAll, h1, h3, h4]
    simp [PyData.canLay0, PyData.depth]
theorem kn_inj {j k : Nat} (hj : j < 5) (hk : k < 5) : (kn j == kn k) = (j == k) := by
  rcases five hj with rfl | rfl | rfl | rfl | rfl <;> rcases five hk with rfl | rfl | rfl | rfl | rfl <;> decide +kernel
theorem eqv_dat {d e : Wd} (hd : d.k < 5) (he : e.k < 5) : PyData.eqv (dat d) (dat e) = sameW d e := by
  unfold dat sameW
  by_cases hl : long d.k = true
  · rw [if_pos hl]
    by_cases hm : long e.k = true
    · rw [if_pos hm, PyData.eqv]
      simp only [PyData.eqvAll, eqv_tupI]
      simp only [PyData.eqv, kn_inj hd he, hl]
      by_cases h1 : d.nm = e.nm <;> by_cases h2 : d.v = e.v <;> simp [h1, h2]
    · rw [if_neg hm, PyData.eqv]
      have h0 : (d.k == e.k) = false := beq_eq_false_iff_ne.mpr (fun z => hm (by rw [← z]; exact hl))
      simp only [PyData.eqvAll, PyData.eqv, kn_inj hd he, h0, Bool.false_and]
  · rw [if_neg hl]
    by_cases hm : long e.k = true
    · rw [if_pos hm, PyData.eqv]
      have h0 : (d.k == e.k) = false := beq_eq_false_iff_ne.mpr (fun z => hl (by rw [z]; exact hm))
      simp only [PyData.eqvAll, PyData.eqv, kn_inj hd he, h0, Bool.false_and]
    · rw [if_neg hm, PyData.eqv]
      simp only [PyData.eqvAll, eqv_tupI]
      have hl' : long d.k = false := by simpa using hl
      simp only [PyData.eqv, kn_inj hd he, hl']
      simp
theorem sameW_refl (d : Wd) : sameW d d = true := by simp [sameW]
/-! ### the law -/
theorem Told.of {H H' : Hp} {t : Addr} {d : Wd} (s : Same H H') (h : Told H t d) : Told H' t d := by
  obtain ⟨r, h1, h2⟩ := h
  exact ⟨r, s _ _ h1, s _ _ h2⟩
theorem Made.of {H H' : Hp} {t : Addr} {d : Wd} (s : Same H H') (h : Made a H t d) : Made a H' t d := by
  obtain ⟨dx, r, h1, h2⟩ := h
  exact ⟨dx, r, s _ _ h1, s _ _ h2⟩
theorem Told.but {H H' : Hp} {st l t : Addr} {b : Int} {d : Wd} (s : But st l H H') (D : DrSt H st l b) (h : Told H t d) : Told H' t d := by
  obtain ⟨r, h1, h2⟩ := h
  exact ⟨r, s.keep D h1 (by intro _ q; cases q), s.keep D h2 (by intro _ q; cases q)⟩
theorem Made.but {H H' : Hp} {st l t : Addr} {b : Int} {d : Wd} (s : But st l H H') (D : DrSt H st l b) (h : Made a H t d) : Made a H' t d := by
  obtain ⟨dx, r, h1, h2⟩ := h
  exact ⟨dx, r, s.keep D h1 (by intro _ q; cases q), s.keep D h2 (by intro _ q; cases q)⟩
/-- one list changes -/
theorem Told.at {H H' : Hp} {p t : Addr} {xs : List V} {d : Wd} (hp : H p = some (.lst xs)) (e : ∀ b, b ≠ p → H' b = H b) (h : Told H t d) : Told H' t d := by
  obtain ⟨r, h1, h2⟩ := h
  exact ⟨r, by rw [e r (ne_of h1 hp (by intro q; cases q))]; exact h1, by rw [e t (ne_of h2 hp (by intro q; cases q))]; exact h2⟩
theorem Made.at {H H' : Hp} {p t : Addr} {xs : List V} {d : Wd} (hp : H p = some (.lst xs)) (e : ∀ b, b ≠ p → H' b = H b) (h : Made a H t d) : Made a H' t d := by
  obtain ⟨dx, r, h1, h2⟩ := h
  exact ⟨dx, r, by rw [e r (ne_of h1 hp (by intro q; cases q))]; exact h1, by rw [e t (ne_of h2 hp (by intro q; cases q))]; exact h2⟩
theorem DrSt.at {H H' : Hp} {st l p : Addr} {b : Int} (D : DrSt H st l b) (n1 : p ≠ st) (n2 : p ≠ l) (e : ∀ c, c ≠ p → H' c = H c) : DrSt H' st l b := by
  obtain ⟨n, ns, a1, a2, a3, a4, h1, h2⟩ := D
  exact ⟨n, ns, a1, a2, a3, a4, by rw [e st n1.symm]; exact h1, by rw [e l n2.symm]; exact h2⟩
/-- the lists of the law -/
structure Good (a : Ad) (H : Hp) (st l ps pm : Addr) (b : Int) (ts xs : List Addr) (ds : List Wd) : Prop where
  dr : DrSt H st l b
  hs : H ps = some (.lst (ts.map V.ref))
  hm : H pm = some (.lst (xs.map V.ref))
  n1 : ps ≠ st
  n2 : ps ≠ l
  n3 : pm ≠ st
  n4 : pm ≠ l
  n5 : ps ≠ pm
  lt : ts.length = ds.length
  lx : xs.length = ds.length
  ok : ∀ (j : Nat) (t : Addr) (d : Wd), ts[j]? = some t → ds[j]? = some d → d.Ok ∧ Told H t d
  md : ∀ (j : Nat) (x : Addr) (d : Wd), xs[j]? = some x → ds[j]? = some d → Made a H x d
theorem Good.but {H H' : Hp} {st l ps pm : Addr} {b c : Int} {ts xs : List Addr} {ds : List Wd} (g : Good a H st l ps pm b ts xs ds) (s : But st l H H') (D : DrSt H' st l c) : Good a H' st l ps pm c ts xs ds :=
  ⟨D, s _ _ g.n1 g.n2 g.hs, s _ _ g.n3 g.n4 g.hm, g.n1, g.n2, g.n3, g.n4, g.n5, g.lt, g.lx, fun j t d h1 h2 => ⟨(g.ok j t d h1 h2).1, (g.ok j t d h1 h2).2.but s g.dr⟩, fun j x d h1 h2 => (g.md j x d h1 h2).but s g.dr⟩
theorem Good.of {H H' : Hp} {st l ps pm : Addr} {b : Int} {ts xs : List Addr} {ds : List Wd} (g : Good a H st l ps pm b ts xs ds) (s : Same H H') : Good a H' st l ps pm b ts xs ds :=
  g.but (But.of s) (g.dr.same s)
theorem get_snoc {α : Type} {xs : List α} {x y : α} {j : Nat} (h : (xs ++ [x])[j]? = some y) : xs[j]? = some y ∨ (j = xs.length ∧ y = x) := by
  by_cases hj : j < xs.length
  · rw [List.getElem?_append_left hj] at h
    exact .inl h
  · by_cases e : j = xs.length
    · subst e
      rw [List.getElem?_append_right (Nat.le_refl _)] at h
      simp at h
      exact .inr ⟨rfl, h.symm⟩
    · rw [List.getElem?_eq_none (by simp; omega)] at h
      cases h
theorem get_lt {α : Type} {xs : List α} {y : α} {j : Nat} (h : xs[j]? = some y) : j < xs.length := (List.getElem?_eq_some_iff.mp h).1
/-- a told one and its write come to the lists -/
theorem Good.more {H H1 H2 : Hp} {st l ps pm t x : Addr} {b : Int} {ts xs : List Addr} {ds : List Wd} {d : Wd} (g : Good a H st l ps pm b ts xs ds) (hd : d.Ok) (ht : Told H t d) (hx : Made a H x d)
    (e1 : ∀ c, c ≠ ps → H1 c = H c) (h1 : H1 ps = some (.lst (ts.map V.ref ++ [.ref t]))) (e2 : ∀ c, c ≠ pm → H2 c = H1 c) (h2 : H2 pm = some (.lst (xs.map V.ref ++ [.ref x]))) : Good a H2 st l ps pm b (ts ++ [t]) (xs ++ [x]) (ds ++ [d]) := by
  have hm1 : H1 pm = some (.lst (xs.map V.ref)) := by rw [e1 pm g.n5.symm]; exact g.hm
  refine ⟨(g.dr.at g.n1 g.n2 e1).at g.n3 g.n4 e2, by rw [e2 ps g.n5, h1, List.map_append]; rfl, by rw [h2, List.map_append]; rfl, g.n1, g.n2, g.n3, g.n4, g.n5, by rw [List.length_append, List.length_append, g.lt]; rfl, by rw [List.length_append, List.length_append, g.lx]; rfl, fun j t' d' q1 q2 => ?_, fun j x' d' q1 q2 => ?_⟩
  · have key : d'.Ok ∧ Told H t' d' := by
      rcases get_snoc q1 with q1 | ⟨j1, rfl⟩
      · rcases get_snoc q2 with q2 | ⟨j2, _⟩
        · exact g.ok j t' d' q1 q2
        · have := get_lt q1
          rw [g.lt] at this
          omega
      · rcases get_snoc q2 with q2 | ⟨_, rfl⟩
        · have := get_lt q2
          rw [← g.lt] at this
          omega
        · exact ⟨hd, ht⟩
    exact ⟨key.1, Told.at hm1 e2 (Told.at g.hs e1 key.2)⟩
  · have key : Made a H x' d' := by
      rcases get_snoc q1 with q1 | ⟨j1, rfl⟩
      · rcases get_snoc q2 with q2 | ⟨j2, _⟩
        · exact g.md j x' d' q1 q2
        · have := get_lt q1
          rw [g.lx] at this
          omega
      · rcases get_snoc q2 with q2 | ⟨_, rfl⟩
        · have := get_lt q2
          rw [← g.lx] at this
          omega
        · exact hx
    exact Made.at hm1 e2 (Made.at g.hs e1 key)
def sp_law (K : PySem.W.Frag) : Sp := fun vs H Q _ => ∃ (c : Addr) (ns : List Int), vs = [.ref c] ∧ SqL K H c (ns.map V.int) ∧ ns.length ≤ 63 ∧ ∀ H', Q (.bl true) H'
theorem ok_law {f : Addr} {fd : FuncData} (F : Fun K "law" "law" s_law f fd) (T : Txt K mg a) : FnOk P w K mg base CX0 6 f fd ["_law_script"] (sp_law K) := by
  have G_draw : FnR P w K mg base CX0 1 a.draw sp_draw := ok_draw T
  have G_told : FnR P w K mg base CX0 2 a.told sp_told := ok_told T
  have G_made : FnR P w K mg base CX0 4 a.made (sp_made a) := ok_made T
  have G_arguments : FnR P w K mg base CX0 1 a.arguments (sp_args a) := ok_args T
  refine F.ok sc_law (by rintro _ _ _ _ ⟨_, _, rfl, _⟩; rfl) (fun cdv A outer s H vs Q E hr h => ?_)
  obtain ⟨c, ns, rfl, hS, hlen, k⟩ := h
  refine ⟨_, (pss_cons (ps_set (i := 1) sc_law.nd rfl (Or.inl rfl) (pe_lst (pa_cons (pe_orTK K (pe_callTy (cr_listK K) (by rfl) T.n_list (by decide +kernel) (pa_cons (pv 0) pa_nil)) (pe_one (pe_lst (pa_cons (pe_int) pa_nil)))) (pa_cons (pe_int) pa_nil))))
      (pss_cons (ps_set (i := 2) sc_law.nd rfl (Or.inl rfl) (pe_lst pa_nil))
      (pss_cons (ps_set (i := 3) sc_law.nd rfl (Or.inl rfl) (pe_lst pa_nil))
      (pss_cons (ps_for PassesOwn.never rfl (pi_range1 (by rfl) T.n_range (pa_cons (pe_op op_add (pe_int) (pe_cR G_draw (hr.mono (by decide)) (by rfl) T.g_draw T.D_draw.kp pass0 (pa_cons (pv 1) (pa_cons (pe_int) pa_nil)))) pa_nil)) (pg_name (i := 4) sc_law.nd rfl (Or.inl rfl))
      (pss_cons (ps_set (i := 5) sc_law.nd rfl (Or.inl rfl) (pe_cR G_told (hr.mono (by decide)) (by rfl) T.g_told T.D_told.kp pass0 (pa_cons (pv 1) pa_nil)))
      (Evl.pss_cut (ps_if (PW.pt (pw_and (pt_truthK K (pv 2) (by intro _; rfl)) (pw_and1 (pt_cmpR op_eq (pe_cR G_draw (hr.mono (by decide)) (by rfl) T.g_draw T.D_draw.kp pass0 (pa_cons (pv 1) (pa_cons (pe_int) pa_nil))) (pe_int) (nomark _)))))
      (pss_one (ps_set (i := 5) sc_law.nd rfl (Or.inl rfl) (pe_ix (ix_listK K) (pv 2) (pe_cR G_draw (hr.mono (by decide)) (by rfl) T.g_draw T.D_draw.kp pass0 (pa_cons (pv 1) (pa_cons (pe_callB (cr_lenK K) (by rfl) T.n_len (by decide +kernel) (pa_cons (pv 2) pa_nil)) pa_nil))) (fun _ _ => rfl))))
      pss_nil)
      (pss_cons (ps_set (i := 6) sc_law.nd rfl (Or.inl rfl) (pe_cR G_made (hr.mono (by decide)) (by rfl) T.g_made T.D_made.kp pass0 (pa_cons (pv 5) (pa_cons (pe_callTy (cr_tupleK K) (by rfl) T.n_tuple (by decide +kernel) (pa_cons (pe_callTy (cr_listK K) (by rfl) T.n_list (by decide +kernel) (pa_cons (pe_ix (ix_tupK K) (pv 5) (pe_int) (fun _ _ => rfl)) pa_nil)) pa_nil)) pa_nil))))
      (pss_cons (ps_expr (pe_bmK K PySem.F.plainAttrs_list PySem.F.slot_list_append PySem.F.type_list_append mt_append (pv 2) (pa_cons (pv 5) pa_nil)))
      (pss_cons (ps_expr (pe_bmK K PySem.F.plainAttrs_list PySem.F.slot_list_append PySem.F.type_list_append mt_append (pv 3) (pa_cons (pv 6) pa_nil)))
      (pss_cons (ps_set (i := 7) sc_law.nd rfl (Or.inl rfl) (pe_cR G_made (hr.mono (by decide)) (by rfl) T.g_made T.D_made.kp pass0 (pa_cons (pv 5) (pa_cons (pe_ix (ix_tupK K) (pv 5) (pe_int) (fun _ _ => rfl)) pa_nil))))
      (pss_one (ps_if (PW.pt (pw_or (pt_not (pt_val (pe_callB (cr_isiK K) (by rfl) T.n_isinstance (by decide +kernel) (pa_cons (pv 6) (pa_cons (pe_glob (v := .ref a.CWrite) (by rfl) T.g_Write rfl) pa_nil))))) (pw_or1 (pt_not (pt_cmpR (op_eqW T rfl (hr.mono (by decide))) (pv 7) (pv 6) (nomark _))))))
      (pss_one (ps_ret (pe_bl)))
      pss_nil)))))))))
      (pss_cons (ps_for PassesOwn.never rfl (pi_range1 (by rfl) T.n_range (pa_cons (pe_callB (cr_lenK K) (by rfl) T.n_len (by decide +kernel) (pa_cons (pv 2) pa_nil)) pa_nil)) (pg_name (i := 8) sc_law.nd rfl (Or.inl rfl))
      (pss_cons (ps_set (i := 9) sc_law.nd rfl (Or.inl rfl) (pe_cR G_arguments (hr.mono (by decide)) (by rfl) T.g_arguments T.D_arguments.kp pass0 (pa_cons (pe_ix (ix_listK K) (pv 3) (pv 8) (fun _ _ => rfl)) pa_nil)))
      (pss_cons (ps_if (PW.pt (pw_or (pt_cmpR (op_neDK K hr.units) (pv 9) (pe_ix (ix_listK K) (pv 2) (pv 8) (fun _ _ => rfl)) (nomark _)) (pw_or1 (pt_not (pt_val (pe_callB (cr_isiK K) (by rfl) T.n_isinstance (by decide +kernel) (pa_cons (pe_ix (ix_tupK K) (pv 9) (pe_int) (fun _ _ => rfl)) (pa_cons (pe_bltn (v := .ty "tuple") (by rfl) T.n_tuple (by decide +kernel) rfl) pa_nil))))))))
      (pss_one (ps_ret (pe_bl)))
      pss_nil)
      (pss_one (ps_for PassesOwn.never rfl (pi_range1 (by rfl) T.n_range (pa_cons (pe_callB (cr_lenK K) (by rfl) T.n_len (by decide +kernel) (pa_cons (pv 2) pa_nil)) pa_nil)) (pg_name (i := 10) sc_law.nd rfl (Or.inl rfl))
      (pss_one (ps_if (pt_cmpR op_ne (pe_callTy cr_bool (by rfl) T.n_bool (by decide +kernel) (pa_cons (pe_cmpR (op_eqW T rfl (hr.mono (by decide))) (pe_ix (ix_listK K) (pv 3) (pv 8) (fun _ _ => rfl)) (pe_ix (ix_listK K) (pv 3) (pv 10) (fun _ _ => rfl)) (nomark _)) pa_nil)) (pe_cmpR (op_eqDK K hr.units) (pe_ix (ix_listK K) (pv 2) (pv 8) (fun _ _ => rfl)) (pe_ix (ix_listK K) (pv 2) (pv 10) (fun _ _ => rfl)) (nomark _)) (nomark _))
      (pss_one (ps_ret (pe_bl)))
      pss_nil)))))))
      (pss_one (ps_ret (pe_bl)))))))), ?_⟩
  walk_at "go"
  refine c_listL hS fun l0 H1 n1 s1 e1 => ?_
  refine c_orT1 e1 fun l H2 ys s2 e2 hys => ?_
  obtain ⟨ms, rfl, hm0, hm1⟩ : ∃ ms : List Int, ys = ms.map V.int ∧ ms ≠ [] ∧ ms.length ≤ 100 := by
    rcases hys with ⟨rfl, hn⟩ | ⟨_, rfl⟩
    · exact ⟨ns, rfl, fun q => hn (by rw [q]; rfl), by omega⟩
    · exact ⟨[0], rfl, by decide, by decide⟩
  walk_at "go"
  refine c_newL (by simp) fun st H3 n3 s3 e3 => ?_
  walk_at "go"
  refine c_newL (by simp) fun ps H4 n4 s4 e4 => ?_
  walk_at "go"
  refine c_newL (by simp) fun pm H5 n5 s5 e5 => ?_
  walk_at "go"
  have D3 : DrSt H3 st l 0 := ⟨0, ms, by decide, by decide, hm0, hm1, e3, s3 _ _ e2⟩
  have G5 : Good a H5 st l ps pm 0 [] [] [] :=
    ⟨(D3.same s4).same s5, s5 _ _ e4, e5, (D3.new n4).1, (D3.new n4).2, ((D3.same s4).new n5).1, ((D3.same s4).new n5).2, ne_of_none e4 n5, rfl, rfl, fun j t d h _ => (by simp at h), fun j x d h _ => (by simp at h)⟩
  refine ⟨st, l, 7, 0, rfl, by decide, by decide, by decide, G5.dr, fun H6 r6 t6 D6 r60 r61 => ?_⟩
  walk_at "go"
  have G6 := G5.but t6 D6
  refine c_forR1 (by omega) (by omega) ⟨fun i σ H' => ∃ (ts xs : List Addr) (ds : List Wd) (v4 v5 v6 v7 v8 v9 v10 : Option V), σ = [some (.ref c), some (.ref st), some (.ref ps), some (.ref pm), v4, v5, v6, v7, v8, v9, v10] ∧ Good a H' st l ps pm (1 + 20 * i) ts xs ds ∧ ds.length = i, ?_⟩
  refine ⟨⟨[], [], [], _, _, _, _, _, _, _, rfl, by simpa using G6, rfl⟩, fun _ _ _ _ => trivial, ?_, ?_⟩
  · rintro i x σ H7 hi ⟨ts, xs, ds, v4, v5, v6, v7, v8, v9, v10, rfl, G7, hds⟩
    obtain ⟨hi, rfl⟩ := intsV_get hi
    walk_at "go"
    refine ⟨st, l, _, rfl, by omega, G7.dr, fun H8 p8 d8 t8 D8 ok8 told8 => ?_⟩
    walk_at "go"
    have G8 := G7.but t8 D8
    refine c_cut (fun σ' H' => ∃ (t : Addr) (d : Wd), σ' = [some (.ref c), some (.ref st), some (.ref ps), some (.ref pm), some (.int (0 + (i : Int))), some (.ref t), v6, v7, v8, v9, v10] ∧ d.Ok ∧ Told H' t d ∧ Good a H' st l ps pm (1 + 20 * i + 14) ts xs ds) ?_ ?_
    · have G8' : Good a H8 st l ps pm (1 + 20 * i + 14) ts xs ds := G8.but (But.of (Same.refl _)) (G8.dr.mono (by omega))
      walk_at "go"
      refine c_truL G8.hs ?_
      refine iteB (fun hne => ?_) (fun _ => ?_)
      · walk_at "go"
        refine ⟨st, l, 3, _, rfl, by decide, by decide, by omega, G8.dr, fun H9 r9 t9 D9 r90 r91 => ?_⟩
        have G9 := G8.but t9 D9
        walk_at "go"
        refine iteB (fun _ => ?_) (fun _ => ?_)
        · have hl0 : 0 < ts.length := by
            cases ts with
            | nil => simp at hne
            | cons _ _ => simp
          have hl9 : ts.length ≤ 9 := by rw [G7.lt]; omega
          walk_at "go"
          refine c_lenL G9.hs ?_
          walk_at "go"
          rw [List.length_map]
          refine ⟨st, l, _, _, rfl, by omega, by omega, by omega, G9.dr, fun Ha ra ta Da ra0 ra1 => ?_⟩
          have Ga := G9.but ta Da
          obtain ⟨t, et, _, et'⟩ := atI_map (f := V.ref) ra0 ra1
          refine c_ixL Ga.hs et ?_
          obtain ⟨j, _, hj, hj1, _⟩ := atI_get et'
          obtain ⟨d, hd⟩ : ∃ d, ds[j]? = some d := ⟨_, List.getElem?_eq_getElem (by rw [← Ga.lt]; exact hj1)⟩
          obtain ⟨hd1, hd2⟩ := Ga.ok j t d hj hd
          exact ⟨t, d, rfl, hd1, hd2, Ga.but (But.of (Same.refl _)) (Ga.dr.mono (by omega))⟩
        · walk_at "go"
          exact ⟨p8, d8, rfl, ok8, told8.but t9 G8.dr, G9.but (But.of (Same.refl _)) (G9.dr.mono (by omega))⟩
      · walk_at "go"
        exact ⟨p8, d8, rfl, ok8, told8, G8'⟩
    · rintro σ' H9 ⟨t, d, rfl, hd, ht, G9⟩
      obtain ⟨r, hr1, ht1⟩ := id ht
      have at1 : atI (toldV d r) 1 = some (.ref r) := by
        unfold toldV
        by_cases hl : long d.k = true
        · rw [if_pos hl]; rfl
        · rw [if_neg hl]; rfl
      walk_at "go"
      refine c_ixT ht1 at1 ?_
      walk_at "go"
      refine c_listT (SqT.of hr1) fun pa Ha na sa ea => ?_
      walk_at "go"
      refine c_tupL (SqL.of ea) fun pb Hb nb sb eb => ?_
      walk_at "go"
      have sab := sa.trans sb
      refine ⟨t, pb, d, rfl, hd, ht.of sab, eb, fun Hc x sc nx mx => ?_⟩
      have sc9 := sab.trans sc
      have Gc := G9.of sc9
      walk_at "go"
      refine c_bmL Gc.hs ?_
      walk_at "go"
      refine c_append Gc.hs (by rw [List.length_map, Gc.lt]; omega) fun Hd ed hd1 => ?_
      walk_at "go"
      have hmd : Hd pm = some (.lst (xs.map V.ref)) := by rw [ed pm Gc.n5.symm]; exact Gc.hm
      refine c_bmL hmd ?_
      walk_at "go"
      refine c_append hmd (by rw [List.length_map, Gc.lx]; omega) fun He ee he1 => ?_
      have Ge := Gc.more hd (ht.of sc9) mx ed hd1 ee he1
      have mxe : Made a He x d := Made.at hmd ee (Made.at Gc.hs ed mx)
      have hte : Told He t d := Told.at hmd ee (Told.at Gc.hs ed (ht.of sc9))
      obtain ⟨re, hre, hte1⟩ := id hte
      have at2 : atI (toldV d re) 1 = some (.ref re) := by
        unfold toldV
        by_cases hl : long d.k = true
        · rw [if_pos hl]; rfl
        · rw [if_neg hl]; rfl
      walk_at "go"
      refine c_ixT hte1 at2 ?_
      walk_at "go"
      refine ⟨t, re, d, rfl, hd, hte, hre, fun Hf y sf ny my => ?_⟩
      have Gf := Ge.of sf
      have mxf := mxe.of sf
      walk_at "go"
      obtain ⟨dx, rx, _, hxf⟩ := id mxf
      refine c_isi (.own _) (tyI hxf (cl_cls T hd.k).1 (cl_cls T hd.k).2) (kit_Write T hd.k) ?_
      walk_at "go"
      refine iteN rfl ?_
      walk_at "go"
      refine ⟨y, x, d, d, rfl, rfl, hd.k, hd.k, my, mxf, ?_⟩
      rw [sameW_refl]
      walk_at "go"
      refine iteN rfl ?_
      walk_at "go"
      exact ⟨_, _, _, _, _, _, _, _, _, _, rfl, Gf.but (But.of (Same.refl _)) (Gf.dr.mono (by omega)), by rw [List.length_append, hds]; rfl⟩
  · rintro σ H7 ⟨ts, xs, ds, v4, v5, v6, v7, v8, v9, v10, rfl, G7, hds⟩
    rw [intsV_len] at hds
    have hn9 : ds.length ≤ 9 := by omega
    walk_at "go"
    refine c_lenL G7.hs ?_
    walk_at "go"
    rw [List.length_map, G7.lt]
    refine c_forR1 (by omega) (by omega) ⟨fun i σ H' => ∃ (v8 v9 v10 : Option V), σ = [some (.ref c), some (.ref st), some (.ref ps), some (.ref pm), v4, v5, v6, v7, v8, v9, v10] ∧ Same H7 H', ?_⟩
    refine ⟨⟨_, _, _, rfl, Same.refl _⟩, fun _ _ _ _ => trivial, ?_, ?_⟩
    · rintro i y σ H8 hi ⟨v8, v9, v10, rfl, s8⟩
      obtain ⟨hi, rfl⟩ := intsV_get hi
      have G8 := G7.of s8
      have hi' : i < ds.length := by omega
      have e0 : (0 : Int) + (i : Int) = (i : Int) := by omega
      rw [e0]
      obtain ⟨d, hd⟩ : ∃ d, ds[i]? = some d := ⟨_, List.getElem?_eq_getElem hi'⟩
      obtain ⟨x, hx⟩ : ∃ x, xs[i]? = some x := ⟨_, List.getElem?_eq_getElem (by rw [G8.lx]; exact hi')⟩
      obtain ⟨t, ht⟩ : ∃ t, ts[i]? = some t := ⟨_, List.getElem?_eq_getElem (by rw [G8.lt]; exact hi')⟩
      have atx : atI (xs.map V.ref) (i : Int) = some (.ref x) := atI_nat (by rw [List.getElem?_map, hx]; rfl)
      have att : atI (ts.map V.ref) (i : Int) = some (.ref t) := atI_nat (by rw [List.getElem?_map, ht]; rfl)
      obtain ⟨dok, dt⟩ := G8.ok i t d ht hd
      have dm := G8.md i x d hx hd
      walk_at "go"
      refine c_ixL G8.hm atx ?_
      walk_at "go"
      refine ⟨x, d, rfl, dok, dm, fun H9 p s9 tp => ?_⟩
      have G9 := G8.of s9
      walk_at "go"
      refine c_ixL G9.hs att ?_
      refine c_neD (dp_told tp) (dp_told (dt.of s9)) (shaped_dat dok) (shaped_dat dok) ?_
      rw [eqv_dat dok.k dok.k, sameW_refl]
      walk_at "go"
      refine iteN rfl ?_
      obtain ⟨r, hr1, hp1⟩ := id tp
      have at1 : atI (toldV d r) 1 = some (.ref r) := by
        unfold toldV
        by_cases hl : long d.k = true
        · rw [if_pos hl]; rfl
        · rw [if_neg hl]; rfl
      walk_at "go"
      refine c_ixT hp1 at1 ?_
      walk_at "go"
      refine c_isi (.ty "tuple") (.base (.tup hr1)) (kit_ty (r := true) (by decide +kernel)) ?_
      walk_at "go"
      refine iteN rfl ?_
      walk_at "go"
      refine c_lenL G9.hs ?_
      walk_at "go"
      rw [List.length_map, G7.lt]
      refine c_forR1 (by omega) (by omega) ⟨fun j σ H' => ∃ (v10 : Option V), σ = [some (.ref c), some (.ref st), some (.ref ps), some (.ref pm), v4, v5, v6, v7, some (.int (i : Int)), some (.ref p), v10] ∧ H' = H9, ?_⟩
      refine ⟨⟨_, rfl, rfl⟩, fun _ _ _ _ => trivial, ?_, ?_⟩
      · rintro j y σ H' hj ⟨v10, rfl, rfl⟩
        obtain ⟨hj, rfl⟩ := intsV_get hj
        have hj' : j < ds.length := by omega
        have e1 : (0 : Int) + (j : Int) = (j : Int) := by omega
        rw [e1]
        obtain ⟨d', hd'⟩ : ∃ d, ds[j]? = some d := ⟨_, List.getElem?_eq_getElem hj'⟩
        obtain ⟨x', hx'⟩ : ∃ x, xs[j]? = some x := ⟨_, List.getElem?_eq_getElem (by rw [G9.lx]; exact hj')⟩
        obtain ⟨t', ht'⟩ : ∃ t, ts[j]? = some t := ⟨_, List.getElem?_eq_getElem (by rw [G9.lt]; exact hj')⟩
        have atx' : atI (xs.map V.ref) (j : Int) = some (.ref x') := atI_nat (by rw [List.getElem?_map, hx']; rfl)
        have att' : atI (ts.map V.ref) (j : Int) = some (.ref t') := atI_nat (by rw [List.getElem?_map, ht']; rfl)
        obtain ⟨dok', dt'⟩ := G9.ok j t' d' ht' hd'
        have dm' := G9.md j x' d' hx' hd'
        walk_at "go"
        refine c_ixL G9.hm atx ?_
        walk_at "go"
        refine c_ixL G9.hm atx' ?_
        refine ⟨x, x', d, d', rfl, rfl, dok.k, dok'.k, dm.of s9, dm', ?_⟩
        walk_at "go"
        refine c_ixL G9.hs att ?_
        walk_at "go"
        refine c_ixL G9.hs att' ?_
        refine c_eqD (dp_told (dt.of s9)) (dp_told dt') (shaped_dat dok) (shaped_dat dok') ?_
        rw [eqv_dat dok.k dok'.k]
        walk_at "go"
        refine iteN (by simp) ?_
        walk_at "go"
        exact ⟨_, rfl, rfl⟩
      · rintro σ H' ⟨v10, rfl, rfl⟩
        exact ⟨_, _, _, rfl, s8.trans s9⟩
    · rintro σ H8 ⟨v8, v9, v10, rfl, s8⟩
      walk_at "go"
      exact k _
end
theorem all_mk {P : Program} {w : World} {K : PySem.W.Frag} {h : Heap} {mg : Str → Option Value} {fa : Addr} (X : K.In h) (G : h.Ns mainGlobals mg) (hfa : mg "law" = some (.ref fa))
    {f_Write_init f_Drop_init f_Drop_eq f_Add_init f_Add_eq f_Change_init f_Change_eq f_Total_init f_Total_eq f_Clear_init f_Clear_eq f_draw f_told f_made f_arguments f_law C_Write C_Drop C_Add C_Change C_Total C_Clear : Addr}
    {od_Write_init an_Write_init : Option Addr} {sl_Write_init : Array (Option Value)} {oc_Write_init kV_Write_init dc_Write_init pm_Write_init cd_Write_init ct_Write_init : Value}
    {od_Drop_init an_Drop_init : Option Addr} {sl_Drop_init : Array (Option Value)} {oc_Drop_init kV_Drop_init dc_Drop_init pm_Drop_init cd_Drop_init ct_Drop_init : Value}
    {od_Drop_eq an_Drop_eq : Option Addr} {sl_Drop_eq : Array (Option Value)} {oc_Drop_eq kV_Drop_eq dc_Drop_eq pm_Drop_eq cd_Drop_eq ct_Drop_eq : Value}
    {od_Add_init an_Add_init : Option Addr} {sl_Add_init : Array (Option Value)} {oc_Add_init kV_Add_init dc_Add_init pm_Add_init cd_Add_init ct_Add_init : Value}
    {od_Add_eq an_Add_eq : Option Addr} {sl_Add_eq : Array (Option Value)} {oc_Add_eq kV_Add_eq dc_Add_eq pm_Add_eq cd_Add_eq ct_Add_eq : Value}
    {od_Change_init an_Change_init : Option Addr} {sl_Change_init : Array (Option Value)} {oc_Change_init kV_Change_init dc_Change_init pm_Change_init cd_Change_init ct_Change_init : Value}
    {od_Change_eq an_Change_eq : Option Addr} {sl_Change_eq : Array (Option Value)} {oc_Change_eq kV_Change_eq dc_Change_eq pm_Change_eq cd_Change_eq ct_Change_eq : Value}
    {od_Total_init an_Total_init : Option Addr} {sl_Total_init : Array (Option Value)} {oc_Total_init kV_Total_init dc_Total_init pm_Total_init cd_Total_init ct_Total_init : Value}
    {od_Total_eq an_Total_eq : Option Addr} {sl_Total_eq : Array (Option Value)} {oc_Total_eq kV_Total_eq dc_Total_eq pm_Total_eq cd_Total_eq ct_Total_eq : Value}
    {od_Clear_init an_Clear_init : Option Addr} {sl_Clear_init : Array (Option Value)} {oc_Clear_init kV_Clear_init dc_Clear_init pm_Clear_init cd_Clear_init ct_Clear_init : Value}
    {od_Clear_eq an_Clear_eq : Option Addr} {sl_Clear_eq : Array (Option Value)} {oc_Clear_eq kV_Clear_eq dc_Clear_eq pm_Clear_eq cd_Clear_eq ct_Clear_eq : Value}
    {od_draw an_draw : Option Addr} {sl_draw : Array (Option Value)} {oc_draw kV_draw dc_draw pm_draw cd_draw ct_draw : Value}
    {od_told an_told : Option Addr} {sl_told : Array (Option Value)} {oc_told kV_told dc_told pm_told cd_told ct_told : Value}
    {od_made an_made : Option Addr} {sl_made : Array (Option Value)} {oc_made kV_made dc_made pm_made cd_made ct_made : Value}
    {od_arguments an_arguments : Option Addr} {sl_arguments : Array (Option Value)} {oc_arguments kV_arguments dc_arguments pm_arguments cd_arguments ct_arguments : Value}
    {od_law an_law : Option Addr} {sl_law : Array (Option Value)} {oc_law kV_law dc_law pm_law cd_law ct_law : Value}
    (aC_Write : PySem.W.nsIn K mainGlobals "Write" = some (some (.ref C_Write)))
    (aC_Drop : PySem.W.nsIn K mainGlobals "Drop" = some (some (.ref C_Drop)))
    (aC_Add : PySem.W.nsIn K mainGlobals "Add" = some (some (.ref C_Add)))
    (aC_Change : PySem.W.nsIn K mainGlobals "Change" = some (some (.ref C_Change)))
    (aC_Total : PySem.W.nsIn K mainGlobals "Total" = some (some (.ref C_Total)))
    (aC_Clear : PySem.W.nsIn K mainGlobals "Clear" = some (some (.ref C_Clear)))
    (a_Write_init : PySem.W.findIn K (.ref C_Write) "__init__" = some (some (.ref f_Write_init)))
    (i_Write_init : PySem.W.isFn K (.ref f_Write_init) = true)
    (l_Write_init : K.lookup f_Write_init = some ⟨oc_Write_init, od_Write_init, .func (PySem.W.fnOf "__init__" "Write.__init__" (defArgs s_Write_init) (defBody s_Write_init) (defScope s_Write_init) .none kV_Write_init dc_Write_init pm_Write_init an_Write_init cd_Write_init ct_Write_init), sl_Write_init⟩)
    (c_Write_init : PySem.W.codeIn K cd_Write_init "Write.__init__" = true)
    (k_Write_init : PySem.W.keepIn K (.ref f_Write_init) = true)
    (a_Drop_init : PySem.W.findIn K (.ref C_Drop) "__init__" = some (some (.ref f_Drop_init)))
    (i_Drop_init : PySem.W.isFn K (.ref f_Drop_init) = true)
    (l_Drop_init : K.lookup f_Drop_init = some ⟨oc_Drop_init, od_Drop_init, .func (PySem.W.fnOf "__init__" "Drop.__init__" (defArgs s_Drop_init) (defBody s_Drop_init) (defScope s_Drop_init) .none kV_Drop_init dc_Drop_init pm_Drop_init an_Drop_init cd_Drop_init ct_Drop_init), sl_Drop_init⟩)
    (c_Drop_init : PySem.W.codeIn K cd_Drop_init "Drop.__init__" = true)
    (k_Drop_init : PySem.W.keepIn K (.ref f_Drop_init) = true)
    (a_Drop_eq : PySem.W.findIn K (.ref C_Drop) "__eq__" = some (some (.ref f_Drop_eq)))
    (i_Drop_eq : PySem.W.isFn K (.ref f_Drop_eq) = true)
    (l_Drop_eq : K.lookup f_Drop_eq = some ⟨oc_Drop_eq, od_Drop_eq, .func (PySem.W.fnOf "__eq__" "Drop.__eq__" (defArgs s_Drop_eq) (defBody s_Drop_eq) (defScope s_Drop_eq) .none kV_Drop_eq dc_Drop_eq pm_Drop_eq an_Drop_eq cd_Drop_eq ct_Drop_eq), sl_Drop_eq⟩)
    (c_Drop_eq : PySem.W.codeIn K cd_Drop_eq "Drop.__eq__" = true)
    (k_Drop_eq : PySem.W.keepIn K (.ref f_Drop_eq) = true)
    (a_Add_init : PySem.W.findIn K (.ref C_Add) "__init__" = some (some (.ref f_Add_init)))
    (i_Add_init : PySem.W.isFn K (.ref f_Add_init) = true)
    (l_Add_init : K.lookup f_Add_init = some ⟨oc_Add_init, od_Add_init, .func (PySem.W.fnOf "__init__" "Add.__init__" (defArgs s_Add_init) (defBody s_Add_init) (defScope s_Add_init) .none kV_Add_init dc_Add_init pm_Add_init an_Add_init cd_Add_init ct_Add_init), sl_Add_init⟩)
    (c_Add_init : PySem.W.codeIn K cd_Add_init "Add.__init__" = true)
    (k_Add_init : PySem.W.keepIn K (.ref f_Add_init) = true)
    (a_Add_eq : PySem.W.findIn K (.ref C_Add) "__eq__" = some (some (.ref f_Add_eq)))
    (i_Add_eq : PySem.W.isFn K (.ref f_Add_eq) = true)
    (l_Add_eq : K.lookup f_Add_eq = some ⟨oc_Add_eq, od_Add_eq, .func (PySem.W.fnOf "__eq__" "Add.__eq__" (defArgs s_Add_eq) (defBody s_Add_eq) (defScope s_Add_eq) .none kV_Add_eq dc_Add_eq pm_Add_eq an_Add_eq cd_Add_eq ct_Add_eq), sl_Add_eq⟩)
    (c_Add_eq : PySem.W.codeIn K cd_Add_eq "Add.__eq__" = true)
    (k_Add_eq : PySem.W.keepIn K (.ref f_Add_eq) = true)
    (a_Change_init : PySem.W.findIn K (.ref C_Change) "__init__" = some (some (.ref f_Change_init)))
    (i_Change_init : PySem.W.isFn K (.ref f_Change_init) = true)
    (l_Change_init : K.lookup f_Change_init = some ⟨oc_Change_init, od_Change_init, .func (PySem.W.fnOf "__init__" "Change.__init__" (defArgs s_Change_init) (defBody s_Change_init) (defScope s_Change_init) .none kV_Change_init dc_Change_init pm_Change_init an_Change_init cd_Change_init ct_Change_init), sl_Change_init⟩)
    (c_Change_init : PySem.W.codeIn K cd_Change_init "Change.__init__" = true)
    (k_Change_init : PySem.W.keepIn K (.ref f_Change_init) = true)
    (a_Change_eq : PySem.W.findIn K (.ref C_Change) "__eq__" = some (some (.ref f_Change_eq)))
    (i_Change_eq : PySem.W.isFn K (.ref f_Change_eq) = true)
    (l_Change_eq : K.lookup f_Change_eq = some ⟨oc_Change_eq, od_Change_eq, .func (PySem.W.fnOf "__eq__" "Change.__eq__" (defArgs s_Change_eq) (defBody s_Change_eq) (defScope s_Change_eq) .none kV_Change_eq dc_Change_eq pm_Change_eq an_Change_eq cd_Change_eq ct_Change_eq), sl_Change_eq⟩)
    (c_Change_eq : PySem.W.codeIn K cd_Change_eq "Change.__eq__" = true)
    (k_Change_eq : PySem.W.keepIn K (.ref f_Change_eq) = true)
    (a_Total_init : PySem.W.findIn K (.ref C_Total) "__init__" = some (some (.ref f_Total_init)))
    (i_Total_init : PySem.W.isFn K (.ref f_Total_init) = true)
    (l_Total_init : K.lookup f_Total_init = some ⟨oc_Total_init, od_Total_init, .func (PySem.W.fnOf "__init__" "Total.__init__" (defArgs s_Total_init) (defBody s_Total_init) (defScope s_Total_init) .none kV_Total_init dc_Total_init pm_Total_init an_Total_init cd_Total_init ct_Total_init), sl_Total_init⟩)
    (c_Total_init : PySem.W.codeIn K cd_Total_init "Total.__init__" = true)
    (k_Total_init : PySem.W.keepIn K (.ref f_Total_init) = true)
    (a_Total_eq : PySem.W.findIn K (.ref C_Total) "__eq__" = some (some (.ref f_Total_eq)))
    (i_Total_eq : PySem.W.isFn K (.ref f_Total_eq) = true)
    (l_Total_eq : K.lookup f_Total_eq = some ⟨oc_Total_eq, od_Total_eq, .func (PySem.W.fnOf "__eq__" "Total.__eq__" (defArgs s_Total_eq) (defBody s_Total_eq) (defScope s_Total_eq) .none kV_Total_eq dc_Total_eq pm_Total_eq an_Total_eq cd_Total_eq ct_Total_eq), sl_Total_eq⟩)
    (c_Total_eq : PySem.W.codeIn K cd_Total_eq "Total.__eq__" = true)
    (k_Total_eq : PySem.W.keepIn K (.ref f_Total_eq) = true)
    (a_Clear_init : PySem.W.findIn K (.ref C_Clear) "__init__" = some (some (.ref f_Clear_init)))
    (i_Clear_init : PySem.W.isFn K (.ref f_Clear_init) = true)
    (l_Clear_init : K.lookup f_Clear_init = some ⟨oc_Clear_init, od_Clear_init, .func (PySem.W.fnOf "__init__" "Clear.__init__" (defArgs s_Clear_init) (defBody s_Clear_init) (defScope s_Clear_init) .none kV_Clear_init dc_Clear_init pm_Clear_init an_Clear_init cd_Clear_init ct_Clear_init), sl_Clear_init⟩)
    (c_Clear_init : PySem.W.codeIn K cd_Clear_init "Clear.__init__" = true)
    (k_Clear_init : PySem.W.keepIn K (.ref f_Clear_init) = true)
    (a_Clear_eq : PySem.W.findIn K (.ref C_Clear) "__eq__" = some (some (.ref f_Clear_eq)))
    (i_Clear_eq : PySem.W.isFn K (.ref f_Clear_eq) = true)
    (l_Clear_eq : K.lookup f_Clear_eq = some ⟨oc_Clear_eq, od_Clear_eq, .func (PySem.W.fnOf "__eq__" "Clear.__eq__" (defArgs s_Clear_eq) (defBody s_Clear_eq) (defScope s_Clear_eq) .none kV_Clear_eq dc_Clear_eq pm_Clear_eq an_Clear_eq cd_Clear_eq ct_Clear_eq), sl_Clear_eq⟩)
    (c_Clear_eq : PySem.W.codeIn K cd_Clear_eq "Clear.__eq__" = true)
    (k_Clear_eq : PySem.W.keepIn K (.ref f_Clear_eq) = true)
    (a_draw : PySem.W.nsIn K mainGlobals "_law_draw" = some (some (.ref f_draw)))
    (l_draw : K.lookup f_draw = some ⟨oc_draw, od_draw, .func (PySem.W.fnOf "_law_draw" "_law_draw" (defArgs s_draw) (defBody s_draw) (defScope s_draw) .none kV_draw dc_draw pm_draw an_draw cd_draw ct_draw), sl_draw⟩)
    (c_draw : PySem.W.codeIn K cd_draw "_law_draw" = true)
    (k_draw : PySem.W.keepIn K (.ref f_draw) = true)
    (a_told : PySem.W.nsIn K mainGlobals "_law_told" = some (some (.ref f_told)))
    (l_told : K.lookup f_told = some ⟨oc_told, od_told, .func (PySem.W.fnOf "_law_told" "_law_told" (defArgs s_told) (defBody s_told) (defScope s_told) .none kV_told dc_told pm_told an_told cd_told ct_told), sl_told⟩)
    (c_told : PySem.W.codeIn K cd_told "_law_told" = true)
    (k_told : PySem.W.keepIn K (.ref f_told) = true)
    (a_made : PySem.W.nsIn K mainGlobals "_law_made" = some (some (.ref f_made)))
    (l_made : K.lookup f_made = some ⟨oc_made, od_made, .func (PySem.W.fnOf "_law_made" "_law_made" (defArgs s_made) (defBody s_made) (defScope s_made) .none kV_made dc_made pm_made an_made cd_made ct_made), sl_made⟩)
    (c_made : PySem.W.codeIn K cd_made "_law_made" = true)
    (k_made : PySem.W.keepIn K (.ref f_made) = true)
    (a_arguments : PySem.W.nsIn K mainGlobals "_law_arguments" = some (some (.ref f_arguments)))
    (l_arguments : K.lookup f_arguments = some ⟨oc_arguments, od_arguments, .func (PySem.W.fnOf "_law_arguments" "_law_arguments" (defArgs s_arguments) (defBody s_arguments) (defScope s_arguments) .none kV_arguments dc_arguments pm_arguments an_arguments cd_arguments ct_arguments), sl_arguments⟩)
    (c_arguments : PySem.W.codeIn K cd_arguments "_law_arguments" = true)
    (k_arguments : PySem.W.keepIn K (.ref f_arguments) = true)
    (a_law : PySem.W.nsIn K mainGlobals "law" = some (some (.ref f_law)))
    (l_law : K.lookup f_law = some ⟨oc_law, od_law, .func (PySem.W.fnOf "law" "law" (defArgs s_law) (defBody s_law) (defScope s_law) .none kV_law dc_law pm_law an_law cd_law ct_law), sl_law⟩)
    (c_law : PySem.W.codeIn K cd_law "law" = true)
    (k_law : PySem.W.keepIn K (.ref f_law) = true)
    (pg_Write : PySem.W.plainGet K C_Write Str.empty = true)
    (hd_Write : PySem.W.hasDictIn K C_Write = true)
    (po_Write : PySem.W.plainOver K C_Write = true)
    (sa_Write : PySem.W.findIn K (.ref C_Write) "__setattr__" = some (some (.builtin "object.__setattr__")))
    (ca_Write : PySem.W.findIn K (.ref C_Write) "__class__" = some (some (.builtin "object.__class__")))
    (cn_Write : PySem.W.specialIn K (.builtin "object.__class__") "__get__" = some (some (.builtin "getset_descriptor.__get__")))
    (ct_Write : PySem.W.takesIn K (.builtin "object.__class__") = some true)
    (cm_Write : PySem.W.mroIn K C_Write (.type "object") = some true)
    (rd_c_Write_init : PySem.W.readsIn K C_Write (.type "type") = true)
    (gt_c_Write_init : PySem.W.specialIn K (.ref C_Write) "__getattribute__" = some (some (.builtin "type.__getattribute__")))
    (fc_c_Write_init : PySem.W.findCls K (.ref C_Write) (.type "type") "__init__" = some (.val (.ref f_Write_init)))
    (pg_Drop : PySem.W.plainGet K C_Drop Str.empty = true)
    (hd_Drop : PySem.W.hasDictIn K C_Drop = true)
    (po_Drop : PySem.W.plainOver K C_Drop = true)
    (sa_Drop : PySem.W.findIn K (.ref C_Drop) "__setattr__" = some (some (.builtin "object.__setattr__")))
    (ca_Drop : PySem.W.findIn K (.ref C_Drop) "__class__" = some (some (.builtin "object.__class__")))
    (cn_Drop : PySem.W.specialIn K (.builtin "object.__class__") "__get__" = some (some (.builtin "getset_descriptor.__get__")))
    (ct_Drop : PySem.W.takesIn K (.builtin "object.__class__") = some true)
    (cm_Drop : PySem.W.mroIn K C_Drop (.type "object") = some true)
    (mk_Drop : PySem.W.makesIn K C_Drop = true)
    (kc_Drop : PySem.W.keepIn K (.ref C_Drop) = true)
    (na_Drop_kind : PySem.W.findIn K (.ref C_Drop) "kind" = some none)
    (na_Drop_row : PySem.W.findIn K (.ref C_Drop) "row" = some none)
    (is_Drop_Write : PySem.W.kitOne K (.ref C_Drop) (.ref C_Write) = some true)
    (is_Drop_Drop : PySem.W.kitOne K (.ref C_Drop) (.ref C_Drop) = some true)
    (is_Drop_Add : PySem.W.kitOne K (.ref C_Drop) (.ref C_Add) = some false)
    (is_Drop_Change : PySem.W.kitOne K (.ref C_Drop) (.ref C_Change) = some false)
    (is_Drop_Total : PySem.W.kitOne K (.ref C_Drop) (.ref C_Total) = some false)
    (is_Drop_Clear : PySem.W.kitOne K (.ref C_Drop) (.ref C_Clear) = some false)
    (nf_Drop_Drop : PySem.W.notFirst K C_Drop (.ref C_Drop) = true)
    (nf_Drop_Add : PySem.W.notFirst K C_Drop (.ref C_Add) = true)
    (nf_Drop_Change : PySem.W.notFirst K C_Drop (.ref C_Change) = true)
    (nf_Drop_Total : PySem.W.notFirst K C_Drop (.ref C_Total) = true)
    (nf_Drop_Clear : PySem.W.notFirst K C_Drop (.ref C_Clear) = true)
    (pg_Add : PySem.W.plainGet K C_Add Str.empty = true)
    (hd_Add : PySem.W.hasDictIn K C_Add = true)
    (po_Add : PySem.W.plainOver K C_Add = true)
    (sa_Add : PySem.W.findIn K (.ref C_Add) "__setattr__" = some (some (.builtin "object.__setattr__")))
    (ca_Add : PySem.W.findIn K (.ref C_Add) "__class__" = some (some (.builtin "object.__class__")))
    (cn_Add : PySem.W.specialIn K (.builtin "object.__class__") "__get__" = some (some (.builtin "getset_descriptor.__get__")))
    (ct_Add : PySem.W.takesIn K (.builtin "object.__class__") = some true)
    (cm_Add : PySem.W.mroIn K C_Add (.type "object") = some true)
    (mk_Add : PySem.W.makesIn K C_Add = true)
    (kc_Add : PySem.W.keepIn K (.ref C_Add) = true)
    (na_Add_kind : PySem.W.findIn K (.ref C_Add) "kind" = some none)
    (na_Add_row : PySem.W.findIn K (.ref C_Add) "row" = some none)
    (is_Add_Write : PySem.W.kitOne K (.ref C_Add) (.ref C_Write) = some true)
    (is_Add_Drop : PySem.W.kitOne K (.ref C_Add) (.ref C_Drop) = some false)
    (is_Add_Add : PySem.W.kitOne K (.ref C_Add) (.ref C_Add) = some true)
    (is_Add_Change : PySem.W.kitOne K (.ref C_Add) (.ref C_Change) = some false)
    (is_Add_Total : PySem.W.kitOne K (.ref C_Add) (.ref C_Total) = some false)
    (is_Add_Clear : PySem.W.kitOne K (.ref C_Add) (.ref C_Clear) = some false)
    (nf_Add_Drop : PySem.W.notFirst K C_Add (.ref C_Drop) = true)
    (nf_Add_Add : PySem.W.notFirst K C_Add (.ref C_Add) = true)
    (nf_Add_Change : PySem.W.notFirst K C_Add (.ref C_Change) = true)
    (nf_Add_Total : PySem.W.notFirst K C_Add (.ref C_Total) = true)
    (nf_Add_Clear : PySem.W.notFirst K C_Add (.ref C_Clear) = true)
    (pg_Change : PySem.W.plainGet K C_Change Str.empty = true)
    (hd_Change : PySem.W.hasDictIn K C_Change = true)
    (po_Change : PySem.W.plainOver K C_Change = true)
    (sa_Change : PySem.W.findIn K (.ref C_Change) "__setattr__" = some (some (.builtin "object.__setattr__")))
    (ca_Change : PySem.W.findIn K (.ref C_Change) "__class__" = some (some (.builtin "object.__class__")))
    (cn_Change : PySem.W.specialIn K (.builtin "object.__class__") "__get__" = some (some (.builtin "getset_descriptor.__get__")))
    (ct_Change : PySem.W.takesIn K (.builtin "object.__class__") = some true)
    (cm_Change : PySem.W.mroIn K C_Change (.type "object") = some true)
    (mk_Change : PySem.W.makesIn K C_Change = true)
    (kc_Change : PySem.W.keepIn K (.ref C_Change) = true)
    (na_Change_kind : PySem.W.findIn K (.ref C_Change) "kind" = some none)
    (na_Change_row : PySem.W.findIn K (.ref C_Change) "row" = some none)
    (na_Change_name : PySem.W.findIn K (.ref C_Change) "name" = some none)
    (na_Change_value : PySem.W.findIn K (.ref C_Change) "value" = some none)
    (is_Change_Write : PySem.W.kitOne K (.ref C_Change) (.ref C_Write) = some true)
    (is_Change_Drop : PySem.W.kitOne K (.ref C_Change) (.ref C_Drop) = some false)
    (is_Change_Add : PySem.W.kitOne K (.ref C_Change) (.ref C_Add) = some false)
    (is_Change_Change : PySem.W.kitOne K (.ref C_Change) (.ref C_Change) = some true)
    (is_Change_Total : PySem.W.kitOne K (.ref C_Change) (.ref C_Total) = some false)
    (is_Change_Clear : PySem.W.kitOne K (.ref C_Change) (.ref C_Clear) = some false)
    (nf_Change_Drop : PySem.W.notFirst K C_Change (.ref C_Drop) = true)
    (nf_Change_Add : PySem.W.notFirst K C_Change (.ref C_Add) = true)
    (nf_Change_Change : PySem.W.notFirst K C_Change (.ref C_Change) = true)
    (nf_Change_Total : PySem.W.notFirst K C_Change (.ref C_Total) = true)
    (nf_Change_Clear : PySem.W.notFirst K C_Change (.ref C_Clear) = true)
    (pg_Total : PySem.W.plainGet K C_Total Str.empty = true)
    (hd_Total : PySem.W.hasDictIn K C_Total = true)
    (po_Total : PySem.W.plainOver K C_Total = true)
    (sa_Total : PySem.W.findIn K (.ref C_Total) "__setattr__" = some (some (.builtin "object.__setattr__")))
    (ca_Total : PySem.W.findIn K (.ref C_Total) "__class__" = some (some (.builtin "object.__class__")))
    (cn_Total : PySem.W.specialIn K (.builtin "object.__class__") "__get__" = some (some (.builtin "getset_descriptor.__get__")))
    (ct_Total : PySem.W.takesIn K (.builtin "object.__class__") = some true)
    (cm_Total : PySem.W.mroIn K C_Total (.type "object") = some true)
    (mk_Total : PySem.W.makesIn K C_Total = true)
    (kc_Total : PySem.W.keepIn K (.ref C_Total) = true)
    (na_Total_kind : PySem.W.findIn K (.ref C_Total) "kind" = some none)
    (na_Total_group : PySem.W.findIn K (.ref C_Total) "group" = some none)
    (na_Total_name : PySem.W.findIn K (.ref C_Total) "name" = some none)
    (na_Total_value : PySem.W.findIn K (.ref C_Total) "value" = some none)
    (is_Total_Write : PySem.W.kitOne K (.ref C_Total) (.ref C_Write) = some true)
    (is_Total_Drop : PySem.W.kitOne K (.ref C_Total) (.ref C_Drop) = some false)
    (is_Total_Add : PySem.W.kitOne K (.ref C_Total) (.ref C_Add) = some false)
    (is_Total_Change : PySem.W.kitOne K (.ref C_Total) (.ref C_Change) = some false)
    (is_Total_Total : PySem.W.kitOne K (.ref C_Total) (.ref C_Total) = some true)
    (is_Total_Clear : PySem.W.kitOne K (.ref C_Total) (.ref C_Clear) = some false)
    (nf_Total_Drop : PySem.W.notFirst K C_Total (.ref C_Drop) = true)
    (nf_Total_Add : PySem.W.notFirst K C_Total (.ref C_Add) = true)
    (nf_Total_Change : PySem.W.notFirst K C_Total (.ref C_Change) = true)
    (nf_Total_Total : PySem.W.notFirst K C_Total (.ref C_Total) = true)
    (nf_Total_Clear : PySem.W.notFirst K C_Total (.ref C_Clear) = true)
    (pg_Clear : PySem.W.plainGet K C_Clear Str.empty = true)
    (hd_Clear : PySem.W.hasDictIn K C_Clear = true)
    (po_Clear : PySem.W.plainOver K C_Clear = true)
    (sa_Clear : PySem.W.findIn K (.ref C_Clear) "__setattr__" = some (some (.builtin "object.__setattr__")))
    (ca_Clear : PySem.W.findIn K (.ref C_Clear) "__class__" = some (some (.builtin "object.__class__")))
    (cn_Clear : PySem.W.specialIn K (.builtin "object.__class__") "__get__" = some (some (.builtin "getset_descriptor.__get__")))
    (ct_Clear : PySem.W.takesIn K (.builtin "object.__class__") = some true)
    (cm_Clear : PySem.W.mroIn K C_Clear (.type "object") = some true)
    (mk_Clear : PySem.W.makesIn K C_Clear = true)
    (kc_Clear : PySem.W.keepIn K (.ref C_Clear) = true)
    (na_Clear_kind : PySem.W.findIn K (.ref C_Clear) "kind" = some none)
    (na_Clear_group : PySem.W.findIn K (.ref C_Clear) "group" = some none)
    (is_Clear_Write : PySem.W.kitOne K (.ref C_Clear) (.ref C_Write) = some true)
    (is_Clear_Drop : PySem.W.kitOne K (.ref C_Clear) (.ref C_Drop) = some false)
    (is_Clear_Add : PySem.W.kitOne K (.ref C_Clear) (.ref C_Add) = some false)
    (is_Clear_Change : PySem.W.kitOne K (.ref C_Clear) (.ref C_Change) = some false)
    (is_Clear_Total : PySem.W.kitOne K (.ref C_Clear) (.ref C_Total) = some false)
    (is_Clear_Clear : PySem.W.kitOne K (.ref C_Clear) (.ref C_Clear) = some true)
    (nf_Clear_Drop : PySem.W.notFirst K C_Clear (.ref C_Drop) = true)
    (nf_Clear_Add : PySem.W.notFirst K C_Clear (.ref C_Add) = true)
    (nf_Clear_Change : PySem.W.notFirst K C_Clear (.ref C_Change) = true)
    (nf_Clear_Total : PySem.W.notFirst K C_Clear (.ref C_Total) = true)
    (nf_Clear_Clear : PySem.W.notFirst K C_Clear (.ref C_Clear) = true)
    (z_len : PySem.W.nsIn K mainGlobals "len" = some none)
    (z_int : PySem.W.nsIn K mainGlobals "int" = some none)
    (z_tuple : PySem.W.nsIn K mainGlobals "tuple" = some none)
    (z_list : PySem.W.nsIn K mainGlobals "list" = some none)
    (z_range : PySem.W.nsIn K mainGlobals "range" = some none)
    (z_isinstance : PySem.W.nsIn K mainGlobals "isinstance" = some none)
    (z_bool : PySem.W.nsIn K mainGlobals "bool" = some none) :
    ∃ fd : FuncData, (∀ (s : Shared) (v : Value), BindsTo s fd ⟨[v], []⟩ [("_law_script", v)]) ∧ ∀ base : Heap, K.In base → base.Ns mainGlobals mg → FnOk P w K mg base CX0 6 fa fd ["_law_script"] (sp_law K) := by
  have e := hfa.symm.trans (PySem.W.mg_of X G a_law)
  cases e
  have T : Txt K mg ⟨f_Write_init, f_Drop_init, f_Drop_eq, f_Add_init, f_Add_eq, f_Change_init, f_Change_eq, f_Total_init, f_Total_eq, f_Clear_init, f_Clear_eq, f_draw, f_told, f_made, f_arguments, fa, C_Write, C_Drop, C_Add, C_Change, C_Total, C_Clear⟩ := by
    constructor
    case D_Write_init => exact DefAt.mk' (st := s_Write_init) (ps := ["self", "kind"]) l_Write_init c_Write_init k_Write_init (fun _ _ _ _ _ _ us hl => match us, hl with | [_, _], _ => rfl)
    case D_Drop_init => exact DefAt.mk' (st := s_Drop_init) (ps := ["self", "row"]) l_Drop_init c_Drop_init k_Drop_init (fun _ _ _ _ _ _ us hl => match us, hl with | [_, _], _ => rfl)
    case D_Drop_eq => exact DefAt.mk' (st := s_Drop_eq) (ps := ["self", "other"]) l_Drop_eq c_Drop_eq k_Drop_eq (fun _ _ _ _ _ _ us hl => match us, hl with | [_, _], _ => rfl)
    case D_Add_init => exact DefAt.mk' (st := s_Add_init) (ps := ["self", "row"]) l_Add_init c_Add_init k_Add_init (fun _ _ _ _ _ _ us hl => match us, hl with | [_, _], _ => rfl)
    case D_Add_eq => exact DefAt.mk' (st := s_Add_eq) (ps := ["self", "other"]) l_Add_eq c_Add_eq k_Add_eq (fun _ _ _ _ _ _ us hl => match us, hl with | [_, _], _ => rfl)
    case D_Change_init => exact DefAt.mk' (st := s_Change_init) (ps := ["self", "row", "name", "value"]) l_Change_init c_Change_init k_Change_init (fun _ _ _ _ _ _ us hl => match us, hl with | [_, _, _, _], _ => rfl)
    case D_Change_eq => exact DefAt.mk' (st := s_Change_eq) (ps := ["self", "other"]) l_Change_eq c_Change_eq k_Change_eq (fun _ _ _ _ _ _ us hl => match us, hl with | [_, _], _ => rfl)
    case D_Total_init => exact DefAt.mk' (st := s_Total_init) (ps := ["self", "group", "name", "value"]) l_Total_init c_Total_init k_Total_init (fun _ _ _ _ _ _ us hl => match us, hl with | [_, _, _, _], _ => rfl)
    case D_Total_eq => exact DefAt.mk' (st := s_Total_eq) (ps := ["self", "other"]) l_Total_eq c_Total_eq k_Total_eq (fun _ _ _ _ _ _ us hl => match us, hl with | [_, _], _ => rfl)
    case D_Clear_init => exact DefAt.mk' (st := s_Clear_init) (ps := ["self", "group"]) l_Clear_init c_Clear_init k_Clear_init (fun _ _ _ _ _ _ us hl => match us, hl with | [_, _], _ => rfl)
    case D_Clear_eq => exact DefAt.mk' (st := s_Clear_eq) (ps := ["self", "other"]) l_Clear_eq c_Clear_eq k_Clear_eq (fun _ _ _ _ _ _ us hl => match us, hl with | [_, _], _ => rfl)
    case D_draw => exact DefAt.mk' (st := s_draw) (ps := ["_law_state", "_law_many"]) l_draw c_draw k_draw (fun _ _ _ _ _ _ us hl => match us, hl with | [_, _], _ => rfl)
    case g_draw => exact PySem.W.mg_of X G a_draw
    case D_told => exact DefAt.mk' (st := s_told) (ps := ["_law_state"]) l_told c_told k_told (fun _ _ _ _ _ _ us hl => match us, hl with | [_], _ => rfl)
    case g_told => exact PySem.W.mg_of X G a_told
    case D_made => exact DefAt.mk' (st := s_made) (ps := ["_law_told_here", "_law_given"]) l_made c_made k_made (fun _ _ _ _ _ _ us hl => match us, hl with | [_, _], _ => rfl)
    case g_made => exact PySem.W.mg_of X G a_made
    case D_arguments => exact DefAt.mk' (st := s_arguments) (ps := ["_law_write"]) l_arguments c_arguments k_arguments (fun _ _ _ _ _ _ us hl => match us, hl with | [_], _ => rfl)
    case g_arguments => exact PySem.W.mg_of X G a_arguments
    case D_law => exact DefAt.mk' (st := s_law) (ps := ["_law_script"]) l_law c_law k_law (fun _ _ _ _ _ _ us hl => match us, hl with | [_], _ => rfl)
    case g_law => exact PySem.W.mg_of X G a_law
    case g_Write => exact PySem.W.mg_of X G aC_Write
    case cl_Write => exact ⟨pg_Write, hd_Write, po_Write, sa_Write⟩
    case ty_Write => exact ⟨ca_Write, cn_Write, ct_Write, cm_Write⟩
    case c_Write_init => exact ⟨rd_c_Write_init, gt_c_Write_init, .inl fc_c_Write_init, k_Write_init⟩
    case g_Drop => exact PySem.W.mg_of X G aC_Drop
    case cl_Drop => exact ⟨pg_Drop, hd_Drop, po_Drop, sa_Drop⟩
    case ty_Drop => exact ⟨ca_Drop, cn_Drop, ct_Drop, cm_Drop⟩
    case M_Drop => exact ⟨mk_Drop, a_Drop_init, i_Drop_init, kc_Drop⟩
    case na_Drop_kind => exact na_Drop_kind
    case na_Drop_row => exact na_Drop_row
    case is_Drop_Write => exact is_Drop_Write
    case is_Drop_Drop => exact is_Drop_Drop
    case is_Drop_Add => exact is_Drop_Add
    case is_Drop_Change => exact is_Drop_Change
    case is_Drop_Total => exact is_Drop_Total
    case is_Drop_Clear => exact is_Drop_Clear
    case nf_Drop_Drop => exact nf_Drop_Drop
    case nf_Drop_Add => exact nf_Drop_Add
    case nf_Drop_Change => exact nf_Drop_Change
    case nf_Drop_Total => exact nf_Drop_Total
    case nf_Drop_Clear => exact nf_Drop_Clear
    case eq_Drop => exact a_Drop_eq
    case fe_Drop => exact i_Drop_eq
    case g_Add => exact PySem.W.mg_of X G aC_Add
    case cl_Add => exact ⟨pg_Add, hd_Add, po_Add, sa_Add⟩
    case ty_Add => exact ⟨ca_Add, cn_Add, ct_Add, cm_Add⟩
    case M_Add => exact ⟨mk_Add, a_Add_init, i_Add_init, kc_Add⟩
    case na_Add_kind => exact na_Add_kind
    case na_Add_row => exact na_Add_row
    case is_Add_Write => exact is_Add_Write
    case is_Add_Drop => exact is_Add_Drop
    case is_Add_Add => exact is_Add_Add
    case is_Add_Change => exact is_Add_Change
    case is_Add_Total => exact is_Add_Total
    case is_Add_Clear => exact is_Add_Clear
    case nf_Add_Drop => exact nf_Add_Drop
    case nf_Add_Add => exact nf_Add_Add
    case nf_Add_Change => exact nf_Add_Change
    case nf_Add_Total => exact nf_Add_Total
    case nf_Add_Clear => exact nf_Add_Clear
    case eq_Add => exact a_Add_eq
    case fe_Add => exact i_Add_eq
    case g_Change => exact PySem.W.mg_of X G aC_Change
    case cl_Change => exact ⟨pg_Change, hd_Change, po_Change, sa_Change⟩
    case ty_Change => exact ⟨ca_Change, cn_Change, ct_Change, cm_Change⟩
    case M_Change => exact ⟨mk_Change, a_Change_init, i_Change_init, kc_Change⟩
    case na_Change_kind => exact na_Change_kind
    case na_Change_row => exact na_Change_row
    case na_Change_name => exact na_Change_name
    case na_Change_value => exact na_Change_value
    case is_Change_Write => exact is_Change_Write
    case is_Change_Drop => exact is_Change_Drop
    case is_Change_Add => exact is_Change_Add
    case is_Change_Change => exact is_Change_Change
    case is_Change_Total => exact is_Change_Total
    case is_Change_Clear => exact is_Change_Clear
    case nf_Change_Drop => exact nf_Change_Drop
    case nf_Change_Add => exact nf_Change_Add
    case nf_Change_Change => exact nf_Change_Change
    case nf_Change_Total => exact nf_Change_Total
    case nf_Change_Clear => exact nf_Change_Clear
    case eq_Change => exact a_Change_eq
    case fe_Change => exact i_Change_eq
    case g_Total => exact PySem.W.mg_of X G aC_Total
    case cl_Total => exact ⟨pg_Total, hd_Total, po_Total, sa_Total⟩
    case ty_Total => exact ⟨ca_Total, cn_Total, ct_Total, cm_Total⟩
    case M_Total => exact ⟨mk_Total, a_Total_init, i_Total_init, kc_Total⟩
    case na_Total_kind => exact na_Total_kind
    case na_Total_group => exact na_Total_group
    case na_Total_name => exact na_Total_name
    case na_Total_value => exact na_Total_value
    case is_Total_Write => exact is_Total_Write
    case is_Total_Drop => exact is_Total_Drop
    case is_Total_Add => exact is_Total_Add
    case is_Total_Change => exact is_Total_Change
    case is_Total_Total => exact is_Total_Total
    case is_Total_Clear => exact is_Total_Clear
    case nf_Total_Drop => exact nf_Total_Drop
    case nf_Total_Add => exact nf_Total_Add
    case nf_Total_Change => exact nf_Total_Change
    case nf_Total_Total => exact nf_Total_Total
    case nf_Total_Clear => exact nf_Total_Clear
    case eq_Total => exact a_Total_eq
    case fe_Total => exact i_Total_eq
    case g_Clear => exact PySem.W.mg_of X G aC_Clear
    case cl_Clear => exact ⟨pg_Clear, hd_Clear, po_Clear, sa_Clear⟩
    case ty_Clear => exact ⟨ca_Clear, cn_Clear, ct_Clear, cm_Clear⟩
    case M_Clear => exact ⟨mk_Clear, a_Clear_init, i_Clear_init, kc_Clear⟩
    case na_Clear_kind => exact na_Clear_kind
    case na_Clear_group => exact na_Clear_group
    case is_Clear_Write => exact is_Clear_Write
    case is_Clear_Drop => exact is_Clear_Drop
    case is_Clear_Add => exact is_Clear_Add
    case is_Clear_Change => exact is_Clear_Change
    case is_Clear_Total => exact is_Clear_Total
    case is_Clear_Clear => exact is_Clear_Clear
    case nf_Clear_Drop => exact nf_Clear_Drop
    case nf_Clear_Add => exact nf_Clear_Add
    case nf_Clear_Change => exact nf_Clear_Change
    case nf_Clear_Total => exact nf_Clear_Total
    case nf_Clear_Clear => exact nf_Clear_Clear
    case eq_Clear => exact a_Clear_eq
    case fe_Clear => exact i_Clear_eq
    case n_len => exact PySem.W.mg_none_of X G z_len
    case n_int => exact PySem.W.mg_none_of X G z_int
    case n_tuple => exact PySem.W.mg_none_of X G z_tuple
    case n_list => exact PySem.W.mg_none_of X G z_list
    case n_range => exact PySem.W.mg_none_of X G z_range
    case n_isinstance => exact PySem.W.mg_none_of X G z_isinstance
    case n_bool => exact PySem.W.mg_none_of X G z_bool
  exact ⟨PySem.W.fnOf "law" "law" (defArgs s_law) (defBody s_law) (defScope s_law) .none kV_law dc_law pm_law an_law cd_law ct_law, fun s v => .of_eq rfl, fun base _ _ => ok_law (fun_mk (st := s_law) l_law c_law k_law) T⟩
theorem walk {l : PySem.W.OpenLaw} {q : Program} {loose : List Str} {XP : (Str → Option Value) → Heap → Prop} {YP : World → Heap → Prop} {d : DefRec} {K : Params → PySem.W.Frag} (hn : l.most = some 63) (hdf : d.params.defaults = [])
    (hY : ∀ (w : World) (h : Heap), YP w h → (K w.params).In h)
    (F : ∀ (w : World) (mg : Str → Option Value) (fa : Addr) (h : Heap), (K w.params).In h → h.Ns mainGlobals mg → mg d.name = some (.ref fa) →
      ∃ fd : FuncData, (∀ (s : Shared) (u : Value), BindsTo s fd ⟨[u], []⟩ [("_law_script", u)]) ∧ ∀ base : Heap, (K w.params).In base → base.Ns mainGlobals mg → FnOk l.prog w (K w.params) mg base CX0 6 fa fd ["_law_script"] (sp_law (K w.params))) :
    PySem.W.WalkO q loose XP YP l.row.toRowW d [] (fun f vs => PySem.call f vs) :=
  L2.walk_of (n := 63) (k := 6) (x := "_law_script") (CX := fun _ => CX0) (sp := fun w => sp_law (K w.params)) hn (by decide) hdf ⟨rfl, by decide, by decide⟩ hY F (fun _ _ a ns hl _ hS => ⟨a, ns, rfl, hS, hl, fun _ => rfl⟩) fun _ _ _ _ _ z => z
end K38
open PySem PySem.W PyProof.Rows in
set_option maxRecDepth 100000 in
set_option maxHeartbeats 0 in
theorem PySem.Challenge.cw_shownwrites_k38_writes_are_values_holds : PySem.Challenge.rw_shownwrites_k38_writes_are_values.Holds := by
  w_on; o_law; k_head; (case hw => w_witness2)
  k_fill
  refine K38.walk (l := PySem.Challenge.rw_shownwrites_k38_writes_are_values) rfl rfl (fun w h Y => PySem.W.kIn_of Y) ?F
  case F =>
    intro w mg fa h KX G hmg
    refine' K38.all_mk KX G hmg ?aC_Write ?aC_Drop ?aC_Add ?aC_Change ?aC_Total ?aC_Clear ?a_Write_init ?i_Write_init ?l_Write_init ?c_Write_init ?k_Write_init ?a_Drop_init ?i_Drop_init ?l_Drop_init ?c_Drop_init ?k_Drop_init ?a_Drop_eq ?i_Drop_eq ?l_Drop_eq ?c_Drop_eq ?k_Drop_eq ?a_Add_init ?i_Add_init ?l_Add_init ?c_Add_init ?k_Add_init ?a_Add_eq ?i_Add_eq ?l_Add_eq ?c_Add_eq ?k_Add_eq ?a_Change_init ?i_Change_init ?l_Change_init ?c_Change_init ?k_Change_init ?a_Change_eq ?i_Change_eq ?l_Change_eq ?c_Change_eq ?k_Change_eq ?a_Total_init ?i_Total_init ?l_Total_init ?c_Total_init ?k_Total_init ?a_Total_eq ?i_Total_eq ?l_Total_eq ?c_Total_eq ?k_Total_eq ?a_Clear_init ?i_Clear_init ?l_Clear_init ?c_Clear_init ?k_Clear_init ?a_Clear_eq ?i_Clear_eq ?l_Clear_eq ?c_Clear_eq ?k_Clear_eq ?a_draw ?l_draw ?c_draw ?k_draw ?a_told ?l_told ?c_told ?k_told ?a_made ?l_made ?c_made ?k_made ?a_arguments ?l_arguments ?c_arguments ?k_arguments ?a_law ?l_law ?c_law ?k_law ?pg_Write ?hd_Write ?po_Write ?sa_Write ?ca_Write ?cn_Write ?ct_Write ?cm_Write ?rd_c_Write_init ?gt_c_Write_init ?fc_c_Write_init ?pg_Drop ?hd_Drop ?po_Drop ?sa_Drop ?ca_Drop ?cn_Drop ?ct_Drop ?cm_Drop ?mk_Drop ?kc_Drop ?na_Drop_kind ?na_Drop_row ?is_Drop_Write ?is_Drop_Drop ?is_Drop_Add ?is_Drop_Change ?is_Drop_Total ?is_Drop_Clear ?nf_Drop_Drop ?nf_Drop_Add ?nf_Drop_Change ?nf_Drop_Total ?nf_Drop_Clear ?pg_Add ?hd_Add ?po_Add ?sa_Add ?ca_Add ?cn_Add ?ct_Add ?cm_Add ?mk_Add ?kc_Add ?na_Add_kind ?na_Add_row ?is_Add_Write ?is_Add_Drop ?is_Add_Add ?is_Add_Change ?is_Add_Total ?is_Add_Clear ?nf_Add_Drop ?nf_Add_Add ?nf_Add_Change ?nf_Add_Total ?nf_Add_Clear ?pg_Change ?hd_Change ?po_Change ?sa_Change ?ca_Change ?cn_Change ?ct_Change ?cm_Change ?mk_Change ?kc_Change ?na_Change_kind ?na_Change_row ?na_Change_name ?na_Change_value ?is_Change_Write ?is_Change_Drop ?is_Change_Add ?is_Change_Change ?is_Change_Total ?is_Change_Clear ?nf_Change_Drop ?nf_Change_Add ?nf_Change_Change ?nf_Change_Total ?nf_Change_Clear ?pg_Total ?hd_Total ?po_Total ?sa_Total ?ca_Total ?cn_Total ?ct_Total ?cm_Total ?mk_Total ?kc_Total ?na_Total_kind ?na_Total_group ?na_Total_name ?na_Total_value ?is_Total_Write ?is_Total_Drop ?is_Total_Add ?is_Total_Change ?is_Total_Total ?is_Total_Clear ?nf_Total_Drop ?nf_Total_Add ?nf_Total_Change ?nf_Total_Total ?nf_Total_Clear ?pg_Clear ?hd_Clear ?po_Clear ?sa_Clear ?ca_Clear ?cn_Clear ?ct_Clear ?cm_Clear ?mk_Clear ?kc_Clear ?na_Clear_kind ?na_Clear_group ?is_Clear_Write ?is_Clear_Drop ?is_Clear_Add ?is_Clear_Change ?is_Clear_Total ?is_Clear_Clear ?nf_Clear_Drop ?nf_Clear_Add ?nf_Clear_Change ?nf_Clear_Total ?nf_Clear_Clear ?z_len ?z_int ?z_tuple ?z_list ?z_range ?z_isinstance ?z_bool
    (case aC_Write => first | k_is | rfl)
    (case aC_Drop => first | k_is | rfl)
    (case aC_Add => first | k_is | rfl)
    (case aC_Change => first | k_is | rfl)
    (case aC_Total => first | k_is | rfl)
    (case aC_Clear => first | k_is | rfl)
    (case a_Write_init => first | k_is | rfl)
    (case i_Write_init => first | k_is | rfl)
    (case l_Write_init => first | k_is | rfl)
    (case c_Write_init => first | k_is | rfl)
    (case k_Write_init => first | k_is | rfl)
    (case a_Drop_init => first | k_is | rfl)
    (case i_Drop_init => first | k_is | rfl)
    (case l_Drop_init => first | k_is | rfl)
    (case c_Drop_init => first | k_is | rfl)
    (case k_Drop_init => first | k_is | rfl)
    (case a_Drop_eq => first | k_is | rfl)
    (case i_Drop_eq => first | k_is | rfl)
    (case l_Drop_eq => first | k_is | rfl)
    (case c_Drop_eq => first | k_is | rfl)
    (case k_Drop_eq => first | k_is | rfl)
    (case a_Add_init => first | k_is | rfl)
    (case i_Add_init => first | k_is | rfl)
    (case l_Add_init => first | k_is | rfl)
    (case c_Add_init => first | k_is | rfl)
    (case k_Add_init => first | k_is | rfl)
    (case a_Add_eq => first | k_is | rfl)
    (case i_Add_eq => first | k_is | rfl)
    (case l_Add_eq => first | k_is | rfl)
    (case c_Add_eq => first | k_is | rfl)
    (case k_Add_eq => first | k_is | rfl)
    (case a_Change_init => first | k_is | rfl)
    (case i_Change_init => first | k_is | rfl)
    (case l_Change_init => first | k_is | rfl)
    (case c_Change_init => first | k_is | rfl)
    (case k_Change_init => first | k_is | rfl)
    (case a_Change_eq => first | k_is | rfl)
    (case i_Change_eq => first | k_is | rfl)
    (case l_Change_eq => first | k_is | rfl)
    (case c_Change_eq => first | k_is | rfl)
    (case k_Change_eq => first | k_is | rfl)
    (case a_Total_init => first | k_is | rfl)
    (case i_Total_init => first | k_is | rfl)
    (case l_Total_init => first | k_is | rfl)
    (case c_Total_init => first | k_is | rfl)
    (case k_Total_init => first | k_is | rfl)
    (case a_Total_eq => first | k_is | rfl)
    (case i_Total_eq => first | k_is | rfl)
    (case l_Total_eq => first | k_is | rfl)
    (case c_Total_eq => first | k_is | rfl)
    (case k_Total_eq => first | k_is | rfl)
    (case a_Clear_init => first | k_is | rfl)
    (case i_Clear_init => first | k_is | rfl)
    (case l_Clear_init => first | k_is | rfl)
    (case c_Clear_init => first | k_is | rfl)
    (case k_Clear_init => first | k_is | rfl)
    (case a_Clear_eq => first | k_is | rfl)
    (case i_Clear_eq => first | k_is | rfl)
    (case l_Clear_eq => first | k_is | rfl)
    (case c_Clear_eq => first | k_is | rfl)
    (case k_Clear_eq => first | k_is | rfl)
    (case a_draw => first | k_is | rfl)
    (case l_draw => first | k_is | rfl)
    (case c_draw => first | k_is | rfl)
    (case k_draw => first | k_is | rfl)
    (case a_told => first | k_is | rfl)
    (case l_told => first | k_is | rfl)
    (case c_told => first | k_is | rfl)
    (case k_told => first | k_is | rfl)
    (case a_made => first | k_is | rfl)
    (case l_made => first | k_is | rfl)
    (case c_made => first | k_is | rfl)
    (case k_made => first | k_is | rfl)
    (case a_arguments => first | k_is | rfl)
    (case l_arguments => first | k_is | rfl)
    (case c_arguments => first | k_is | rfl)
    (case k_arguments => first | k_is | rfl)
    (case a_law => first | k_is | rfl)
    (case l_law => first | k_is | rfl)
    (case c_law => first | k_is | rfl)
    (case k_law => first | k_is | rfl)
    (case pg_Write => first | k_is | rfl)
    (case hd_Write => first | k_is | rfl)
    (case po_Write => first | k_is | rfl)
    (case sa_Write => first | k_is | rfl)
    (case ca_Write => first | k_is | rfl)
    (case cn_Write => first | k_is | rfl)
    (case ct_Write => first | k_is | rfl)
    (case cm_Write => first | k_is | rfl)
    (case rd_c_Write_init => first | k_is | rfl)
    (case gt_c_Write_init => first | k_is | rfl)
    (case fc_c_Write_init => first | k_is | rfl)
    (case pg_Drop => first | k_is | rfl)
    (case hd_Drop => first | k_is | rfl)
    (case po_Drop => first | k_is | rfl)
    (case sa_Drop => first | k_is | rfl)
    (case ca_Drop => first | k_is | rfl)
    (case cn_Drop => first | k_is | rfl)
    (case ct_Drop => first | k_is | rfl)
    (case cm_Drop => first | k_is | rfl)
    (case mk_Drop => first | k_is | rfl)
    (case kc_Drop => first | k_is | rfl)
    (case na_Drop_kind => first | k_is | rfl)
    (case na_Drop_row => first | k_is | rfl)
    (case is_Drop_Write => first | k_is | rfl)
    (case is_Drop_Drop => first | k_is | rfl)
    (case is_Drop_Add => first | k_is | rfl)
    (case is_Drop_Change => first | k_is | rfl)
    (case is_Drop_Total => first | k_is | rfl)
    (case is_Drop_Clear => first | k_is | rfl)
    (case nf_Drop_Drop => first | k_is | rfl)
    (case nf_Drop_Add => first | k_is | rfl)
    (case nf_Drop_Change => first | k_is | rfl)
    (case nf_Drop_Total => first | k_is | rfl)
    (case nf_Drop_Clear => first | k_is | rfl)
    (case pg_Add => first | k_is | rfl)
    (case hd_Add => first | k_is | rfl)
    (case po_Add => first | k_is | rfl)
    (case sa_Add => first | k_is | rfl)
    (case ca_Add => first | k_is | rfl)
    (case cn_Add => first | k_is | rfl)
    (case ct_Add => first | k_is | rfl)
    (case cm_Add => first | k_is | rfl)
    (case mk_Add => first | k_is | rfl)
    (case kc_Add => first | k_is | rfl)
    (case na_Add_kind => first | k_is | rfl)
    (case na_Add_row => first | k_is | rfl)
    (case is_Add_Write => first | k_is | rfl)
    (case is_Add_Drop => first | k_is | rfl)
    (case is_Add_Add => first | k_is | rfl)
    (case is_Add_Change => first | k_is | rfl)
    (case is_Add_Total => first | k_is | rfl)
    (case is_Add_Clear => first | k_is | rfl)
    (case nf_Add_Drop => first | k_is | rfl)
    (case nf_Add_Add => first | k_is | rfl)
    (case nf_Add_Change => first | k_is | rfl)
    (case nf_Add_Total => first | k_is | rfl)
    (case nf_Add_Clear => first | k_is | rfl)
    (case pg_Change => first | k_is | rfl)
    (case hd_Change => first | k_is | rfl)
    (case po_Change => first | k_is | rfl)
    (case sa_Change => first | k_is | rfl)
    (case ca_Change => first | k_is | rfl)
    (case cn_Change => first | k_is | rfl)
    (case ct_Change => first | k_is | rfl)
    (case cm_Change => first | k_is | rfl)
    (case mk_Change => first | k_is | rfl)
    (case kc_Change => first | k_is | rfl)
    (case na_Change_kind => first | k_is | rfl)
    (case na_Change_row => first | k_is | rfl)
    (case na_Change_name => first | k_is | rfl)
    (case na_Change_value => first | k_is | rfl)
    (case is_Change_Write => first | k_is | rfl)
    (case is_Change_Drop => first | k_is | rfl)
    (case is_Change_Add => first | k_is | rfl)
    (case is_Change_Change => first | k_is | rfl)
    (case is_Change_Total => first | k_is | rfl)
    (case is_Change_Clear => first | k_is | rfl)
    (case nf_Change_Drop => first | k_is | rfl)
    (case nf_Change_Add => first | k_is | rfl)
    (case nf_Change_Change => first | k_is | rfl)
    (case nf_Change_Total => first | k_is | rfl)
    (case nf_Change_Clear => first | k_is | rfl)
    (case pg_Total => first | k_is | rfl)
    (case hd_Total => first | k_is | rfl)
    (case po_Total => first | k_is | rfl)
    (case sa_Total => first | k_is | rfl)
    (case ca_Total => first | k_is | rfl)
    (case cn_Total => first | k_is | rfl)
    (case ct_Total => first | k_is | rfl)
    (case cm_Total => first | k_is | rfl)
    (case mk_Total => first | k_is | rfl)
    (case kc_Total => first | k_is | rfl)
    (case na_Total_kind => first | k_is | rfl)
    (case na_Total_group => first | k_is | rfl)
    (case na_Total_name => first | k_is | rfl)
    (case na_Total_value => first | k_is | rfl)
    (case is_Total_Write => first | k_is | rfl)
    (case is_Total_Drop => first | k_is | rfl)
    (case is_Total_Add => first | k_is | rfl)
    (case is_Total_Change => first | k_is | rfl)
    (case is_Total_Total => first | k_is | rfl)
    (case is_Total_Clear => first | k_is | rfl)
    (case nf_Total_Drop => first | k_is | rfl)
    (case nf_Total_Add => first | k_is | rfl)
    (case nf_Total_Change => first | k_is | rfl)
    (case nf_Total_Total => first | k_is | rfl)
    (case nf_Total_Clear => first | k_is | rfl)
    (case pg_Clear => first | k_is | rfl)
    (case hd_Clear => first | k_is | rfl)
    (case po_Clear => first | k_is | rfl)
    (case sa_Clear => first | k_is | rfl)
    (case ca_Clear => first | k_is | rfl)
    (case cn_Clear => first | k_is | rfl)
    (case ct_Clear => first | k_is | rfl)
    (case cm_Clear => first | k_is | rfl)
    (case mk_Clear => first | k_is | rfl)
    (case kc_Clear => first | k_is | rfl)
    (case na_Clear_kind => first | k_is | rfl)
    (case na_Clear_group => first | k_is | rfl)
    (case is_Clear_Write => first | k_is | rfl)
    (case is_Clear_Drop => first | k_is | rfl)
    (case is_Clear_Add => first | k_is | rfl)
    (case is_Clear_Change => first | k_is | rfl)
    (case is_Clear_Total => first | k_is | rfl)
    (case is_Clear_Clear => first | k_is | rfl)
    (case nf_Clear_Drop => first | k_is | rfl)
    (case nf_Clear_Add => first | k_is | rfl)
    (case nf_Clear_Change => first | k_is | rfl)
    (case nf_Clear_Total => first | k_is | rfl)
    (case nf_Clear_Clear => first | k_is | rfl)
    (case z_len => first | k_is | rfl)
    (case z_int => first | k_is | rfl)
    (case z_tuple => first | k_is | rfl)
    (case z_list => first | k_is | rfl)
    (case z_range => first | k_is | rfl)
    (case z_isinstance => first | k_is | rfl)
    (case z_bool => first | k_is | rfl)
