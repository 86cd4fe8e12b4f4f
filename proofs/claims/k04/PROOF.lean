import PyProof.Rows.All
import Wide.All
import OpenK.AllK
import Wide.FinOn
import HandS.ForMost
import HandS.ForExc
import HandS.More
import HandS.Flow
import HandS.IsInst
import HandS.ClsMeth
import HandS.SlotsOwn
import HandS.Star
import HandS.Steps
import HandS.Evl
import PyProof.TupleOfGen
import HandS.AnyAll
import HandS.SetFor
import HandS.Strs
import PyProof.LongRange
import OpenK.KMeth
import HandS.Defaults
import HandS.MakeKw
import HandS.DictComp
import HandS.Conv
import HandS.EndOwn
import HandS.TupAny
import PyProof.InstNe
import OpenK.KOps
import HandS.ExcInit
import HandS.ExcIs
import KE.KExcIs
import HandS.ExcField
import HandS.ExcOwn
import HandS.TryOnly
import HandS.TryMany
import HandS.WordsExc
import HandS.Text
import HandS.Wide
import PySem.Challenge.RW_shownwrites_k04_region_of_sign
set_option Elab.async false
set_option linter.all false
set_option maxRecDepth 100000
set_option maxHeartbeats 4000000
/-! Sw0: further rules over the hand layer. -/
namespace Sw
open PySem PySem.Spec PyProof.Rows L2

/-! ### calls by FnR -/
def tCR (sp : Sp) (E : XK) (t : TA) : TE := fun σ H Q => t σ H fun vs H1 => sp vs H1 Q E
section
variable {X : Cx} {CX : CXT} {k : Nat} {f C g : Addr} {sp : Sp} {E : XK} {x m : Str} {p pos apos : Pos} {e : Expr} {es : List Expr} {t : TA} {pl : Sem Bool}
theorem pe_cR (F : FnR X.prog X.w X.K X.mg X.base CX k f sp) (hr : Room k X.A) (hg : Gl X x) (hm : X.mg x = some (.ref f)) (hk : PySem.W.keepIn X.K (.ref f) = true) (hx : Passes CX X E)
    (ha : PA X (e :: es) t) (hdb : (x == ("__debug__" : Str)) = false := by decide) (he : starEach (e :: es) X.env = (false, eval e X.env) :: starEach es X.env := by rfl) (hpl : (backTo pos (starEach es X.env)).any (·.1) = false := by rfl) :
    PE X (.Call (.Name x p) (e :: es) [] pos) (tCR sp E t) := by
  refine ⟨fun pins s σ H Q I h => ?_⟩
  refine wpAny_Call_Name_kw (ld_glob I hg hm ?_ hdb)
  refine PySem.W.callWith_K (h₀ := X.base) I.ok.mod.kin hk (thn (ha.run pos pins s σ H _ I h) fun us s1 ⟨vs, H1, I1, r, q⟩ => ⟨I1.kIn, ?_⟩) he hpl
  exact wpAny_call (run_fnR F hr hx I1 r q)

/-- C.m is a def of the class C (or a staticmethod of it) -/
structure CFn (K : PySem.W.Frag) (C : Addr) (m : Str) (g : Addr) : Prop where
  rd : PySem.W.readsIn K C (.type "type") = true
  ga : PySem.W.specialIn K (.ref C) "__getattribute__" = some (some (.builtin "type.__getattribute__"))
  at_ : PySem.W.findCls K (.ref C) (.type "type") m = some (.val (.ref g)) ∨
    ∃ (p : Addr) (rest : List Value), PySem.W.findCls K (.ref C) (.type "type") m = some (.get (.builtin "staticmethod.__get__") (.ref p) .none (.ref C)) ∧ PySem.W.recIn K p "staticmethod" = some (.ref g :: rest)
  kp : PySem.W.keepIn K (.ref g) = true
theorem handed_ref (g : Addr) : PySem.W.handedIn (.ref g) = true := handed_of (v := .ref g) rfl
theorem getCFn {b : Bool} {A : Around} {E : Value → Shared → Prop} {Q : Value → Shared → Prop} {pins : List (Addr × Obj)} {σ : L2.St} {H : Hp} {s : Shared} (I : Inv X pins σ H s) (c : CFn X.K C m g) (h : ∀ s', Inv X pins σ H s' → Q (.ref g) s') :
    wpAny (model X.prog X.w) A (getAttr (.ref C) m b) Q E s := by
  rcases c.at_ with e | ⟨p, rest, e, hp⟩
  · exact PySem.W.cls_value I.kIn c.rd e (handed_ref g) (h _ (I.tok _))
  · exact PySem.W.cls_bind I.kIn c.rd e (wpAny_call (PySem.W.sm_get (s := { s with toks := s.toks + 1 }) I.kIn hp (PySem.W.handed_on (handed_ref g) (h _ (I.tok _)))))
theorem pe_clsR (c : CFn X.K C m g) (F : FnR X.prog X.w X.K X.mg X.base CX k g sp) (hr : Room k X.A) (hg : Gl X x) (hm : X.mg x = some (.ref C)) (hx : Passes CX X E) (ha : PA X (e :: es) t) (hdb : (x == ("__debug__" : Str)) = false := by decide)
    (hst : starEach (e :: es) X.env = (false, eval e X.env) :: starEach es X.env := by rfl) (hpl : (backTo pos (starEach es X.env)).any (·.1) = false := by rfl)
    (ht : eval (.Call (.Attribute (.Name x p) m apos) (e :: es) [] pos) X.env = (do
      let ov ← eval (.Name x p) X.env
      standAt apos.atName
      let (f, first) ← holding [ov] (getMethod ov m pl)
      callWith pos f first (backTo pos (starEach (e :: es) X.env)) (backToKw pos (keywordEach [] X.env))) := by rfl) :
    PE X (.Call (.Attribute (.Name x p) m apos) (e :: es) [] pos) (tCR sp E t) := by
  refine ⟨fun pins s σ H Q I h => ?_⟩
  refine PySem.W.methodCall_KW (pl := pl) (ld_glob I hg hm ?_ hdb) ht
  refine PySem.W.method_cls I.kIn c.ga (getCFn I c fun s2 I2 => ?_)
  refine PySem.W.callWith_K (h₀ := X.base) I.ok.mod.kin c.kp (thn (ha.run pos pins s2 σ H _ I2 h) fun us s3 ⟨vs, H2, I3, r, q2⟩ => ⟨I3.kIn, ?_⟩) hst hpl
  exact wpAny_call (run_fnR F hr hx I3 r q2)
end

/-! ### own comparisons of instances with a dict -/
/-- x op y, x an instance of the class at C whose def for op is at g -/
def rOwnI (K : PySem.W.Frag) (C : Addr) (sp : Sp) (E : XK) : R2 := fun x y H Q => ∃ a dx fs t, x = .ref a ∧ H a = some (.ins C dx fs) ∧ TyX K H y t ∧ PySem.W.notFirst K C t = true ∧ sp [x, y] H Q E
section
variable {X : Cx} {CX : CXT} {n : Nat} {C g : Addr} {sp : Sp} {E : XK}
theorem op_ownI {op : CmpOp} (hop : ∀ a b, compareOp op a b = richCompare op a b) (hs : PySem.W.findIn X.K (.ref C) (cmpInfo op).2.1 = some (some (.ref g))) (hf : PySem.W.isFn X.K (.ref g) = true) (F : FnR X.prog X.w X.K X.mg X.base CX n g sp)
    (hr : Room n X.A) (hx : Passes CX X E) : OpR X (compareOp op) (rOwnI X.K C sp E) := by
  intro pins s σ H x y v u Q I rx ry h
  obtain ⟨a, dx, fs, t, rfl, ha, ty, hn, q⟩ := h
  cases (show v = Value.ref a from rx)
  obtain ⟨mA, O, _⟩ := ins_get I.hok ha
  obtain ⟨od, J, _⟩ := O.look
  obtain ⟨P, Z, p, _⟩ := kit_of I ry ty
  obtain ⟨m, hF⟩ := I.fr
  rw [hop]
  refine PySem.W.cmp_K (op := op) (tb := t) hr.units0 hF I.ok.mod.kin J (Z.ty _ _ I.kIn p) hn hs hf ?_
  refine wpAny_mono (wpAny_call (run_fnR (us := [.ref a, u]) (vs := [.ref a, y]) F hr hx I (.cons rfl (.cons ry .nil)) q)) (fun w s' z => ?_) fun _ _ x => x
  obtain ⟨z', H', I', rz, qz⟩ := z
  exact SlX.cmpback rz ⟨z', H', I', rz, qz⟩
theorem op_ownEq (hs : PySem.W.findIn X.K (.ref C) "__eq__" = some (some (.ref g))) (hf : PySem.W.isFn X.K (.ref g) = true) (F : FnR X.prog X.w X.K X.mg X.base CX n g sp)
    (hr : Room n X.A) (hx : Passes CX X E) : OpR X (compareOp .Eq) (rOwnI X.K C sp E) := op_ownI (op := .Eq) (fun _ _ => rfl) hs hf F hr hx
end

/-! ### a def of the text, by its place -/
structure DefAt (K : PySem.W.Frag) (x qual : Str) (st : Stmt) (ps : List Str) (f : Addr) : Prop where
  ex : ∃ fd, Fun K x qual st f fd ∧ Binds K fd ps []
section
variable {P : Program} {w : World} {K : PySem.W.Frag} {mg : Str → Option Value} {base : Heap} {x qual : Str} {st : Stmt} {ps : List Str} {f : Addr}
theorem DefAt.kp (D : DefAt K x qual st ps f) : PySem.W.keepIn K (.ref f) = true := let ⟨_, F, _⟩ := D.ex; F.kp
theorem DefAt.mk' {oc : Value} {od an : Option Addr} {osl : Array (Option Value)} {kV doc pm cdv ct : Value} (l : K.lookup f = some ⟨oc, od, .func (PySem.W.fnOf x qual (defArgs st) (defBody st) (defScope st) .none kV doc pm an cdv ct), osl⟩)
    (c : PySem.W.codeIn K cdv qual = true) (k : PySem.W.keepIn K (.ref f) = true)
    (h : ∀ (kV doc pm : Value) (an : Option Addr) (cdv ct : Value) (us : List Value), us.length = ps.length → bindArgs (PySem.W.fnOf x qual (defArgs st) (defBody st) (defScope st) .none kV doc pm an cdv ct) ⟨us, []⟩ = pure (ps.zip us)) : DefAt K x qual st ps f :=
  have F := fun_mk (st := st) l c k
  ⟨_, F, F.binds h⟩
theorem FnOk.toR {CX : CXT} {k : Nat} {fd : FuncData} {sp : Sp} (F : FnOk P w K mg base CX k f fd ps sp) (hb : Binds K fd ps []) : FnR P w K mg base CX k f sp :=
  (FnOk.raw F hb .nil).imp fun vs H Q E h => by rw [List.append_nil]; exact h
theorem DefAt.okR {N : List Str} {k : Nat} {sp : Sp} (D : DefAt K x qual st ps f) (S : FnScope N ps (defScope st)) (len : ∀ vs H Q E, sp vs H Q E → vs.length = ps.length)
    (hbody : ∀ (cdv : Value) (A : Around) (outer : List Env) (s : Shared) (H : Hp) (vs : List V) (Q : VK) (E : XK), Room k (A.deeper (envOfC qual (defScope st) s.heap.objs.size f cdv)) → sp vs H Q E →
      ∃ t, PSs (cxOf CX0 P w K mg base N qual (defScope st) f cdv A outer s H E).nox (defBody st) t ∧ t { nx := fun _ H' => Q .non H', rt := Q } (start N vs) H) : FnR P w K mg base CX0 (k + 1) f sp := by
  obtain ⟨fd, F, hb⟩ := D.ex
  exact FnOk.toR (F.ok S len hbody) hb
end
/-- what isinstance asks of the class at C -/
structure ClsTy (K : PySem.W.Frag) (C : Addr) : Prop where
  ca : PySem.W.findIn K (.ref C) "__class__" = some (some (.builtin "object.__class__"))
  cn : PySem.W.specialIn K (.builtin "object.__class__") "__get__" = some (some (.builtin "getset_descriptor.__get__"))
  ct : PySem.W.takesIn K (.builtin "object.__class__") = some true
  cm : PySem.W.mroIn K C (.type "object") = some true
theorem tyI {K : PySem.W.Frag} {H : Hp} {a C dx : Addr} {fs : List (Str × V)} (e : H a = some (.ins C dx fs)) (c : Cls K C) (t : ClsTy K C) : TyX K H (.ref a) (.ref C) := .base (.ins e c t.ca t.cn t.ct t.cm)

/-! ### built-ins by named readings -/
def rLen (K : PySem.W.Frag) : List V → Hp → VK → Prop := fun xs H Q => ∃ p ys, xs = [.ref p] ∧ (SqL K H p ys ∨ SqT K H p ys) ∧ Q (.int ys.length) H
theorem cr_len {X : Cx} : CallR X (.builtin "len") (rLen X.K) := call_len_seq
def rLenStr : List V → Hp → VK → Prop := fun xs H Q => ∃ z, xs = [.str z] ∧ z.length ≤ sizeLine ∧ Q (.int z.length) H
theorem cr_lenStr {X : Cx} : CallR X (.builtin "len") rLenStr := call_len_str
def rInt1 : List V → Hp → VK → Prop := fun xs H Q => (∃ i, xs = [.int i] ∧ Q (.int i) H) ∨ ∃ k, xs = [.bl k] ∧ Q (.int (if k then 1 else 0)) H
theorem cr_int {X : Cx} : CallR X (.type "int") rInt1 := call_int1
def rBool1 : List V → Hp → VK → Prop := fun xs H Q => (∃ i, xs = [.int i] ∧ Q (.bl (i != 0)) H) ∨ ∃ k, xs = [.bl k] ∧ Q (.bl k) H
theorem cr_bool {X : Cx} : CallR X (.type "bool") rBool1 := call_bool1
def rListOf (K : PySem.W.Frag) : List V → Hp → VK → Prop := fun xs H Q => ∃ p ys, xs = [.ref p] ∧ (SqL K H p ys ∨ SqT K H p ys) ∧ ∀ l, H l = none → Q (.ref l) (upd H l (.lst ys))
theorem cr_list {X : Cx} : CallR X (.type "list") (rListOf X.K) := call_list_of
def rTupOf (K : PySem.W.Frag) : List V → Hp → VK → Prop := fun xs H Q => ∃ p ys, xs = [.ref p] ∧ ((SqL K H p ys ∧ ∀ l, H l = none → Q (.ref l) (upd H l (.tup ys))) ∨ (SqT K H p ys ∧ Q (.ref p) H))
theorem cr_tuple {X : Cx} : CallR X (.type "tuple") (rTupOf X.K) := call_tuple_of
/-! ### the same rules, the written part named (a comprehension's block has its own X) -/
section
variable {X : Cx} (K : PySem.W.Frag)
theorem ix_listK (hK : X.K = K := by rfl) : IxR X (rIxL K) := hK ▸ ix_list
theorem ix_tupK (hK : X.K = K := by rfl) : IxR X (rIxT K) := hK ▸ ix_tup
theorem cr_lenK (hK : X.K = K := by rfl) : CallR X (.builtin "len") (rLen K) := hK ▸ cr_len
theorem cr_listK (hK : X.K = K := by rfl) : CallR X (.type "list") (rListOf K) := hK ▸ cr_list
theorem cr_tupleK (hK : X.K = K := by rfl) : CallR X (.type "tuple") (rTupOf K) := hK ▸ cr_tuple
theorem cr_isiK (hK : X.K = K := by rfl) : CallR X (.builtin "isinstance") (rIsi K) := hK ▸ call_isi
theorem cr_allK (hc : X.calm = true := by rfl) (hK : X.K = K := by rfl) : CallR X (.builtin "all") (rAll K) := hK ▸ cr_all hc
theorem cr_anyK (hc : X.calm = true := by rfl) (hK : X.K = K := by rfl) : CallR X (.builtin "any") (rAny K) := hK ▸ cr_any hc
theorem cr_sortedK (hK : X.K = K := by rfl) : CallR X (.builtin "sorted") (rSorted K) := hK ▸ cr_sorted
theorem op_inK (hK : X.K = K := by rfl) : OpR X (compareOp .In) (rIn K false) := hK ▸ op_in_seq
theorem op_notInK (hK : X.K = K := by rfl) : OpR X (compareOp .NotIn) (rIn K true) := hK ▸ op_notIn_seq
theorem op_eqDK (hu : X.A.units + 64 < cLine) (hK : X.K = K := by rfl) : OpR X (compareOp .Eq) (rEqD K) := hK ▸ op_eqD hu
theorem op_neDK (hu : X.A.units + 64 < cLine) (hK : X.K = K := by rfl) : OpR X (compareOp .NotEq) (rNeD K) := hK ▸ op_neD hu
theorem sl_listK (hK : X.K = K := by rfl) : SlR X (rSlL K) := hK ▸ sl_list
theorem sl_tupK (hK : X.K = K := by rfl) : SlR X (rSlT K) := hK ▸ sl_tup
theorem pe_fldK {e : Expr} {f : Str} {pos : Pos} {ta : TE} (he : PE X e ta) (hb : attributeBase e f X.env (eval e X.env) = eval e X.env) (hK : X.K = K := by rfl) : PE X (.Attribute e f pos) (tFld K ta f) := hK ▸ pe_fld he hb
theorem ps_fldK {o value : Expr} {f : Str} {pos pos' : Pos} {ta tv : TE} (ha : PE X o ta) (hv : PE X value tv) (hs : swapsWith value (some (.Attribute o f pos')) pos.line X.env = pure false) (hK : X.K = K := by rfl) :
    PS X (.Assign [.Attribute o f pos'] value pos) (sFld K ta tv f) := hK ▸ ps_fld ha hv hs
theorem pi_listK {tg l : Expr} {tl : TE} (hl : PE X l tl) (hK : X.K = K := by rfl) : PI X tg l (iList K tl) := hK ▸ pi_list hl
theorem pi_tupK {tg l : Expr} {tl : TE} (hl : PE X l tl) (hK : X.K = K := by rfl) : PI X tg l (iTup K tl) := hK ▸ pi_tup hl
theorem pg_tupK {es : List Expr} {k : Nat} {t : TGs} {n : Nat} {pos : Pos} (hc : X.calm = true) (h : PGs X es t)
    (hn : (assignEach es X.env).length = n := by rfl) (hst : (assignEach es X.env).findIdx? (·.1) = none := by rfl) (hK : X.K = K := by rfl) : PG X (.Tuple es k pos) (gTup K n t) := hK ▸ pg_tup hc h hn hst
def tTruK (K : PySem.W.Frag) (ta : TE) : TT := fun σ H Q => ta σ H fun x H' => ∃ k, TruV K x H' k ∧ Q k H'
theorem pt_truthK {e : Expr} {ta : TE} (ha : PE X e ta) (he : ∀ whole, isTrue e X.env whole = (do let v ← whole; standAt e.pos; holding [v] (truthy v))) (hK : X.K = K := by rfl) : PT X e (tTruK K ta) := hK ▸ pt_truth ha he
theorem pe_orTK {a b : Expr} {rest : List Expr} {pos : Pos} {ta tb : TE} (ha : PE X a ta) (hb : PE X (.BoolOp .Or (b :: rest) pos) tb) (hK : X.K = K := by rfl) : PE X (.BoolOp .Or (a :: b :: rest) pos) (tOrT K ta tb) := hK ▸ pe_orT ha hb
theorem pe_bmK {T : String} {name : Str} {id : String} {r : V → List V → Hp → VK → Prop} {o e : Expr} {es : List Expr} {apos cpos : Pos} {to : TE} {t : TA} (pa : PlainAttrs T) (slot : Slot T name id) (hty : typeOf (.builtin id) = pure (.type "method_descriptor")) (hm : MtR X id r) (ho : PE X o to) (ha : PA X (e :: es) t)
    (hbase : attributeBase o name X.env (eval o X.env) = eval o X.env := by rfl)
    (hfew : ((backTo cpos (starEach (e :: es) X.env)).all (fun x => !x.1) && (backToKw cpos (keywordEach [] X.env)).all (fun x => x.1.isSome)
      && decide ((e :: es).length + ([] : List Keyword).length + (if ([] : List Keyword).isEmpty then 0 else 1) < 30)) = true := by rfl)
    (hline : (apos.endLine == cpos.line) = true := by rfl) (hs : starEach (e :: es) X.env = (false, eval e X.env) :: starEach es X.env := by rfl) (hplain : (backTo cpos (starEach es X.env)).any (·.1) = false := by rfl) (hK : X.K = K := by rfl) : PE X (.Call (.Attribute o name apos) (e :: es) [] cpos) (tBM K T r to t) := hK ▸ pe_bm pa slot hty hm ho ha hbase hfew hline hs hplain
theorem pe_bm0K {T : String} {name : Str} {id : String} {r : V → List V → Hp → VK → Prop} {o : Expr} {apos cpos : Pos} {to : TE} (pa : PlainAttrs T) (slot : Slot T name id) (hty : typeOf (.builtin id) = pure (.type "method_descriptor")) (hm : MtR X id r) (ho : PE X o to)
    (hbase : attributeBase o name X.env (eval o X.env) = eval o X.env := by rfl) (hline : (apos.endLine == cpos.line) = true := by rfl) (hK : X.K = K := by rfl) : PE X (.Call (.Attribute o name apos) [] [] cpos) (tBM0 K T r to) := hK ▸ pe_bm0 pa slot hty hm ho hbase hline
end
/-! ### heaps -/
theorem same_new {H : Hp} {p : Addr} {o : HO} (h : H p = none) : Same H (upd H p o) := fun a u e => by rw [upd_ne (ne_of_none e h)]; exact e
/-- a new object: the heap from then on is a letter -/
theorem new_obj {H : Hp} {o : HO} {R : Addr → Hp → Prop} (h : ∀ p H1, H p = none → Same H H1 → H1 p = some o → R p H1) : ∀ p, H p = none → R p (upd H p o) := fun p hp => h p _ hp (same_new hp) upd_same
end Sw

set_option Elab.async false
set_option linter.all false
set_option maxRecDepth 100000
set_option maxHeartbeats 4000000
/-! Sw1: readings, one lemma a word, for a walk by heads. -/
namespace Sw
open PySem PySem.Spec PyProof.Rows L2
section
variable {K : PySem.W.Frag} {D : Ends} {σ : L2.St} {H : Hp} {Q : VK} {R : L2.St → Hp → Prop} {B : Bool → Hp → Prop} {t u : TS} {te ta tb tc tx ti to tl : TE} {tt ut : TT} {ts : TA} {g : TG} {gs : TGs} {r r' : R2} {x y z v : V} {i j : Nat} {xs ys : List V} {p q C dx : Addr} {fs : List (Str × V)} {f : Str} {sp : Sp} {E : XK}
theorem c_seq (h : t { D with nx := u D } σ H) : tSeq t u D σ H := h
theorem c_asgv (h : te σ H fun v H1 => D.nx (σ.set i (some v)) H1) : tAsg te (gName i) D σ H := h
theorem c_asg (h : te σ H fun v H1 => g v σ H1 D.nx) : tAsg te g D σ H := h
theorem c_name (h : R (σ.set i (some v)) H) : gName i v σ H R := h
theorem c_if (h : tt σ H fun b H1 => if b = true then t D σ H1 else u D σ H1) : tIfS tt t u D σ H := h
theorem c_ret (h : te σ H D.rt) : tRet te D σ H := h
theorem c_retN (h : D.rt .non H) : tRetN D σ H := h
theorem c_drop (h : te σ H fun _ H1 => D.nx σ H1) : tDrop te D σ H := h
theorem c_next (h : D.nx σ H) : tNext D σ H := h
theorem c_brk (h : D.bk σ H) : tBreak D σ H := h
theorem c_cont (h : D.ct σ H) : tCont D σ H := h
theorem c_var (e : σ[i]? = some (some v)) (h : Q v H) : tVar i σ H Q := ⟨v, e, h⟩
theorem c_c (h : Q v H) : tC v σ H Q := h
theorem c_op (h : ta σ H fun x H1 => tb σ H1 fun y H2 => r x y H2 Q) : tOp r ta tb σ H Q := h
theorem c_un {r : V → Hp → VK → Prop} (h : ta σ H fun x H1 => r x H1 Q) : tUn r ta σ H Q := h
theorem c_rU {g : Int → V} {i : Int} (h : Q (g i) H) : rU g (.int i) H Q := ⟨i, rfl, h⟩
theorem c_I0 {g : Int → Int → V} {i j : Int} (h : Q (g i j) H) : rI0 g (.int i) (.int j) H Q := ⟨i, j, rfl, rfl, h⟩
theorem c_I {C : Int → Int → Prop} {g : Int → Int → V} {i j : Int} (c : C i j) (h : Q (g i j) H) : rI C g (.int i) (.int j) H Q := ⟨i, j, rfl, rfl, c, h⟩
theorem c_eq (e : scal x y = true) (h : Q (.bl (decide (x = y))) H) : rEq x y H Q := ⟨e, h⟩
theorem c_ne (e : scal x y = true) (h : Q (.bl (!decide (x = y))) H) : rNe x y H Q := ⟨e, h⟩
theorem c_test (h : te σ H fun x H' => ∃ k, x = .bl k ∧ B k H') : tTest te σ H B := h
theorem c_B (h : te σ H fun x H' => ∃ k, x = .bl k ∧ B k H') : tB te σ H B := h
theorem c_bl {b : Bool} {B' : Bool → Prop} (h : B' b) : ∃ k, V.bl b = .bl k ∧ B' k := ⟨b, rfl, h⟩
theorem c_and (h : tt σ H fun c H1 => if c = true then ut σ H1 B else B false H1) : tAnd tt ut σ H B := h
theorem c_or (h : tt σ H fun c H1 => if c = true then B true H1 else ut σ H1 B) : tOr tt ut σ H B := h
theorem c_not (h : tt σ H fun c H1 => B (!c) H1) : tNot tt σ H B := h
theorem c_ifE (h : tt σ H fun c H1 => if c = true then ta σ H1 Q else tb σ H1 Q) : tIf tt ta tb σ H Q := h
theorem c_CB {r : List V → Hp → VK → Prop} (h : ts σ H fun vs H1 => r vs H1 Q) : tCB r ts σ H Q := h
theorem c_CR (h : ts σ H fun vs H1 => sp vs H1 Q E) : tCR sp E ts σ H Q := h
theorem c_cons {R : List V → Hp → Prop} (h : ta σ H fun x H1 => ts σ H1 fun xs H2 => R (x :: xs) H2) : tCons ta ts σ H R := h
theorem c_nil {R : List V → Hp → Prop} (h : R [] H) : tNil σ H R := h
/-- a made list, a made tuple -/
def NewL (xs : List V) (H : Hp) (Q : VK) : Prop := xs.length ≤ sizeLine ∧ ∀ p, H p = none → Q (.ref p) (upd H p (.lst xs))
def NewT (xs : List V) (H : Hp) (Q : VK) : Prop := xs.length ≤ sizeLine ∧ ∀ p, H p = none → Q (.ref p) (upd H p (.tup xs))
theorem c_lst (h : ts σ H fun xs H1 => NewL xs H1 Q) : tLst ts σ H Q := h
theorem c_tup (h : ts σ H fun xs H1 => NewT xs H1 Q) : tTup ts σ H Q := h
/-- .. short: the heap becomes a letter -/
theorem c_newL (hl : xs.length ≤ 100000) (h : ∀ p H1, H p = none → Same H H1 → H1 p = some (.lst xs) → Q (.ref p) H1) : NewL xs H Q :=
  ⟨Nat.le_trans hl (by decide), new_obj h⟩
theorem c_newT (hl : xs.length ≤ 100000) (h : ∀ p H1, H p = none → Same H H1 → H1 p = some (.tup xs) → Q (.ref p) H1) : NewT xs H Q :=
  ⟨Nat.le_trans hl (by decide), new_obj h⟩
theorem c_ixL {i : Int} (e : H p = some (.lst xs)) (ea : atI xs i = some v) (h : Q v H) : rIxL K (.ref p) (.int i) H Q := ⟨p, xs, i, v, rfl, rfl, SqL.of e, ea, h⟩
theorem c_ixT {i : Int} (e : H p = some (.tup xs)) (ea : atI xs i = some v) (h : Q v H) : rIxT K (.ref p) (.int i) H Q := ⟨p, xs, i, v, rfl, rfl, SqT.of e, ea, h⟩
theorem c_sub {S : TSet} (h : to σ H fun o H1 => ti σ H1 fun i H2 => S o i v H2 fun H3 => R σ H3) : gSub to ti S v σ H R := h
theorem c_setL {k : Int} {R : Hp → Prop} (e : H p = some (.lst xs)) (ej : ixN xs.length k = some j) (h : ∀ H1, (∀ b, b ≠ p → H1 b = H b) → H1 p = some (.lst (xs.set j v)) → R H1) : rSetL (.ref p) (.int k) v H R :=
  ⟨p, xs, k, j, rfl, rfl, e, ej, h _ (fun b hb => upd_ne hb) upd_same⟩
/-- x.f -/
def FldAt (K : PySem.W.Frag) (f : Str) (x : V) (H : Hp) (Q : VK) : Prop := ∃ a C dx fs v, x = .ref a ∧ H a = some (.ins C dx fs) ∧ Cls K C ∧ NoAttr K C f ∧ fs.lookup f = some v ∧ Q v H
theorem c_fld (h : ta σ H fun x H1 => FldAt K f x H1 Q) : tFld K ta f σ H Q := h
theorem c_fldv (e : H p = some (.ins C dx fs)) (c : Cls K C) (n : NoAttr K C f) (l : fs.lookup f = some v) (h : Q v H) : FldAt K f (.ref p) H Q := ⟨p, C, dx, fs, v, rfl, e, c, n, l, h⟩
/-- x.f = y -/
def FldTo (K : PySem.W.Frag) (f : Str) (x y : V) (H : Hp) (W : Hp → Prop) : Prop := ∃ a C dx fs, x = .ref a ∧ H a = some (.ins C dx fs) ∧ Cls K C ∧ NoAttr K C f ∧ fs.length < 1000 ∧ W (upd H a (.ins C dx (putF f y fs)))
theorem c_sfld (h : te σ H fun y H1 => ta σ H1 fun x H2 => FldTo K f x y H2 fun H3 => D.nx σ H3) : sFld K ta te f D σ H := h
theorem c_sfldv {W : Hp → Prop} (e : H p = some (.ins C dx fs)) (c : Cls K C) (n : NoAttr K C f) (l : fs.length < 1000) (h : ∀ H1, (∀ b, b ≠ p → H1 b = H b) → H1 p = some (.ins C dx (putF f v fs)) → W H1) : FldTo K f (.ref p) v H W :=
  ⟨p, C, dx, fs, rfl, e, c, n, l, h _ (fun b hb => upd_ne hb) upd_same⟩
end
/-! ### tests that are decided -/
theorem iteD {p A B : Prop} [Decidable p] (h1 : p → A) (h2 : ¬ p → B) : if decide p = true then A else B := by
  by_cases h : p
  · rw [decide_eq_true h]; exact iteT (h1 h)
  · rw [decide_eq_false h]; exact iteF (h2 h)
theorem iteDN {p A B : Prop} [Decidable p] (h1 : ¬ p → A) (h2 : p → B) : if (!decide p) = true then A else B := by
  by_cases h : p
  · rw [decide_eq_true h]; exact iteF (h2 h)
  · rw [decide_eq_false h]; exact iteT (h1 h)
theorem iteB {b : Bool} {A B : Prop} (h1 : b = true → A) (h2 : b = false → B) : if b = true then A else B := by
  cases b
  · exact iteF (h2 rfl)
  · exact iteT (h1 rfl)
/-! ### what int(..), len(..) read -/
section
variable {K : PySem.W.Frag} {H : Hp} {Q : VK} {p : Addr} {xs : List V}
theorem c_int1 {i : Int} (h : Q (.int i) H) : rInt1 [.int i] H Q := .inl ⟨i, rfl, h⟩
theorem c_int1b {k : Bool} (h : Q (.int (if k then 1 else 0)) H) : rInt1 [.bl k] H Q := .inr ⟨k, rfl, h⟩
theorem c_bool1 {i : Int} (h : Q (.bl (i != 0)) H) : rBool1 [.int i] H Q := .inl ⟨i, rfl, h⟩
theorem c_bool1b {k : Bool} (h : Q (.bl k) H) : rBool1 [.bl k] H Q := .inr ⟨k, rfl, h⟩
theorem c_lenL (e : H p = some (.lst xs)) (h : Q (.int xs.length) H) : rLen K [.ref p] H Q := ⟨p, xs, rfl, .inl (SqL.of e), h⟩
theorem c_lenT (e : H p = some (.tup xs)) (h : Q (.int xs.length) H) : rLen K [.ref p] H Q := ⟨p, xs, rfl, .inr (SqT.of e), h⟩
theorem c_lenQ (e : SqL K H p xs) (h : Q (.int xs.length) H) : rLen K [.ref p] H Q := ⟨p, xs, rfl, .inl e, h⟩
theorem c_listL (e : SqL K H p xs) (h : ∀ l H1, H l = none → Same H H1 → H1 l = some (.lst xs) → Q (.ref l) H1) : rListOf K [.ref p] H Q := ⟨p, xs, rfl, .inl e, new_obj h⟩
theorem c_listT (e : SqT K H p xs) (h : ∀ l H1, H l = none → Same H H1 → H1 l = some (.lst xs) → Q (.ref l) H1) : rListOf K [.ref p] H Q := ⟨p, xs, rfl, .inr e, new_obj h⟩
theorem c_tupL (e : SqL K H p xs) (h : ∀ l H1, H l = none → Same H H1 → H1 l = some (.tup xs) → Q (.ref l) H1) : rTupOf K [.ref p] H Q := ⟨p, xs, rfl, .inl ⟨e, new_obj h⟩⟩
theorem c_tupT (e : SqT K H p xs) (h : Q (.ref p) H) : rTupOf K [.ref p] H Q := ⟨p, xs, rfl, .inr ⟨e, h⟩⟩
theorem c_isN {x : V} (h : Q (.bl (decide (x = .non))) H) : rIsN x .non H Q := ⟨rfl, h⟩
theorem c_notN {x : V} (h : Q (.bl (!decide (x = .non))) H) : rNotN x .non H Q := ⟨rfl, h⟩
end
section
variable {K : PySem.W.Frag} {H : Hp} {Q : VK} {p : Addr} {xs : List V} {x : V}
theorem c_inT (e : H p = some (.tup xs)) (hx : flatV x = true) (ha : xs.all flatV = true) (h : Q (.bl (inV x xs)) H) : rIn K false x (.ref p) H Q := ⟨p, xs, rfl, .inr (SqT.of e), hx, ha, h⟩
theorem c_inL (e : H p = some (.lst xs)) (hx : flatV x = true) (ha : xs.all flatV = true) (h : Q (.bl (inV x xs)) H) : rIn K false x (.ref p) H Q := ⟨p, xs, rfl, .inl (SqL.of e), hx, ha, h⟩
theorem c_notInT (e : H p = some (.tup xs)) (hx : flatV x = true) (ha : xs.all flatV = true) (h : Q (.bl (!inV x xs)) H) : rIn K true x (.ref p) H Q := ⟨p, xs, rfl, .inr (SqT.of e), hx, ha, h⟩
theorem c_notInL (e : H p = some (.lst xs)) (hx : flatV x = true) (ha : xs.all flatV = true) (h : Q (.bl (!inV x xs)) H) : rIn K true x (.ref p) H Q := ⟨p, xs, rfl, .inl (SqL.of e), hx, ha, h⟩
end
/-! ### items by place -/
theorem atI_mem {α : Type} {xs : List α} {i : Int} (h0 : 0 ≤ i) (h1 : i < xs.length) : ∃ v, atI xs i = some v ∧ v ∈ xs := by
  obtain ⟨k, rfl⟩ : ∃ k : Nat, i = k := ⟨i.toNat, by omega⟩
  have hk : k < xs.length := by omega
  exact ⟨xs[k], atI_nat (List.getElem?_eq_getElem hk), List.getElem_mem hk⟩
theorem atI_map {α β : Type} {f : α → β} {xs : List α} {i : Int} (h0 : 0 ≤ i) (h1 : i < xs.length) : ∃ n, atI (xs.map f) i = some (f n) ∧ n ∈ xs ∧ atI xs i = some n := by
  obtain ⟨k, rfl⟩ : ∃ k : Nat, i = k := ⟨i.toNat, by omega⟩
  have hk : k < xs.length := by omega
  exact ⟨xs[k], atI_nat (by rw [List.getElem?_map, List.getElem?_eq_getElem hk]; rfl), List.getElem_mem hk, atI_nat (List.getElem?_eq_getElem hk)⟩
theorem ixN_in {n : Nat} {i : Int} (h0 : 0 ≤ i) (h1 : i < n) : ixN n i = some i.toNat := by
  unfold ixN
  rw [if_pos h0, if_pos h1]

theorem iteY {b : Bool} {A B : Prop} (e : b = true) (h : A) : if b = true then A else B := by rw [e]; exact iteT h
theorem iteN {b : Bool} {A B : Prop} (e : b = false) (h : B) : if b = true then A else B := by rw [e]; exact iteF h
/-! ### comprehensions: over range(..), over a list, over a tuple -/
section
variable {K : PySem.W.Frag} {σ : L2.St} {H : Hp} {Q : VK} {te tl : TE} {tt : TT} {ts : TA} {i : Nat} {lo : Int} {n : Nat} {xs : List V} {a : Addr}
/-- the list at D holds acc, behind k turns -/
def LcP (Pv : Nat → List V → Hp → Prop) (D : Addr) (k : Nat) (H : Hp) : Prop := ∃ acc, H D = some (.lst acc) ∧ acc.length ≤ k ∧ Pv k acc H
theorem c_acc {Pv : Nat → List V → Hp → Prop} {D : Addr} {k : Nat} {acc : List V} {y : V} {H4 : Hp} (e : H4 D = some (.lst acc)) (hk : acc.length ≤ k) (hl : k ≤ 100000) (h : ∀ H5, (∀ b, b ≠ D → H5 b = H4 b) → H5 D = some (.lst (acc ++ [y])) → Pv (k + 1) (acc ++ [y]) H5) :
    ∃ acc, H4 D = some (.lst acc) ∧ acc.length < sizeLine ∧ LcP Pv D (k + 1) (upd H4 D (.lst (acc ++ [y]))) :=
  ⟨acc, e, Nat.lt_of_le_of_lt (Nat.le_trans hk hl) (by decide), acc ++ [y], upd_same, by simp; omega, h _ (fun b hb => upd_ne hb) upd_same⟩
theorem c_skip {Pv : Nat → List V → Hp → Prop} {D : Addr} {k : Nat} {acc : List V} {H4 : Hp} (e : H4 D = some (.lst acc)) (hk : acc.length ≤ k) (h : Pv (k + 1) acc H4) : LcP Pv D (k + 1) H4 := ⟨acc, e, Nat.le_succ_of_le hk, h⟩
/-- one turn -/
def LcTurn (Pv : Nat → List V → Hp → Prop) (tt : TT) (te : TE) (D : Addr) (k : Nat) (σ : L2.St) (H : Hp) : Prop :=
  tt σ H fun b H3 => if b = true then te σ H3 fun y H4 => ∃ acc, H4 D = some (.lst acc) ∧ acc.length < sizeLine ∧ LcP Pv D (k + 1) (upd H4 D (.lst (acc ++ [y]))) else LcP Pv D (k + 1) H3
theorem c_turn1 {Pv : Nat → List V → Hp → Prop} {D : Addr} {k : Nat} (h : te σ H fun y H4 => ∃ acc, H4 D = some (.lst acc) ∧ acc.length < sizeLine ∧ LcP Pv D (k + 1) (upd H4 D (.lst (acc ++ [y])))) : LcTurn Pv tYes te D k σ H := by
  show (if true = true then te σ H (fun y H4 => ∃ acc, H4 D = some (.lst acc) ∧ acc.length < sizeLine ∧ LcP Pv D (k + 1) (upd H4 D (.lst (acc ++ [y])))) else LcP Pv D (k + 1) H)
  exact iteT h
theorem c_turn {Pv : Nat → List V → Hp → Prop} {D : Addr} {k : Nat} (h : tt σ H fun b H3 => if b = true then te σ H3 fun y H4 => ∃ acc, H4 D = some (.lst acc) ∧ acc.length < sizeLine ∧ LcP Pv D (k + 1) (upd H4 D (.lst (acc ++ [y]))) else LcP Pv D (k + 1) H3) : LcTurn Pv tt te D k σ H := h
/-- what a comprehension asks -/
structure LcAsk (xs : List V) (tt : TT) (te : TE) (i : Nat) (σ : L2.St) (stay : Hp → Prop) (D : Addr) (H2 : Hp) (Q : VK) (Pv : Nat → List V → Hp → Prop) : Prop where
  start : Pv 0 [] H2
  stays : ∀ k acc H, Pv k acc H → stay H
  turn : ∀ k x acc H, xs[k]? = some x → acc.length ≤ k → H D = some (.lst acc) → Pv k acc H → LcTurn Pv tt te D k ((wipe σ [i]).set i (some x)) H
  done : ∀ acc H, acc.length ≤ xs.length → H D = some (.lst acc) → Pv xs.length acc H → Q (.ref D) H
/-- the rest of a comprehension, its iterator made -/
def LcGo (J : It) (g : TG) (tt : TT) (te : TE) (vs : List Nat) (σ : L2.St) (Q : VK) (H1 : Hp) : Prop := ∀ D, H1 D = none → ∃ W : Nat → Nat → Hp → Prop, (∃ m, W 0 m (upd H1 D (.lst []))) ∧ ∀ i m H, W i m H →
  (J.stop i H ∧ Q (.ref D) H) ∨ (J.go i H ∧ ∃ Nx : Hp → Prop, (∀ H', Nx H' → ∃ m', m' < m ∧ W (i + 1) m' H') ∧ ∀ x H', J.yld i H x H' → g x (wipe σ vs) H' fun σ2 H2 => wipe σ2 vs = wipe σ vs ∧ tt σ2 H2 fun b H3 =>
    if b = true then te σ2 H3 fun y H4 => ∃ acc, H4 D = some (.lst acc) ∧ acc.length < sizeLine ∧ Nx (upd H4 D (.lst (acc ++ [y]))) else Nx H3)
theorem c_lc {wi : TI} {g : TG} {vs : List Nat} (h : wi σ H fun J H1 => LcGo J g tt te vs σ Q H1) : tLc wi g tt te vs σ H Q := h
theorem c_iR1 {R : It → Hp → Prop} (h : ts σ H fun vs H1 => ∃ j : Int, vs = [.int j] ∧ -(2 ^ 62) ≤ j ∧ j < 2 ^ 62 ∧ R (Itr 0 j.toNat) H1) : iRng1 ts σ H R := h
theorem c_iR2 {R : It → Hp → Prop} (h : ts σ H fun vs H1 => ∃ i j : Int, vs = [.int i, .int j] ∧ (-(2 ^ 62) ≤ i ∧ i < 2 ^ 62 ∧ -(2 ^ 62) ≤ j ∧ j < 2 ^ 62) ∧ R (Itr i (j - i).toNat) H1) : iRng2 ts σ H R := h
theorem c_iL {R : It → Hp → Prop} (h : tl σ H fun x H1 => ∃ a, x = .ref a ∧ (∃ xs, SqL K H1 a xs) ∧ R (Itl K a) H1) : iList K tl σ H R := h
theorem c_iT {R : It → Hp → Prop} (h : tl σ H fun x H1 => ∃ a, x = .ref a ∧ (∃ xs, SqT K H1 a xs) ∧ R (Itt K a) H1) : iTup K tl σ H R := h
/-- the ints lo, lo + 1, .. -/
def intsV (lo : Int) (n : Nat) : List V := (List.range n).map fun (k : Nat) => V.int (lo + (k : Int))
theorem intsV_len (lo : Int) (n : Nat) : (intsV lo n).length = n := by unfold intsV; simp
theorem intsV_get {lo : Int} {n k : Nat} {x : V} (h : (intsV lo n)[k]? = some x) : k < n ∧ x = .int (lo + k) := by
  unfold intsV at h
  rw [List.getElem?_map] at h
  have hk : k < n := by
    by_cases q : k < n
    · exact q
    · rw [List.getElem?_eq_none (by simp; omega)] at h
      cases h
  rw [List.getElem?_range hk] at h
  exact ⟨hk, (Option.some.inj h).symm⟩
theorem intsV_at {lo : Int} {n k : Nat} (h : k < n) : (intsV lo n)[k]? = some (.int (lo + k)) := by
  unfold intsV
  rw [List.getElem?_map, List.getElem?_range h]
  rfl
theorem lcgo_r (h : ∀ D H2, H D = none → Same H H2 → H2 D = some (.lst []) → ∃ Pv, LcAsk (intsV lo n) tt te i σ (fun _ => True) D H2 Q Pv) : LcGo (Itr lo n) (gName i) tt te [i] σ Q H := by
  intro D hD
  obtain ⟨Pv, A⟩ := h D _ hD (same_new hD) upd_same
  have len := intsV_len lo n
  refine lc_range (lo := lo) (n := n) (LcP Pv D) ⟨[], upd_same, Nat.le_refl _, A.start⟩ (fun k H hk p => ?_) (fun H p => ?_)
  · obtain ⟨acc, e, hl, p⟩ := p
    exact ⟨by simp [wipe], A.turn k (.int (lo + k)) acc H (intsV_at hk) hl e p⟩
  · obtain ⟨acc, e, hl, p⟩ := p
    rw [← len] at hl p
    exact A.done acc H hl e p
theorem lcgo_l (h : ∀ D H2, H D = none → Same H H2 → H2 D = some (.lst []) → ∃ Pv, LcAsk xs tt te i σ (fun H => SqL K H a xs) D H2 Q Pv) : LcGo (Itl K a) (gName i) tt te [i] σ Q H := by
  intro D hD
  obtain ⟨Pv, A⟩ := h D _ hD (same_new hD) upd_same
  refine lc_list (K := K) (a := a) (xs := xs) (LcP Pv D) ⟨[], upd_same, Nat.le_refl _, A.start⟩ (fun k H _ ⟨acc, _, _, p⟩ => A.stays k acc H p) (fun k x H hk p => ?_) (fun H p => ?_)
  · obtain ⟨acc, e, hl, p⟩ := p
    exact ⟨by simp [wipe], A.turn k x acc H hk hl e p⟩
  · obtain ⟨acc, e, hl, p⟩ := p
    exact A.done acc H hl e p
theorem lcgo_t (h : ∀ D H2, H D = none → Same H H2 → H2 D = some (.lst []) → ∃ Pv, LcAsk xs tt te i σ (fun H => SqT K H a xs) D H2 Q Pv) : LcGo (Itt K a) (gName i) tt te [i] σ Q H := by
  intro D hD
  obtain ⟨Pv, A⟩ := h D _ hD (same_new hD) upd_same
  refine lc_tup (K := K) (a := a) (xs := xs) (LcP Pv D) ⟨[], upd_same, Nat.le_refl _, A.start⟩ (fun k H _ ⟨acc, _, _, p⟩ => A.stays k acc H p) (fun k x H hk p => ?_) (fun H p => ?_)
  · obtain ⟨acc, e, hl, p⟩ := p
    exact ⟨by simp [wipe], A.turn k x acc H hk hl e p⟩
  · obtain ⟨acc, e, hl, p⟩ := p
    exact A.done acc H hl e p
theorem c_lcR1 {j : Int} (j0 : -100000 ≤ j) (j1 : j ≤ 100000) (h : ∀ D H2, H D = none → Same H H2 → H2 D = some (.lst []) → ∃ Pv, LcAsk (intsV 0 j.toNat) tt te i σ (fun _ => True) D H2 Q Pv) :
    ∃ j' : Int, [V.int j] = [.int j'] ∧ -(2 ^ 62) ≤ j' ∧ j' < 2 ^ 62 ∧ LcGo (Itr 0 j'.toNat) (gName i) tt te [i] σ Q H := ⟨j, rfl, by omega, by omega, lcgo_r h⟩
theorem c_lcL (e : SqL K H a xs) (h : ∀ D H2, H D = none → Same H H2 → H2 D = some (.lst []) → ∃ Pv, LcAsk xs tt te i σ (fun H => SqL K H a xs) D H2 Q Pv) :
    ∃ a', V.ref a = .ref a' ∧ (∃ xs, SqL K H a' xs) ∧ LcGo (Itl K a') (gName i) tt te [i] σ Q H := ⟨a, rfl, ⟨xs, e⟩, lcgo_l h⟩
theorem c_lcT (e : SqT K H a xs) (h : ∀ D H2, H D = none → Same H H2 → H2 D = some (.lst []) → ∃ Pv, LcAsk xs tt te i σ (fun H => SqT K H a xs) D H2 Q Pv) :
    ∃ a', V.ref a = .ref a' ∧ (∃ xs, SqT K H a' xs) ∧ LcGo (Itt K a') (gName i) tt te [i] σ Q H := ⟨a, rfl, ⟨xs, e⟩, lcgo_t h⟩

/-! ### for loops -/
def ForGo (J : It) (g : TG) (tb : TS) (D : Ends) (σ : L2.St) (H1 : Hp) : Prop := ∃ W : Nat → Nat → L2.St → Hp → Prop, (∃ m, W 0 m σ H1) ∧ ∀ i m σ H, W i m σ H →
  (J.stop i H ∧ D.nx σ H) ∨ (J.go i H ∧ ∃ N : L2.St → Hp → Prop, (∀ σ' H', N σ' H' → ∃ m', m' < m ∧ W (i + 1) m' σ' H') ∧ ∀ x H', J.yld i H x H' → g x σ H' fun σ2 H2 => tb { D with nx := N, ct := N, bk := D.nx } σ2 H2)
theorem c_for {wi : TI} {g : TG} {tb : TS} {D : Ends} (h : wi σ H fun J H1 => ForGo J g tb D σ H1) : tFor wi g tb D σ H := h
/-- what a loop over the items xs asks -/
structure ForAsk (xs : List V) (g : TG) (tb : TS) (D : Ends) (σ : L2.St) (stay : Hp → Prop) (H1 : Hp) (Pv : Nat → L2.St → Hp → Prop) : Prop where
  start : Pv 0 σ H1
  stays : ∀ k σ H, Pv k σ H → stay H
  turn : ∀ k x σ H, xs[k]? = some x → Pv k σ H → g x σ H fun σ2 H2 => tb { D with nx := Pv (k + 1), ct := Pv (k + 1), bk := D.nx } σ2 H2
  done : ∀ σ H, Pv xs.length σ H → D.nx σ H
theorem c_forR1 {g : TG} {tb : TS} {D : Ends} {j : Int} (j0 : -100000 ≤ j) (j1 : j ≤ 100000) (h : ∃ Pv, ForAsk (intsV 0 j.toNat) g tb D σ (fun _ => True) H Pv) :
    ∃ j' : Int, [V.int j] = [.int j'] ∧ -(2 ^ 62) ≤ j' ∧ j' < 2 ^ 62 ∧ ForGo (Itr 0 j'.toNat) g tb D σ H := by
  obtain ⟨Pv, A⟩ := h
  refine ⟨j, rfl, by omega, by omega, for_range (lo := 0) (n := j.toNat) Pv A.start (fun k σ H hk p => A.turn k _ σ H (intsV_at hk) p) (fun σ H p => A.done σ H ?_)⟩
  rw [intsV_len]; exact p
theorem c_forL {g : TG} {tb : TS} {D : Ends} (e : SqL K H a xs) (h : ∃ Pv, ForAsk xs g tb D σ (fun H => SqL K H a xs) H Pv) :
    ∃ a', V.ref a = .ref a' ∧ (∃ xs, SqL K H a' xs) ∧ ForGo (Itl K a') g tb D σ H := by
  obtain ⟨Pv, A⟩ := h
  exact ⟨a, rfl, ⟨xs, e⟩, for_list (K := K) (a := a) (xs := xs) Pv A.start (fun k σ H _ p => A.stays k σ H p) (fun k x σ H hk p => A.turn k x σ H hk p) A.done⟩
theorem c_forT {g : TG} {tb : TS} {D : Ends} (e : SqT K H a xs) (h : ∃ Pv, ForAsk xs g tb D σ (fun H => SqT K H a xs) H Pv) :
    ∃ a', V.ref a = .ref a' ∧ (∃ xs, SqT K H a' xs) ∧ ForGo (Itt K a') g tb D σ H := by
  obtain ⟨Pv, A⟩ := h
  exact ⟨a, rfl, ⟨xs, e⟩, for_tup (K := K) (a := a) (xs := xs) Pv A.start (fun k σ H _ p => A.stays k σ H p) (fun k x σ H hk p => A.turn k x σ H hk p) A.done⟩
end

theorem c_cut {D : Ends} {σ : L2.St} {H : Hp} {t u : TS} (M : L2.St → Hp → Prop) (h : t { D with nx := M } σ H) (k : ∀ σ' H', M σ' H' → u D σ' H') : Evl.tCut t u D σ H := ⟨M, h, k⟩
/-! ### and, or as values -/
section
variable {K : PySem.W.Frag} {σ : L2.St} {H : Hp} {Q : VK} {ta tb : TE} {x y : V} {B : Bool → Hp → Prop}
def AndV (tb : TE) (σ : L2.St) (Q : VK) (x : V) (H : Hp) : Prop := ∃ c, x = .bl c ∧ if c = true then tb σ H Q else Q (.bl false) H
def OrV (tb : TE) (σ : L2.St) (Q : VK) (x : V) (H : Hp) : Prop := ∃ c, x = .bl c ∧ if c = true then Q (.bl true) H else tb σ H Q
def NotV (Q : VK) (x : V) (H : Hp) : Prop := ∃ c, x = .bl c ∧ Q (.bl (!c)) H
theorem c_andV (h : ta σ H fun x H1 => AndV tb σ Q x H1) : tAndV ta tb σ H Q := h
theorem c_orV (h : ta σ H fun x H1 => OrV tb σ Q x H1) : tOrV ta tb σ H Q := h
theorem c_notV (h : ta σ H fun x H1 => NotV Q x H1) : tNotV ta σ H Q := h
theorem c_andB {b : Bool} (h1 : b = true → tb σ H Q) (h2 : b = false → Q (.bl false) H) : AndV tb σ Q (.bl b) H := ⟨b, rfl, iteB h1 h2⟩
theorem c_orB {b : Bool} (h1 : b = true → Q (.bl true) H) (h2 : b = false → tb σ H Q) : OrV tb σ Q (.bl b) H := ⟨b, rfl, iteB h1 h2⟩
theorem c_notB {b : Bool} (h : Q (.bl (!b)) H) : NotV Q (.bl b) H := ⟨b, rfl, h⟩
def TruAt (K : PySem.W.Frag) (B : Bool → Hp → Prop) (x : V) (H : Hp) : Prop := ∃ k, TruV K x H k ∧ B k H
theorem c_tru (h : ta σ H fun x H1 => TruAt K B x H1) : tTruK K ta σ H B := h
theorem c_truL {p : Addr} {xs : List V} (e : H p = some (.lst xs)) (h : B (!xs.isEmpty) H) : TruAt K B (.ref p) H := ⟨_, .inl ⟨xs, SqL.of e, rfl⟩, h⟩
theorem c_truT {p : Addr} {xs : List V} (e : H p = some (.tup xs)) (h : B (!xs.isEmpty) H) : TruAt K B (.ref p) H := ⟨_, .inr (.inl ⟨xs, SqT.of e, rfl⟩), h⟩
def OrT (K : PySem.W.Frag) (tb : TE) (σ : L2.St) (Q : VK) (x : V) (H : Hp) : Prop := ∃ k, TruV K x H k ∧ if k = true then Q x H else tb σ H Q
theorem c_orT (h : ta σ H fun x H1 => OrT K tb σ Q x H1) : tOrT K ta tb σ H Q := h
theorem c_orTL {p : Addr} {xs : List V} (e : H p = some (.lst xs)) (h1 : xs ≠ [] → Q (.ref p) H) (h2 : xs = [] → tb σ H Q) : OrT K tb σ Q (.ref p) H := by
  refine ⟨_, .inl ⟨xs, SqL.of e, rfl⟩, ?_⟩
  cases xs with
  | nil => exact iteF (h2 rfl)
  | cons x r => exact iteT (h1 (by intro q; cases q))
theorem c_orT1 {p : Addr} {xs : List V} {d : V} (e : H p = some (.lst xs)) (h : ∀ q H1 ys, Same H H1 → H1 q = some (.lst ys) → (ys = xs ∧ xs ≠ [] ∨ xs = [] ∧ ys = [d]) → Q (.ref q) H1) : OrT K (tLst (tCons (tC d) tNil)) σ Q (.ref p) H := by
  refine c_orTL e (fun hn => h p H xs (Same.refl _) e (.inl ⟨rfl, hn⟩)) (fun hn => ?_)
  exact ⟨by show 1 ≤ sizeLine; decide, fun q hq => h q _ [d] (same_new hq) upd_same (.inr ⟨hn, rfl⟩)⟩
/-! ### C(..) -/
def MakeAt (C : Addr) (sp : Sp) (E : XK) (Q : VK) (vs : List V) (H1 : Hp) : Prop := ∀ x dx, H1 x = none → H1 dx = none → dx ≠ x → sp (V.ref x :: vs) (upd (upd H1 dx (.own x)) x (.ins C dx [])) (fun v H2 => v = .non ∧ Q (.ref x) H2) E
theorem c_make {C : Addr} {sp : Sp} {E : XK} {ts : TA} (h : ts σ H fun vs H1 => MakeAt C sp E Q vs H1) : StX.tMakeR C sp E ts σ H Q := h
theorem c_mk {C : Addr} {sp : Sp} {E : XK} {vs : List V} (h : ∀ x dx H2, H x = none → Same H H2 → H2 x = some (.ins C dx []) → sp (.ref x :: vs) H2 (fun v H3 => v = .non ∧ Q (.ref x) H3) E) : MakeAt C sp E Q vs H := fun x dx hx hdx ne =>
  h x dx _ hx (fun b o e => by rw [upd_ne (ne_of_none e hx), upd_ne (ne_of_none e hdx)]; exact e) upd_same
/-! ### isinstance -/
theorem c_isi {c : V} {t u : Value} {b : Bool} (hc : ClsV c u) (ht : TyX K H x t) (e : PySem.W.kitOne K t u = some b) (h : Q (.bl b) H) : rIsi K [x, c] H Q := ⟨x, c, t, u, b, rfl, hc, ht, e, h⟩
theorem c_eqD {d e : PyData} (hd : Dp K H x d) (he : Dp K H y e) (sd : SeqAt.shaped d = true) (se : SeqAt.shaped e = true) (h : Q (.bl (PyData.eqv d e)) H) : rEqD K x y H Q := ⟨d, e, hd, he, sd, se, h⟩
theorem c_neD {d e : PyData} (hd : Dp K H x d) (he : Dp K H y e) (sd : SeqAt.shaped d = true) (se : SeqAt.shaped e = true) (h : Q (.bl (!PyData.eqv d e)) H) : rNeD K x y H Q := ⟨d, e, hd, he, sd, se, h⟩
end
/-! ### data: tuples and lists of ints -/
theorem dpAll_ints {K : PySem.W.Frag} {H : Hp} : ∀ ns : List Int, DpAll K H (ns.map V.int) (ns.map PyData.int)
  | [] => .nil
  | n :: r => .cons (.int n) (dpAll_ints r)
theorem dp_tupI {K : PySem.W.Frag} {H : Hp} {p : Addr} {ns : List Int} (e : H p = some (.tup (ns.map V.int))) : Dp K H (.ref p) (.tuple (ns.map PyData.int)) := .tup (SqT.of e) (dpAll_ints ns)
theorem dp_lstI {K : PySem.W.Frag} {H : Hp} {p : Addr} {ns : List Int} (e : H p = some (.lst (ns.map V.int))) : Dp K H (.ref p) (.list (ns.map PyData.int)) := .lst (SqL.of e) (dpAll_ints ns)
theorem canLay_ints : ∀ ns : List Int, PyData.canLayAll0 (ns.map PyData.int) = true
  | [] => by simp [PyData.canLayAll0]
  | n :: r => by simp [PyData.canLayAll0, PyData.canLay0, canLay_ints r]
theorem depth_ints : ∀ ns : List Int, PyData.depthAll (ns.map PyData.int) = 0
  | [] => by simp [PyData.depthAll]
  | n :: r => by simp [PyData.depthAll, PyData.depth, depth_ints r]
theorem shaped_tupI (ns : List Int) : SeqAt.shaped (.tuple (ns.map PyData.int)) = true := by simp [SeqAt.shaped, PyData.canLay0, canLay_ints, PyData.depth, depth_ints]
theorem shaped_lstI (ns : List Int) : SeqAt.shaped (.list (ns.map PyData.int)) = true := by simp [SeqAt.shaped, PyData.canLay0, canLay_ints, PyData.depth, depth_ints]
theorem eqvAll_ints : ∀ ns ms : List Int, PyData.eqvAll (ns.map PyData.int) (ms.map PyData.int) = decide (ns = ms)
  | [], [] => by simp [PyData.eqvAll]
  | [], m :: s => by simp [PyData.eqvAll]
  | n :: r, [] => by simp [PyData.eqvAll]
  | n :: r, m :: s => by
    rw [List.map_cons, List.map_cons, PyData.eqvAll, eqvAll_ints r s]
    by_cases h : n = m <;> simp [PyData.eqv, h]
theorem eqv_tupI (ns ms : List Int) : PyData.eqv (.tuple (ns.map PyData.int)) (.tuple (ms.map PyData.int)) = decide (ns = ms) := by rw [PyData.eqv, eqvAll_ints]
theorem eqv_lstI (ns ms : List Int) : PyData.eqv (.list (ns.map PyData.int)) (.list (ms.map PyData.int)) = decide (ns = ms) := by rw [PyData.eqv, eqvAll_ints]

/-! ### methods of lists -/
section
variable {K : PySem.W.Frag} {σ : L2.St} {H : Hp} {Q : VK} {to : TE} {ts : TA} {T : String} {r : V → List V → Hp → VK → Prop} {p : Addr} {xs ys : List V} {y : V}
def BmAt (K : PySem.W.Frag) (T : String) (r : V → List V → Hp → VK → Prop) (ts : TA) (σ : L2.St) (Q : VK) (x : V) (H : Hp) : Prop := tyV K T x H ∧ ts σ H fun xs H2 => r x xs H2 Q
theorem c_bm (h : to σ H fun x H1 => BmAt K T r ts σ Q x H1) : tBM K T r to ts σ H Q := h
theorem c_bmL (e : H p = some (.lst xs)) (h : ts σ H fun ys H2 => r (.ref p) ys H2 Q) : BmAt K "list" r ts σ Q (.ref p) H := ⟨.inl ⟨rfl, _, SqL.of e⟩, h⟩
theorem c_append (e : H p = some (.lst xs)) (hl : xs.length ≤ 100000) (h : ∀ H1, (∀ b, b ≠ p → H1 b = H b) → H1 p = some (.lst (xs ++ [y])) → Q .non H1) : rAppend (.ref p) [y] H Q :=
  ⟨p, xs, y, rfl, rfl, e, Nat.lt_of_le_of_lt hl (by decide), h _ (fun b hb => upd_ne hb) upd_same⟩
end
end Sw

set_option Elab.async false
set_option linter.all false
set_option maxRecDepth 100000
set_option maxHeartbeats 4000000
/-! SwG: tuple(elt for x in xs if test), xs a list or a tuple. -/
namespace Sw
open PySem PySem.Spec PyProof.Rows L2

/-! ### a sequence that is walked -/
structure SeqW (pr : Program) (wd : World) (hp : Heap) (ax : Addr) (items : Array Value) (it : Obj) (SW : Addr → Nat → Heap → Prop) : Prop where
  iter : ∀ {A : Around} {E : Value → Shared → Prop} {s : Shared} {Q : Value → Shared → Prop}, s.heap = hp → Q (.ref s.heap.objs.size) { s with heap := s.heap.push it } → wpAny (model pr wd) A (pyIter (.ref ax)) Q E s
  walks : ∀ (A : Around) (I : Addr), A.handled = none → ax ≠ I → Walks pr wd A I [I, ax] [I] items.size (fun i v => items[i]? = some v) (SW I)
  start : ∀ (I : Addr) (hq : Heap), hq.get? I = some it → (∀ u, hp.get? ax = some u → hq.get? ax = some u) → SW I 0 hq
  lt : ax < hp.objs.size
  fr : it.isFreed = false
  cls : ∀ u, hp.get? ax = some u → u.cls ≠ .none
theorem seqW_list {pr : Program} {wd : World} {hp : Heap} {ax : Addr} {items : Array Value} (h : hp.IsList ax items) :
    SeqW pr wd hp ax items { cls := .type "list_iterator", data := .fields #[.ref ax, .int 0 0] } (fun I i hq => hq.IsListIter I ax i ∧ hq.IsList ax items) where
  iter := fun {A E s Q} e q => by subst e; exact wpAny_pyIter_list h q
  walks := fun A I hA ne => Walks.list hA I ax ne items
  start := fun I hq hi k => ⟨⟨_, hi, rfl, rfl⟩, h.at fun u e => k u e⟩
  lt := by obtain ⟨_, e, _⟩ := id h; exact Heap.lt_size e
  fr := rfl
  cls := fun u e => by
    obtain ⟨o, e1, e2, _⟩ := id h
    rw [e1] at e
    cases e
    rw [e2]
    exact fun z => nomatch z
theorem seqW_tup {pr : Program} {wd : World} {hp : Heap} {ax : Addr} {items : Array Value} (h : hp.IsTuple ax items) :
    SeqW pr wd hp ax items { cls := .type "tuple_iterator", data := .fields #[.ref ax, .int 0 0] } (fun I i hq => hq.IsTupleIter I ax i ∧ hq.IsTuple ax items) where
  iter := fun {A E s Q} e q => by subst e; exact wpAny_pyIter_tuple h q
  walks := fun A I hA ne => Walks.tuple hA I ax ne items
  start := fun I hq hi k => ⟨⟨_, hi, rfl, rfl⟩, h.at fun u e => k u e⟩
  lt := by obtain ⟨_, e, _⟩ := id h; exact Heap.lt_size e
  fr := rfl
  cls := fun u e => by
    obtain ⟨o, e1, e2, _⟩ := id h
    rw [e1] at e
    cases e
    rw [e2]
    exact fun z => nomatch z

/-! ### quiet tests and elements -/
/-- in the block's frame: the item iv stands at x, what h0 holds is held -/
def QE (pr : Program) (wd : World) (ce : Env) (h0 : Heap) (x : Str) (iv : Value) (e : Expr) (R : Value → Prop) : Prop :=
  ∀ (A' : Around) (E' : Value → Shared → Prop) (sq : Shared) (mq : Str → Option Value), A'.handled = none → sq.heap.Ns ce.locals mq → mq x = some iv → (∀ b o, h0.get? b = some o → sq.heap.get? b = some o) →
    wpAny (model pr wd) A' (eval e ce) (fun y sr => R y ∧ Keeps sq sr) E' sq
def QT (pr : Program) (wd : World) (ce : Env) (h0 : Heap) (x : Str) (iv : Value) (e : Expr) (b : Bool) : Prop :=
  ∀ (A' : Around) (E' : Value → Shared → Prop) (sq : Shared) (mq : Str → Option Value), A'.handled = none → sq.heap.Ns ce.locals mq → mq x = some iv → (∀ b o, h0.get? b = some o → sq.heap.get? b = some o) →
    wpAny (model pr wd) A' (isTrue e ce (eval e ce)) (fun y sr => y = b ∧ Keeps sq sr) E' sq
theorem keeps_tr {s1 s2 s3 : Shared} (h1 : Keeps s1 s2) (h2 : Keeps s2 s3) : Keeps s1 s3 := by
  obtain ⟨h', t', rfl, k1⟩ := h1
  obtain ⟨h'', t'', rfl, k2⟩ := h2
  exact ⟨h'', t'', rfl, fun b o e => k2 b o (k1 b o e)⟩
theorem keeps_get {s1 s2 : Shared} (h : Keeps s1 s2) {b : Addr} {o : Obj} (e : s1.heap.get? b = some o) : s2.heap.get? b = some o := by
  obtain ⟨h', t', rfl, k1⟩ := h
  exact k1 b o e
theorem keeps_ns {s1 s2 : Shared} (h : Keeps s1 s2) {L : Addr} {m : Str → Option Value} (e : s1.heap.Ns L m) : s2.heap.Ns L m := by
  obtain ⟨h', t', rfl, k1⟩ := h
  exact e.keeps k1

/-- what the generator's tests and elements are worth: pb, f of an item; by all that H holds -/
def GenOk (X : Cx) (scope : Scope) (x : Str) (ifs : List Expr) (elt : Expr) (σ : L2.St) (H : Hp) (xs : List V) (pb : V → Bool) (f : V → V) : Prop :=
  ∀ (pins : List (Addr × Obj)) (s : Shared), Inv X pins σ H s → ∀ (ce : Env) (h0 : Heap), ce.scope = scope → ce.cells = cloFrom X.env.cells scope.names [] → (∀ b o, (∀ ps, H b ≠ some (.tbl ps)) → s.heap.get? b = some o → h0.get? b = some o) →
    ∀ (v : V) (iv : Value), v ∈ xs → RelV v iv → (match ifs with | [] => pb v = true | [c] => QT X.prog X.w ce h0 x iv c (pb v) | _ => False) ∧ (pb v = true → QE X.prog X.w ce h0 x iv elt (RelV (f v)))

theorem passing_filter {α : Type} (pb : α → Bool) (xs : List α) : ∀ (j i : Nat) (pz : Nat → Bool), (∀ i v, xs[i]? = some v → pz i = pb v) → (passing pz xs.length 0)[j]? = some i → ∃ v, xs[i]? = some v ∧ (xs.filter pb)[j]? = some v := by
  intro j i pz hz h
  have key : ∀ (ys : List α) (off : Nat), (∀ i v, ys[i]? = some v → pz (off + i) = pb v) → (((List.range' off ys.length).filter pz).map fun i => ys[i - off]?) = (ys.filter pb).map some := by
    intro ys
    induction ys with
    | nil => intro off _; rfl
    | cons y r ih =>
      intro off hy
      have h0 : pz off = pb y := by have := hy 0 y rfl; simpa using this
      have hr := ih (off + 1) (fun i v e => by have := hy (i + 1) v (by simpa using e); rw [← this]; congr 1; omega)
      have e1 : (((List.range' (off + 1) r.length).filter pz).map fun i => (y :: r)[i - off]?) = (((List.range' (off + 1) r.length).filter pz).map fun i => r[i - (off + 1)]?) := by
        refine List.map_congr_left fun i hi => ?_
        have hm := (List.mem_filter.mp hi).1
        have hlo : off + 1 ≤ i := (List.mem_range'_1.mp hm).1
        have e2 : i - off = (i - (off + 1)) + 1 := by omega
        rw [e2, List.getElem?_cons_succ]
      rw [List.length_cons, List.range'_succ, List.filter_cons, List.filter_cons, h0]
      cases hb : pb y
      · simp only [Bool.false_eq_true, if_false]
        rw [e1]; exact hr
      · simp only [if_true, List.map_cons]
        rw [e1, hr]
        simp
  have hk := key xs 0 (fun i v e => by rw [Nat.zero_add]; exact hz i v e)
  unfold passing at h
  rw [List.drop_zero, List.range_eq_range'] at h
  have h1 : (((List.range' 0 xs.length).filter pz).map fun i => xs[i - 0]?)[j]? = some xs[i]? := by
    rw [List.getElem?_map, h]; rfl
  rw [hk, List.getElem?_map] at h1
  cases e : (xs.filter pb)[j]? with
  | none => rw [e] at h1; cases h1
  | some v =>
    rw [e] at h1
    exact ⟨v, (Option.some.inj h1).symm, rfl⟩
theorem passing_len {α : Type} (pb : α → Bool) (xs : List α) (pz : Nat → Bool) (hz : ∀ i v, xs[i]? = some v → pz i = pb v) : (passing pz xs.length 0).length = (xs.filter pb).length := by
  have key : ∀ (ys : List α) (off : Nat), (∀ i v, ys[i]? = some v → pz (off + i) = pb v) → ((List.range' off ys.length).filter pz).length = (ys.filter pb).length := by
    intro ys
    induction ys with
    | nil => intro off _; rfl
    | cons y r ih =>
      intro off hy
      have h0 : pz off = pb y := by have := hy 0 y rfl; simpa using this
      have hr := ih (off + 1) (fun i v e => by have := hy (i + 1) v (by simpa using e); rw [← this]; congr 1; omega)
      rw [List.length_cons, List.range'_succ, List.filter_cons, List.filter_cons, h0]
      cases hb : pb y
      · simp only [Bool.false_eq_true, if_false]; exact hr
      · simp only [if_true, List.length_cons, hr]
  unfold passing
  rw [List.drop_zero, List.range_eq_range']
  exact key xs 0 (fun i v e => by rw [Nat.zero_add]; exact hz i v e)

/-! ### the generator made -/
section
variable {X : Cx} {pins : List (Addr × Obj)} {σ : L2.St} {H : Hp} {s : Shared}
/-- g, over the items xs, ready to be walked -/
def GReady (X : Cx) (pins : List (Addr × Obj)) (σ : L2.St) (H1 : Hp) (tp : Addr) (ys : List V) (g : Addr) (s5 : Shared) : Prop :=
  ∃ (fp wr : List Addr) (G : Array GenState → Array GenState → Prop) (F : Nat → Value → Prop) (SS : Nat → Shared → Prop),
    WalksS X.prog X.w X.A.in1.in1.in1 g fp wr G ys.length F SS ∧ SS 0 s5 ∧ (∀ b ∈ fp, b < s5.heap.objs.size) ∧ g ∈ fp ∧ (∀ i sz, SS i sz → sz.TypeIs (.ref g) "generator") ∧
    (∀ j v, F j v → ∃ y, ys[j]? = some y ∧ RelV y v) ∧ ∀ sz, Moved wr G s5 sz → ∃ H2, GxR.Tabbed tp H1 H2 ∧ Inv X pins σ H2 sz
theorem gen_seq {cd tp : Addr} {elt iter : Expr} {ifs : List Expr} {x : Str} {px gpos : Pos} {scope : Scope} {te : TE} {k : Nat} {Q' : Value → Shared → Prop} {R : List V → (V → Bool) → (V → V) → Hp → Prop}
    (hr : Room k X.A) (TB : GxR.TabB X.base X.mg cd tp) (hcode : X.env.code = .ref cd) (S : GxR.GenS X.env scope x) (hi : PE X iter te) (hfo : ∀ v, genFold iter X.env v = pure v) (I : Inv X pins σ H s)
    (h : te σ H fun v H1 => ∃ (ax : Addr) (xs : List V) (pb : V → Bool) (f : V → V), v = .ref ax ∧ (SqL X.K H1 ax xs ∨ SqT X.K H1 ax xs) ∧ GenOk X scope x ifs elt σ H1 xs pb f ∧ GxR.TabG H1 tp ∧ R xs pb f H1)
    (hQ : ∀ xs pb f H1 g s5, R xs pb f H1 → GReady X pins σ H1 tp ((xs.filter pb).map f) g s5 → Q' (.ref g) s5) :
    wpAny (model X.prog X.w) X.A (eval (.GeneratorExp elt [⟨.Name x px, iter, ifs, 0⟩] scope gpos) X.env) Q' X.xe s := by
  refine wpAny_GeneratorExp_walksQ hr.hd S.co (closure_ok S.free) S.cell S.dot S.loc S.kind (by have := hr.dp; omega) ?_ hfo
  refine thn (hi.run pins s σ H _ I h) fun xv s1 ⟨v, H1, I1, r1, q1⟩ => ?_
  obtain ⟨ax, xs, pb, f, rfl, hseq, gok, ⟨ps, hT, hTr⟩, hR⟩ := q1
  obtain rfl : xv = Value.ref ax := r1
  obtain ⟨its, rv, it, SW, W⟩ : ∃ (its : List Value) (_ : Vals xs its) (it : Obj) (SW : Addr → Nat → Heap → Prop), SeqW X.prog X.w s1.heap ax its.toArray it SW := by
    rcases hseq with hq | hq
    · obtain ⟨its, rv, hl, _⟩ := I1.list hq
      exact ⟨its, rv, _, _, seqW_list hl.isList⟩
    · obtain ⟨its, rv, hl, _⟩ := I1.tuple hq
      exact ⟨its, rv, _, _, seqW_tup hl⟩
  have itsLen : its.length = xs.length := rv.length.symm
  have hat : ∀ (i : Nat) (v : Value), its.toArray[i]? = some v → ∃ y, xs[i]? = some y ∧ RelV y v := fun i v hv => by
    have hv2 : its[i]? = some v := by simpa using hv
    have hlt : i < its.length := (List.getElem?_eq_some_iff.mp hv2).1
    obtain ⟨u, hu, ru⟩ := rv.get (List.getElem?_eq_getElem (show i < xs.length by omega))
    rw [hv2] at hu
    cases hu
    exact ⟨_, List.getElem?_eq_getElem (show i < xs.length by omega), ru⟩
  refine W.iter rfl ?_
  have axlt := W.lt
  have hTs : s1.heap.get? tp = some { cls := .none, data := .fields ps } := I1.hok tp _ hT
  have tplt : tp < s1.heap.objs.size := Heap.lt_size hTs
  have axT : ax ≠ tp := fun z => W.cls _ (by rw [z]; exact hTs) rfl
  have hT2 : (s1.heap.push it).get? tp = some { cls := .none, data := .fields ps } := Heap.get?_push_of_some _ hTs
  have cdh : PySem.W.CodeHd (s1.heap.push it) cd tp := TB.code.keeps fun b u e => Heap.get?_push_of_some _ (I1.bk b u e)
  have lim2 : (s1.heap.push it).NoLimit := I1.nolimit.push it
  have sz2 : (s1.heap.push it).objs.size = s1.heap.objs.size + 1 := Heap.size_push ..
  -- whatever the code object is
  have cont : ∀ (code : Value) (hz : Heap) (tk : Nat) (ps' : Array Value), Heap.ExtBut tp (s1.heap.push it) hz → (s1.heap.push it).objs.size ≤ hz.objs.size → hz.get? tp = some { cls := .none, data := .fields ps' } → (∃ more, ps' = ps ++ more) → TriplesOk ps'.toList →
      wpAny (model X.prog X.w) X.A (builtinsFor X.env.globals X.env.builtins) (fun bi sb =>
        ∃ Ia fp wr n₀ Pf St₀ pz F, Value.ref s1.heap.objs.size = .ref Ia ∧ (∀ A' : Around, A'.handled = none → Walks X.prog X.w A' Ia fp wr n₀ Pf St₀) ∧ St₀ 0 sb.heap ∧ (∀ b ∈ fp, b < sb.heap.objs.size) ∧ sb.heap.NoLimit ∧ cStatics ∉ wr ∧
          (∀ href : Heap, (∀ b o, sb.heap.get? b = some o → href.get? b = some o) →
            QuietGen X.prog X.w (genEnv scope (cloFrom X.env.cells scope.names []) sb.heap.objs.size code bi X.env) x ifs elt (List.range sb.heap.objs.size) wr Pf pz F href) ∧
          (∀ g hg5 tk gs, gs.bare = true → sb.heap.objs.size < g → hg5.objs.size = g + 1 → (∀ b o, sb.heap.get? b = some o → hg5.get? b = some o) →
            WalksS X.prog X.w X.A.in4 g (g :: sb.heap.objs.size :: List.range sb.heap.objs.size) (sb.heap.objs.size :: wr) (GenOnlyQ sb.gens.size) (passing pz n₀ 0).length
              (fun j y => ∃ i, (passing pz n₀ 0)[j]? = some i ∧ F i y) (GenAt X.prog X.w X.A.in4 g sb.gens.size sb.heap.objs.size (List.range sb.heap.objs.size) wr pz n₀ F) →
            GenAt X.prog X.w X.A.in4 g sb.gens.size sb.heap.objs.size (List.range sb.heap.objs.size) wr pz n₀ F 0 { sb with gens := sb.gens.push gs, toks := tk, heap := hg5 } →
            Q' (.ref g) { sb with gens := sb.gens.push gs, toks := tk, heap := hg5 })) X.xe { s1 with heap := hz, toks := tk } := by
    intro code hz tk ps' hx hsz hT3 hmore ht3
    obtain ⟨bm, ob, e1, e2, e3, e4, e5, e6, e7, e8⟩ := TB.bm
    have hcT : cStatics ≠ tp := fun e => by
      obtain ⟨_, hns, _⟩ := I1.nolimit
      obtain ⟨o', es, ep, ho, hd, _⟩ := hns
      rw [e, hTs] at ho
      cases ho
      cases hd
    have hclt : cStatics < s1.heap.objs.size := by
      obtain ⟨_, hns, _⟩ := I1.nolimit
      exact hns.lt
    have keepZ : ∀ b u, b ≠ tp → s1.heap.get? b = some u → hz.get? b = some u := fun b u hb e => hx b u hb (Heap.get?_push_of_some _ e)
    refine wpAny_builtinsFor (m := X.mg) (by rw [I1.ok.glob]; exact ((I1.mod.glob.keeps I1.bk).push it).extBut hx TB.gP) e1 e2 (keepZ _ _ e4 (I1.bk _ _ e5)) e6 e7 e8 ?_
    have hsz' : s1.heap.objs.size + 1 ≤ hz.objs.size := by rw [← sz2]; exact hsz
    have hitZ : hz.get? s1.heap.objs.size = some it := hx _ _ (Nat.ne_of_gt tplt) (Heap.get?_push_size _ W.fr)
    refine ⟨s1.heap.objs.size, [s1.heap.objs.size, ax], [s1.heap.objs.size], its.toArray.size, (fun i v => its.toArray[i]? = some v), SW s1.heap.objs.size, (fun i => match xs[i]? with | some v => pb v | none => false),
      (fun i y => ∃ v, xs[i]? = some v ∧ pb v = true ∧ RelV (f v) y), rfl, (fun A' hA => W.walks A' _ hA (Nat.ne_of_lt axlt)), W.start _ _ hitZ (fun u e => keepZ _ u axT e), ?_, lim2.extBut hx hcT, ?_, ?_, ?_⟩
    · intro b hb
      show b < hz.objs.size
      have hb' : b = s1.heap.objs.size ∨ b = ax := by simpa using hb
      rcases hb' with z | z
      · rw [z]; exact hsz'
      · rw [z]; exact Nat.lt_of_lt_of_le axlt (Nat.le_of_succ_le hsz')
    · intro z
      have z' : cStatics = s1.heap.objs.size := by simpa using z
      exact absurd hclt (by rw [z']; exact Nat.lt_irrefl _)
    · intro href hhref
      -- what the tests see
      obtain ⟨h0, g1, g2⟩ := restrict s1.heap fun b => decide (b ≠ tp)
      have see : ∀ (sq : Shared), (∀ b ∈ List.range hz.objs.size, b ∉ [s1.heap.objs.size] → ∀ o, href.get? b = some o → sq.heap.get? b = some o) → ∀ b o, h0.get? b = some o → sq.heap.get? b = some o := fun sq hk b o e => by
        have hb : b ≠ tp := fun z => by rw [z, g2 tp (by simp)] at e; cases e
        have e' : s1.heap.get? b = some o := by rw [← g1 b (decide_eq_true hb)]; exact e
        have hlt := Heap.lt_size e'
        exact hk b (List.mem_range.mpr (Nat.lt_of_lt_of_le hlt (Nat.le_of_succ_le hsz'))) (fun z => absurd hlt (by rw [List.mem_singleton.mp z]; exact Nat.lt_irrefl _)) o (hhref b o (keepZ b o hb e'))
      have ok := gok pins s1 I1 (genEnv scope (cloFrom X.env.cells scope.names []) hz.objs.size code builtinsNs X.env) h0 rfl rfl (fun b o hb e => by
        have hb' : b ≠ tp := fun z => hb ps (by rw [z]; exact hT)
        rw [g1 b (decide_eq_true hb')]; exact e)
      refine ⟨fun A' E' i v sq mq hA hPv hn hm hk => ?_, fun A' E' i v sq mq hA hPv hp hn hm hk => ?_⟩
      · obtain ⟨y, hy, ry⟩ := hat i v hPv
        obtain ⟨t1, _⟩ := ok y v (List.mem_of_getElem? hy) ry
        rw [hy]
        match ifs, t1 with
        | [], t1 =>
          simp only [List.forIn_nil]
          exact wpAny_pure ⟨(show pb y = true from t1).symm, GxR.keeps_refl _⟩
        | [c], t1 =>
          simp only [List.forIn_cons, List.forIn_nil]
          refine wpAny_bind ?_
          show wpAny _ _ (do let ok ← isTrue c _ (eval c _); pure (ForInStep.yield ok)) _ _ _
          refine wpAny_bind (wpAny_mono (t1 A' E' sq mq hA hn hm (see sq hk)) (fun r sr z => ?_) fun _ _ e => e)
          exact wpAny_pure (wpAny_pure z)
        | _ :: _ :: _, t1 => exact t1.elim
      · obtain ⟨y, hy, ry⟩ := hat i v hPv
        have hp' : pb y = true := by
          have hp2 : (match xs[i]? with | some v => pb v | none => false) = true := hp
          rw [hy] at hp2
          exact hp2
        obtain ⟨_, t2⟩ := ok y v (List.mem_of_getElem? hy) ry
        refine wpAny_mono (t2 hp' A' E' sq mq hA hn hm (see sq hk)) (fun r sr z => ?_) fun _ _ e => e
        exact ⟨⟨y, hy, hp', z.1⟩, z.2⟩
    · intro g hg5 tk5 gs hgb hag hsz5 hk5 W5 hgat
      have n0 : its.toArray.size = xs.length := by rw [List.size_toArray, itsLen]
      have hzz : ∀ (i : Nat) (v : V), xs[i]? = some v → (match xs[i]? with | some v => pb v | none => false) = pb v := fun i v e => by rw [e]
      rw [n0] at W5 hgat
      rw [passing_len pb xs _ hzz] at W5
      have W6 := W5.in4_3
      refine hQ xs pb f H1 g _ hR ⟨_, _, _, _, _, (by rw [List.length_map]; exact W6), hgat, ?_, List.mem_cons_self, fun i sz hs9 => ?_, ?_, fun sz hm => ?_⟩
      · intro b hb
        show b < hg5.objs.size
        have h8 : hz.objs.size < g := hag
        rw [hsz5]
        rcases List.mem_cons.mp hb with z | z
        · rw [z]; exact Nat.lt_succ_self _
        · rcases List.mem_cons.mp z with z | z
          · rw [z]; exact Nat.lt_succ_of_lt h8
          · exact Nat.lt_succ_of_lt (Nat.lt_trans (List.mem_range.mp z) h8)
      · obtain ⟨hg9, _⟩ := hs9
        exact hg9.typeIs
      · rintro j v ⟨i, hij, y, hy, _, ry⟩
        obtain ⟨y', hy', hj⟩ := passing_filter pb xs j i _ hzz hij
        rw [hy] at hy'
        cases hy'
        exact ⟨f y, by rw [List.getElem?_map, hj]; rfl, ry⟩
      · obtain ⟨more, em⟩ := hmore
        have nwr : ∀ b u, s1.heap.get? b = some u → b ∉ hz.objs.size :: [s1.heap.objs.size] := fun b u e hb => by
          have hl := Heap.lt_size e
          have hb' : b = hz.objs.size ∨ b = s1.heap.objs.size := by simpa using hb
          rcases hb' with z | z
          · exact absurd (Nat.lt_of_lt_of_le hl (Nat.le_of_succ_le hsz')) (by rw [z]; exact Nat.lt_irrefl _)
          · exact absurd hl (by rw [z]; exact Nat.lt_irrefl _)
        have J := GxR.inv_tab (more := more) (h' := sz.heap) (g' := sz.gens) (d' := sz.drawn) (t' := sz.toks) I1 hT (fun b u hb e => hm.heap b u (nwr b u e) (hk5 b u (keepZ b u hb e)))
          (by rw [← em]; exact hm.heap tp _ (nwr tp _ hTs) (hk5 tp _ hT3)) (AllBare.movedS (I1.bare.push hgb) hm)
        rw [GxR.sh_eta s1 sz hm.os] at J
        exact ⟨upd H1 tp (.tbl (ps ++ more)), ⟨⟨ps ++ more, upd_same, by rw [← em]; exact ht3⟩, fun b hb => upd_ne hb⟩, J⟩
  refine ⟨lim2, ?_⟩
  cases hf : codeAmong gpos ps.toList with
  | none =>
    refine wpAny_genexprCodeX hcode (cdh.code hT2 hTr) (cdh.tab hT2) hf fun c' hz tk hx hge hlt hco' _ htab' _ => ?_
    obtain ⟨o1, vs, f1, tf, fl, tg, inF, tx, tt, op, _, _, _, _, _, _, _, _, _, htr, _⟩ := hco'
    exact cont _ hz tk _ hx (Nat.le_trans hge (Nat.le_of_lt hlt)) htab'.2 ⟨_, rfl⟩ htr
  | some cv =>
    refine wpAny_genexprCode_hit hcode (cdh.code hT2 hTr) hf ?_
    exact cont cv (s1.heap.push it) s1.toks ps (Heap.ExtBut.refl _ _) (Nat.le_refl _) hT2 ⟨#[], by simp⟩ hTr

/-! ### tuple(elt for x in iter if test) -/
def tTupG (X : Cx) (scope : Scope) (x : Str) (ifs : List Expr) (elt : Expr) (tp : Addr) (te : TE) : TE := fun σ H Q => te σ H fun v H1 => ∃ (ax : Addr) (xs : List V) (pb : V → Bool) (f : V → V), v = .ref ax ∧ (SqL X.K H1 ax xs ∨ SqT X.K H1 ax xs) ∧
  GenOk X scope x ifs elt σ H1 xs pb f ∧ GxR.TabG H1 tp ∧ xs.length ≤ 100000 ∧ ∀ H2, GxR.Tabbed tp H1 H2 → ∀ p, H2 p = none → Q (.ref p) (upd H2 p (.tup ((xs.filter pb).map f)))
theorem pe_tupG {cd tp : Addr} {elt iter : Expr} {ifs : List Expr} {x : Str} {p px pos gpos : Pos} {scope : Scope} {te : TE} {k : Nat} (hr : Room k X.A) (TB : GxR.TabB X.base X.mg cd tp) (hcode : X.env.code = .ref cd) (S : GxR.GenS X.env scope x)
    (hg : Gl X "tuple") (hm : X.mg "tuple" = none) (hi : PE X iter te) (hfo : ∀ v, genFold iter X.env v = pure v := by intro _; rfl)
    (hb : bootBuiltins "tuple" = some (.type "tuple") := by decide +kernel)
    (he : starEach [.GeneratorExp elt [⟨.Name x px, iter, ifs, 0⟩] scope gpos] X.env = [(false, eval (.GeneratorExp elt [⟨.Name x px, iter, ifs, 0⟩] scope gpos) X.env)] := by rfl) :
    PE X (.Call (.Name "tuple" p) [.GeneratorExp elt [⟨.Name x px, iter, ifs, 0⟩] scope gpos] [] pos) (tTupG X scope x ifs elt tp te) := by
  refine ⟨fun pins s σ H Q I h => ?_⟩
  refine Call_ (ld_blt I hg hm hb (PyProof.Rows.callWith_type1 ?_ he rfl))
  refine Calls.spliced_cons (gen_seq (R := fun xs pb f H1 => xs.length ≤ 100000 ∧ ∀ H2, GxR.Tabbed tp H1 H2 → ∀ p, H2 p = none → Q (.ref p) (upd H2 p (.tup ((xs.filter pb).map f)))) hr TB hcode S hi hfo I h fun xs pb f H1 g s5 hR hG => ?_)
  refine Calls.spliced_nil ?_
  obtain ⟨fp, wr, G, F, SS, W, hst, hfp, hgm, hT, hitem, hinv⟩ := hG
  obtain ⟨hlen, hq⟩ := hR
  have hsz : ((xs.filter pb).map f).length ≤ sizeLine := by
    rw [List.length_map]
    exact Nat.le_trans (List.length_filter_le _ _) (Nat.le_trans hlen (by decide))
  refine call_tuple_gen W hT hst hfp hgm (fun sz acc hmv hio => ?_) hsz
  obtain ⟨H2, htab, J⟩ := hinv sz hmv
  have rvals : Vals ((xs.filter pb).map f) acc.toList := by
    have hl : acc.toList.length = ((xs.filter pb).map f).length := by rw [Array.length_toList]; exact hio.1
    have go : ∀ (ys : List V) (us : List Value), us.length = ys.length → (∀ (j : Nat) (u : Value), us[j]? = some u → ∃ y, ys[j]? = some y ∧ RelV y u) → Vals ys us := by
      intro ys
      induction ys with
      | nil =>
        intro us hl _
        cases us with
        | nil => exact .nil
        | cons _ _ => cases hl
      | cons y r ih =>
        intro us hl hu
        cases us with
        | nil => cases hl
        | cons u us =>
          obtain ⟨y', hy', ry⟩ := hu 0 u rfl
          have e : y' = y := by simpa using hy'.symm
          subst e
          refine .cons ry (ih us (by simpa using hl) fun j u' hj => ?_)
          obtain ⟨z, hz, rz⟩ := hu (j + 1) u' (by simpa using hj)
          exact ⟨z, by simpa using hz, rz⟩
    exact go _ _ hl fun j u hj => hitem j u (hio.2 j u (by simpa using hj))
  have hfresh : H2 sz.heap.objs.size = none := J.hok.fresh (Nat.le_refl _)
  have hob : (sz.heap.push { cls := .type "tuple", data := .seq acc }).get? sz.heap.objs.size = some { cls := .type "tuple", data := .seq acc } := Heap.get?_push_size _ rfl
  refine ⟨.ref sz.heap.objs.size, _, J.laid (t' := sz.toks) (a := sz.heap.objs.size) (o := .tup ((xs.filter pb).map f)) (fun b u e => Heap.get?_push_of_some _ e) (Nat.le_refl _) ?_, rfl, hq H2 htab _ hfresh⟩
  refine ⟨hsz, acc.toList, rvals, ?_⟩
  have e : acc.toList.toArray = acc := by simp
  rw [e]
  exact ⟨_, hob, rfl, _, rfl⟩
end

/-! ### quiet words -/
section
variable {pr : Program} {wd : World} {ce : Env} {h0 : Heap} {x y : Str} {iv : Value} {e e' c c' : Expr} {p q pos : Pos} {R R' : Value → Prop} {a b : Bool} {j : Nat}
theorem qe_x (hk : ce.scope.kind = .function) (hl : ce.scope.names.lookup x = some .local) (hd : (x == ("__debug__" : Str)) = false := by decide) : QE pr wd ce h0 x iv (.Name x p) (fun u => u = iv) :=
  fun A' E' sq mq _ hn hm _ => wpAny_Name (wpAny_loadName_local hk hl hn hm ⟨rfl, GxR.keeps_refl _⟩) hd
theorem qe_free {cl : Addr} {u : Value} (hk : ce.scope.kind = .function) (hl : ce.scope.names.lookup y = some .free) (hc : ce.cells.lookup y = some cl) (hcell : h0.IsCell cl (some u)) (hd : (y == ("__debug__" : Str)) = false := by decide)
    (hcd : (y == ("__classdict__" : Str)) = false := by decide) : QE pr wd ce h0 x iv (.Name y p) (fun z => z = u) := fun A' E' sq mq _ hn hm hk2 => by
  obtain ⟨o, ho, hd2⟩ := hcell
  exact wpAny_Name (wpAny_loadName_free hk hl hc ⟨o, hk2 _ _ ho, hd2⟩ ⟨rfl, GxR.keeps_refl _⟩ hcd) hd
theorem qe_imp (h : QE pr wd ce h0 x iv e R) (hi : ∀ u, R u → R' u) : QE pr wd ce h0 x iv e R' := fun A' E' sq mq h1 h2 h3 h4 =>
  wpAny_mono (h A' E' sq mq h1 h2 h3 h4) (fun y sr z => ⟨hi y z.1, z.2⟩) fun _ _ z => z
theorem qt_of (h : QE pr wd ce h0 x iv e (fun u => u = .bool b)) (ht : ∀ whole, isTrue e ce whole = (do let v ← whole; standAt e.pos; holding [v] (truthy v))) : QT pr wd ce h0 x iv e b := fun A' E' sq mq h1 h2 h3 h4 => by
  refine isTrue_plain (wpAny_mono (h A' E' sq mq h1 h2 h3 h4) (fun y sr z => ?_) fun _ _ z => z) (ht _)
  obtain ⟨rfl, k⟩ := z
  exact wpAny_truthy_bool ⟨rfl, k⟩
/-- .. whatever the whole is (and, or) -/
def QW (pr : Program) (wd : World) (ce : Env) (h0 : Heap) (x : Str) (iv : Value) (e : Expr) (b : Bool) : Prop :=
  ∀ (whole : Sem Value) (A' : Around) (E' : Value → Shared → Prop) (sq : Shared) (mq : Str → Option Value), A'.handled = none → sq.heap.Ns ce.locals mq → mq x = some iv → (∀ b o, h0.get? b = some o → sq.heap.get? b = some o) →
    wpAny (model pr wd) A' (isTrue e ce whole) (fun y sr => y = b ∧ Keeps sq sr) E' sq
theorem QW.qt (h : QW pr wd ce h0 x iv e b) : QT pr wd ce h0 x iv e b := h _
theorem qw_and1 (h : QT pr wd ce h0 x iv c a) : QW pr wd ce h0 x iv (.BoolOp .And [c] pos) a := fun wh A' E' sq mq h1 h2 h3 h4 => by
  refine isTrue_and (wpAny_mono (h A' E' sq mq h1 h2 h3 h4) (fun r sr z => ?_) fun _ _ z => z)
  cases r with
  | true => exact isTrue_and_nil z
  | false => exact z
theorem qw_or1 (h : QT pr wd ce h0 x iv c a) : QW pr wd ce h0 x iv (.BoolOp .Or [c] pos) a := fun wh A' E' sq mq h1 h2 h3 h4 => by
  refine isTrue_or (wpAny_mono (h A' E' sq mq h1 h2 h3 h4) (fun r sr z => ?_) fun _ _ z => z)
  cases r with
  | false => exact isTrue_or_nil z
  | true => exact z
theorem qw_and {rest : List Expr} (h : QT pr wd ce h0 x iv c a) (hb : a = true → QW pr wd ce h0 x iv (.BoolOp .And (c' :: rest) pos) b) : QW pr wd ce h0 x iv (.BoolOp .And (c :: c' :: rest) pos) (a && b) := fun wh A' E' sq mq h1 h2 h3 h4 => by
  refine isTrue_and (wpAny_mono (h A' E' sq mq h1 h2 h3 h4) (fun r sr z => ?_) fun _ _ z => z)
  obtain ⟨rfl, k⟩ := z
  cases r with
  | true => exact wpAny_mono (hb rfl wh A' E' sr mq h1 (keeps_ns k h2) h3 fun b o e => keeps_get k (h4 b o e)) (fun y sz z => ⟨z.1, keeps_tr k z.2⟩) fun _ _ z => z
  | false => exact ⟨rfl, k⟩
theorem qw_or {rest : List Expr} (h : QT pr wd ce h0 x iv c a) (hb : a = false → QW pr wd ce h0 x iv (.BoolOp .Or (c' :: rest) pos) b) : QW pr wd ce h0 x iv (.BoolOp .Or (c :: c' :: rest) pos) (a || b) := fun wh A' E' sq mq h1 h2 h3 h4 => by
  refine isTrue_or (wpAny_mono (h A' E' sq mq h1 h2 h3 h4) (fun r sr z => ?_) fun _ _ z => z)
  obtain ⟨rfl, k⟩ := z
  cases r with
  | false => exact wpAny_mono (hb rfl wh A' E' sr mq h1 (keeps_ns k h2) h3 fun b o e => keeps_get k (h4 b o e)) (fun y sz z => ⟨z.1, keeps_tr k z.2⟩) fun _ _ z => z
  | true => exact ⟨rfl, k⟩
/-- a comparison of two quiet things -/
theorem qt_cmp {op : CmpOp} (h1 : QE pr wd ce h0 x iv e R) (h2 : QE pr wd ce h0 x iv e' R') (hb : behindInMarks op e' = false)
    (hc : ∀ (A' : Around) (E' : Value → Shared → Prop) (sq : Shared) (u v : Value), R u → R' v → A'.handled = none → (∀ b o, h0.get? b = some o → sq.heap.get? b = some o) → wpAny (model pr wd) A' (compareOp op u v) (fun y sr => y = .bool b ∧ Keeps sq sr) E' sq) : QT pr wd ce h0 x iv (.Compare e [op] [e'] pos) b := fun A' E' sq mq k1 k2 k3 k4 => by
  refine wpAny_isTrue_Compare1 (wpAny_mono (h1 A' E' sq mq k1 k2 k3 k4) (fun u sr z => ?_) fun _ _ z => z) hb
  obtain ⟨ru, ku⟩ := z
  refine wpAny_mono (h2 A' E' sr mq k1 (keeps_ns ku k2) k3 fun b o e => keeps_get ku (k4 b o e)) (fun v st z => ?_) fun _ _ z => z
  obtain ⟨rv, kv⟩ := z
  refine wpAny_mono (hc A' E' st u v ru rv k1 fun b o e => keeps_get kv (keeps_get ku (k4 b o e))) (fun y sz z => ?_) fun _ _ z => z
  obtain ⟨rfl, kz⟩ := z
  exact wpAny_truthy_bool ⟨rfl, keeps_tr ku (keeps_tr kv kz)⟩
theorem qe_none : QE pr wd ce h0 x iv (.Constant .none j p) (RelV .non) := fun A' E' sq mq _ _ _ _ => Constant_none ⟨rfl, GxR.keeps_refl _⟩
theorem qt_isN {v : V} (h : QE pr wd ce h0 x iv e (RelV v)) : QT pr wd ce h0 x iv (.Compare e [.Is] [.Constant .none j p] pos) (decide (v = .non)) :=
  qt_cmp h qe_none (nomark _) fun A' E' sq u w ru rw _ _ => by
    cases (show w = Value.none from rw)
    exact is_none_gen ⟨by rw [ru.none_iff], GxR.keeps_refl _⟩
theorem qt_gt {i k : Int} (h : QE pr wd ce h0 x iv e (RelV (.int i))) (h' : QE pr wd ce h0 x iv e' (RelV (.int k))) : QT pr wd ce h0 x iv (.Compare e [.Gt] [e'] pos) (decide (k < i)) :=
  qt_cmp h h' (nomark _) fun A' E' sq u w ru rw _ _ => by
    obtain ⟨t, rfl⟩ := ru
    obtain ⟨t', rfl⟩ := rw
    exact gt_int ⟨rfl, GxR.keeps_refl _⟩
theorem qt_lt {i k : Int} (h : QE pr wd ce h0 x iv e (RelV (.int i))) (h' : QE pr wd ce h0 x iv e' (RelV (.int k))) : QT pr wd ce h0 x iv (.Compare e [.Lt] [e'] pos) (decide (i < k)) :=
  qt_cmp h h' (nomark _) fun A' E' sq u w ru rw _ _ => by
    obtain ⟨t, rfl⟩ := ru
    obtain ⟨t', rfl⟩ := rw
    exact lt_int ⟨rfl, GxR.keeps_refl _⟩
end
/-- the cell of a captured name, in the block -/
theorem cell_of {X : Cx} {pins : List (Addr × Obj)} {σ : L2.St} {H : Hp} {s : Shared} {scope : Scope} {ce : Env} {h0 : Heap} {y : Str} {i : Nat} {v : V} (I : Inv X pins σ H s) (hN : X.N[i]? = some y) (hs : σ[i]? = some (some v)) (hk : X.env.kindOf y = some .cell)
    (hvis : X.env.scope.names.lookup y = some .cell) (hcl : ce.cells = cloFrom X.env.cells scope.names []) (hlo : ∀ c, X.env.cells.lookup y = some c → (cloFrom X.env.cells scope.names []).lookup y = some c)
    (h0k : ∀ b o, (∀ ps, H b ≠ some (.tbl ps)) → s.heap.get? b = some o → h0.get? b = some o) : ∃ cl u, ce.cells.lookup y = some cl ∧ h0.IsCell cl (some u) ∧ RelV v u := by
  obtain ⟨m, hn, hl⟩ := I.loc
  obtain ⟨u, r, l⟩ := hl i y v hN hs (.inr (.inl hvis))
  rcases l with ⟨hk', _⟩ | ⟨_, c, hc, o, ho, hd⟩
  · rw [hk] at hk'; cases hk'
  · refine ⟨c, u, by rw [hcl]; exact hlo c hc, ⟨o, h0k c o (fun ps z => ?_) ho, hd⟩, r⟩
    rw [I.freeC y c hc] at z
    cases z
end Sw

set_option Elab.async false
set_option linter.all false
set_option maxRecDepth 100000
set_option maxHeartbeats 4000000
/-! SwS: set(xs) of a list of ints, and sorted of it. -/
namespace Sw
open PySem PySem.Spec PyProof.Rows L2
/-- a set that was just made -/
abbrev nset (wd : World) : Obj := { cls := .type "set", dict := none, data := .set #[] 0 (.fresh 0 0 (!wd.params.followText "set-order")) }
section
variable {pr : Program} {wd : World} {A : Around} {E : Value → Shared → Prop} {s : Shared}
theorem set_of_list {la : Addr} {items : Array Value} (ns : List Int) {Q : Value → Shared → Prop} (hA : A.handled = none) (hl : s.heap.IsList la items) (hit : IntsAre items.toList ns) (hb : ns.length + 1 < scanBound)
    (h : ∀ (hz : Heap) (tz cz : Nat), SetR wd hz s.heap.objs.size (fun j => decide (j ∈ ns)) cz → cz ≤ ns.length → (∀ b o, s.heap.get? b = some o → hz.get? b = some o) → Q (.ref s.heap.objs.size) { s with heap := hz, toks := tz }) :
    wpAny (model pr wd) A (call (.type "set") [.ref la]) Q E s := by
  have isz : items.size = ns.length := by
    have q := IntsAre.length hit
    rwa [Array.length_toList] at q
  obtain ⟨cm, tm, hmr⟩ := F.called_set.mro
  have made := F.called_set.made
  have subs := F.called_set.sub
  refine wpAny_call (codeAny_of_tree ?_)
  show wpAny _ _ (callAny (.type "set") _) _ _ _
  refine wpAny_pure ⟨Code.quiet_builtin _ (by decide +kernel), codeAny_builtin F.entry_type_call ?_⟩
  rw [Around.under_plain (weight_type_call_type "set" [.ref la] []) rfl]
  have k1 := F.called_set.notType
  have k2 := F.called_set.canCreate
  have k3 := F.typeCall_set_1 (.ref la)
  repeat (any_goals (first | assumption | wp_step))
  refine codeAny_mono (code_set_led1 (.ref la) (E := E) (Q₁ := fun ob sb => ob = .ref s.heap.objs.size ∧ sb = { s with heap := s.heap.push (nset wd) }) ⟨rfl, rfl⟩) fun r sb hr => ?_
  cases r with
  | error e => exact hr
  | ok fl =>
    cases fl with
    | ret ob =>
      obtain ⟨rfl, rfl⟩ := hr
      have atS : (s.heap.push (nset wd)).get? s.heap.objs.size = some (nset wd) := Heap.get?_push_size _ rfl
      have tyS : Shared.TypeIs { s with heap := s.heap.push (nset wd) } (.ref s.heap.objs.size) "set" := ⟨_, atS, rfl⟩
      have i1 := F.called_set.init.lookup
      have i2 := F.called_set.init.bind (.ref s.heap.objs.size)
      repeat (any_goals (first | assumption | wp_step))
      refine codeAny_mono (codeAny_call_builtin (R := wants (fun r sc => r = .none ∧ ∃ hz tz cz, sc = { s with heap := hz, toks := tz } ∧ SetR wd hz s.heap.objs.size (fun j => decide (j ∈ ns)) cz ∧ cz ≤ ns.length ∧ (∀ b o, s.heap.get? b = some o → hz.get? b = some o)) E)
        F.called_set.init.plain F.entry_set_init (check_set_init_1 tyS ?_)) fun r2 sc hr2 => ?_
      · obtain ⟨ol, hol, hcl, nl, hdl⟩ := hl
        obtain ⟨ocl, odi, oda, osl⟩ := ol
        simp only at hcl hdl
        subst hcl; subst hdl
        have hol2 : (s.heap.push (nset wd)).get? la = some { cls := .type "list", dict := odi, data := .seq items nl, slots := osl } := Heap.get?_push_of_some _ hol
        have j1 := F.sub_list_set
        have j2 := F.sub_list_frozenset
        have j3 : (Value.type "list" == Value.type "dict") = false := by decide
        have hl2 : (s.heap.push (nset wd)).IsList la items := ⟨_, hol2, rfl, nl, rfl⟩
        unfold Builtin.«set.__init__» noKeywords Builtin.Frozenset.updateFrom
        generalize hPI : pyIter = PI
        wp_walk
        subst hPI
        refine wpAny_pyIter_list hl2 ?_
        refine wpAny_bind (wpAny_runValue ?_)
        have lalt : la < s.heap.objs.size := Heap.lt_size hol
        have hA3 : A.in1.in1.in1.handled = none := by simp [hA]
        have sz1 : (s.heap.push (nset wd)).objs.size = s.heap.objs.size + 1 := Heap.size_push ..
        have laI : la ≠ (s.heap.push (nset wd)).objs.size := by rw [sz1]; exact Nat.ne_of_lt (Nat.lt_succ_of_lt lalt)
        have notS : s.heap.objs.size ∉ [(s.heap.push (nset wd)).objs.size, la] := by
          rw [sz1]
          intro z
          rcases List.mem_cons.mp z with z | z
          · exact absurd z (Nat.ne_of_lt (Nat.lt_succ_self _))
          · exact absurd (List.mem_singleton.mp z) (Nat.ne_of_gt lalt)
        have vals : ∀ (i : Nat) (v : Value), items[i]? = some v → ∃ k t, ns[i]? = some k ∧ v = .int k t := fun i v hv => by
          have hi : i < ns.length := by rw [← isz]; exact (Array.getElem?_eq_some_iff.mp hv).1
          obtain ⟨t, e⟩ := PyProof.Rows.IntsAre.int_at hit i v (by rw [Array.getElem?_toList]; exact hv)
          exact ⟨ns[i], t, List.getElem?_eq_getElem hi, by rw [e, List.getD_eq_getElem?_getD, List.getElem?_eq_getElem hi] <;> rfl⟩
        refine set_update_ints ((Walks.list hA3 _ la laI items).toS) s.heap.objs.size notS ns isz hb vals (items.size - 0) 0 _ (by omega) (Nat.zero_le _) ⟨⟨_, Heap.get?_push_size _ rfl, rfl, rfl⟩, (hl2.push _)⟩ ?hS0 ?hR
        case hS0 => exact ⟨0, Nat.le_refl 0, setR_new_at (Heap.get?_push_of_some _ atS)⟩
        case hR =>
          intro sd cd mv hcd hSd
          obtain ⟨hz, gz, dz, tz, oz⟩ := sd
          have eg : gz = s.gens := mv.gens
          have ed : dz = s.drawn := mv.drawn
          have eo : oz = s.os := mv.os
          subst eg; subst ed; subst eo
          show wpAny _ _ _ _ _ _
          refine wpAny_pure ?_
          show wpAny _ _ (ret Value.none) _ _ _
          rw [isz] at hcd
          refine wpAny_pure ⟨rfl, hz, tz, cd, rfl, hSd, hcd, fun b o e => ?_⟩
          have b0 : b < s.heap.objs.size := Heap.lt_size e
          refine mv.heap b o (fun z => ?_) (Heap.get?_push_of_some _ (Heap.get?_push_of_some _ e))
          rcases List.mem_cons.mp z with z | z
          · exact absurd z (Nat.ne_of_lt b0)
          · have z' : b = (s.heap.push (nset wd)).objs.size := List.mem_singleton.mp z
            rw [sz1] at z'
            exact absurd z' (Nat.ne_of_lt (Nat.lt_succ_of_lt b0))
      · cases r2 with
        | error e => exact hr2
        | ok fl2 =>
          cases fl2 with
          | ret r =>
            obtain ⟨rfl, hz, tz, cz, rfl, hSz, hcz, hkz⟩ := hr2
            repeat (any_goals (first | assumption | wp_step))
            exact h _ _ _ hSz hcz hkz
          | _ => exact hr2.elim
    | _ => exact hr.elim
end
end Sw

set_option Elab.async false
set_option linter.all false
set_option maxRecDepth 100000
set_option maxHeartbeats 4000000
/-! SwR: range(a, b) with ends of any size, walked. -/
namespace Sw
open PySem PySem.Spec PyProof.Rows L2
theorem turn_long {P : Program} {w : World} {K : PySem.W.Frag} {tg : Expr} (it : Addr) (lo : Int) (n : Nat) : Turn P w K tg (Itr lo n) [it] it (fun i h => IsLongIter h it (lo + (i : Nat) * 1) ((n : Int) - (i : Nat)) 1) where
  mem := by simp
  obj := fun i h st b hb => by
    have eb : b = it := by simpa using hb
    subst eb
    refine ⟨_, st, fun v z => ?_⟩
    have z2 : Data.fields _ = Data.cell v := z
    cases z2
  keep := fun i h hq st k => k it (by simp) _ st
  item := by
    intro X eP ew eK hc i pins s σ H E I hf st hg
    subst eP ew eK
    obtain ⟨g0, g1, g2, g3, g4, g5⟩ := hf it (by simp)
    have W := Walks.longrange (prog := X.prog) (w := X.w) (I.ok.hd hc) it lo 1 n
    refine W.item i s _ _ hg st fun v hq tk hv sq kk => ?_
    obtain ⟨t, rfl⟩ := hv
    have J : Inv X pins σ H { s with heap := hq, toks := tk } := I.turned (fun b o hb e => kk b o (by simpa using hb) e) g0 g1 g3 g4 g5
    refine ⟨_, rfl, go_of (s := { s with heap := hq, toks := tk }) (n := "longrange_iterator") sq rfl rfl (by decide) ⟨.int (lo + i), H, J, ⟨t, by rw [Int.mul_one]⟩, ⟨rfl, rfl⟩, sq, fun b hb => (hf b hb).1⟩⟩
  done := by
    intro X eP ew eK hc i pins s σ H E I hf st hg
    subst eP ew eK
    obtain ⟨g0, g1, g2, g3, g4, g5⟩ := hf it (by simp)
    exact wpAny_pyNext_long_end (I.ok.hd hc) st (by have : n ≤ i := hg; omega) fun hq eb => ⟨rfl, I.turned (t' := s.toks) (fun b o hb e => eb b o hb e) g0 g1 g3 g4 g5⟩
  self := fun _ _ _ _ _ st h => wpAny_pyIter_longiter st h
/-- a range that was just made -/
abbrev rgO (lo hi : Int) (t u v : Tok) : Obj := { cls := .type "range", data := .fields #[.int lo t, .int hi u, .int 1 v] }
section
variable {X : Cx} {tg : Expr}
theorem range_any {pins : List (Addr × Obj)} {σ : L2.St} {H : Hp} {s : Shared} {R : It → Hp → Prop} {E : Value → Shared → Prop} {lo hi : Int} {t u v : Tok} {tk : Nat} (I : Inv X pins σ H s) (q : R (Itr lo (hi - lo).toNat) H) :
    wpAny (model X.prog X.w) X.A (pyIter (.ref s.heap.objs.size)) (PIE X pins σ tg R) E { s with heap := s.heap.push (rgO lo hi t u v), toks := tk } := by
  have J : Inv X pins σ H { s with heap := s.heap.push (rgO lo hi t u v), toks := tk } := I.kept fun b o e => Heap.get?_push_of_some _ e
  have e1 : lo + ((0 : Nat) : Int) * 1 = lo := by simp
  have e2 : (((hi - lo).toNat : Nat) : Int) - ((0 : Nat) : Int) = Builtin.Range.rangeSize lo hi 1 := by rw [rangeSize_one]; split <;> omega
  cases hb : Builtin.Range.small lo hi 1 with
  | true =>
    refine wpAny_pyIter_range (IsRange.new ..) hb ?_
    refine ⟨(s.heap.push (rgO lo hi t u v)).objs.size, [(s.heap.push (rgO lo hi t u v)).objs.size], _, _, H, rfl, J.kept (t' := tk) fun b o e => Heap.get?_push_of_some _ e, turn_range _ lo (hi - lo).toNat, ?_, fun b hb => ?_, q⟩
    · show IsRangeIter _ _ (lo + ((0 : Nat) : Int) * 1) ((((hi - lo).toNat : Nat) : Int) - ((0 : Nat) : Int)) 1
      rw [e1, e2]
      exact Heap.get?_push_size _ rfl
    · have eb : b = (s.heap.push (rgO lo hi t u v)).objs.size := by simpa using hb
      subst eb
      exact J.fpOk (Nat.le_refl _) (J.hok.fresh (Nat.le_refl _))
  | false =>
    refine wpAny_pyIter_longrange (IsRange.new ..) hb ?_
    refine ⟨(s.heap.push (rgO lo hi t u v)).objs.size, [(s.heap.push (rgO lo hi t u v)).objs.size], _, _, H, rfl, J.kept (t' := tk) fun b o e => Heap.get?_push_of_some _ e, turn_long _ lo (hi - lo).toNat, ?_, fun b hb => ?_, q⟩
    · show IsLongIter _ _ (lo + ((0 : Nat) : Int) * 1) ((((hi - lo).toNat : Nat) : Int) - ((0 : Nat) : Int)) 1
      rw [e1, e2]
      exact Heap.get?_push_size _ rfl
    · have eb : b = (s.heap.push (rgO lo hi t u v)).objs.size := by simpa using hb
      subst eb
      exact J.fpOk (Nat.le_refl _) (J.hok.fresh (Nat.le_refl _))
def iRng (ta : TA) : TI := fun σ H R => ta σ H fun vs H1 => ∃ i j : Int, vs = [.int i, .int j] ∧ R (Itr i (j - i).toNat) H1
theorem pi_rng {a b : Expr} {ta : TA} {p pos : Pos} (hg : Gl X "range") (hm : X.mg "range" = none) (ha : PA X [a, b] ta) (hs : starEach [a, b] X.env = [(false, eval a X.env), (false, eval b X.env)] := by rfl) (hs2 : starEach [b] X.env = [(false, eval b X.env)] := by rfl) :
    PI X tg (.Call (.Name "range" p) [a, b] [] pos) (iRng ta) := by
  refine ⟨fun pins s σ H R I h => ?_⟩
  refine Call_ (ld_blt I hg hm boot_range (PyProof.Rows.callWith_type1 (thn (ha.run pos pins s σ H _ I h) fun us s1 ⟨vs, H1, I1, r1, q1⟩ => ?_) (by rw [hs, hs2]) (by rw [hs2]; rfl)))
  obtain ⟨i, j, e, q⟩ := q1
  subst e
  obtain ⟨u1, u2, rfl, ru1, ru2⟩ := vals2 r1
  obtain ⟨t, rfl⟩ := ru1
  obtain ⟨t', rfl⟩ := ru2
  exact call_range_2 (range_any I1 q)
end
section
variable {σ : L2.St} {H : Hp} {Q : VK} {te : TE} {tt : TT} {ts : TA} {i : Nat} {g : TG} {tb : TS} {D : Ends}
theorem c_iR {R : It → Hp → Prop} (h : ts σ H fun vs H1 => ∃ i j : Int, vs = [.int i, .int j] ∧ R (Itr i (j - i).toNat) H1) : iRng ts σ H R := h
theorem c_lcR {a b : Int} (h : ∀ D H2, H D = none → Same H H2 → H2 D = some (.lst []) → ∃ Pv, LcAsk (intsV a (b - a).toNat) tt te i σ (fun _ => True) D H2 Q Pv) :
    ∃ i' j' : Int, [V.int a, V.int b] = [.int i', .int j'] ∧ LcGo (Itr i' (j' - i').toNat) (gName i) tt te [i] σ Q H := ⟨a, b, rfl, lcgo_r h⟩
theorem c_forR {a b : Int} (h : ∃ Pv, ForAsk (intsV a (b - a).toNat) g tb D σ (fun _ => True) H Pv) : ∃ i' j' : Int, [V.int a, V.int b] = [.int i', .int j'] ∧ ForGo (Itr i' (j' - i').toNat) g tb D σ H := by
  obtain ⟨Pv, A⟩ := h
  refine ⟨a, b, rfl, for_range (lo := a) (n := (b - a).toNat) Pv A.start (fun k σ H hk p => A.turn k _ σ H (intsV_at hk) p) (fun σ H p => A.done σ H ?_)⟩
  rw [intsV_len]; exact p
end
end Sw

set_option Elab.async false
set_option linter.all false
set_option maxRecDepth 100000
set_option maxHeartbeats 4000000
/-! SwO: operators by own methods; new instances. -/
namespace Sw
open PySem PySem.Spec PyProof.Rows L2
section
variable {pr : Program} {wd : World} {A : Around} {E : Value → Shared → Prop} {s : Shared} {K : PySem.W.Frag} {x C f : Addr} {ox : Obj} {od : Option Obj}
/-- v in x, x an instance whose class has its own __contains__ -/
theorem contains_own {v : Value} {Q : Bool → Shared → Prop} (X : K.In s.heap) (I : PySem.W.InstAt s.heap x ox C od) (hs : PySem.W.findIn K (.ref C) "__contains__" = some (some (.ref f))) (hf : PySem.W.isFn K (.ref f) = true)
    (h : wpAny (model pr wd) A (call (.ref f) [.ref x, v]) (fun r s1 => ∃ b, r = .bool b ∧ Q b s1) E s) : wpAny (model pr wd) A (PySem.contains (.ref x) v) Q E s := by
  have LS : PySem.W.Looks (model pr wd) s.heap (specialOf (.ref x) "__contains__") (some (.ref f)) := I.type.andThen (PySem.W.looks_findIn X hs)
  unfold PySem.contains
  refine wpAny_holding ?_
  have e0 : stdlibNamesSay? (.ref x) v = none := rfl
  simp only [e0]
  refine wpAny_bind (LS.here ?_)
  have e1 : (some (Value.ref f) == some Value.none) = false := rfl
  simp only [e1, Bool.false_eq_true, if_false]
  unfold callSpecialUnlessNone?
  refine wpAny_bind (wpAny_bind (LS.here ?_))
  refine wpAny_holding (wpAny_bind ((PySem.W.bind_fn X _ (beq_iff_eq.mp hf)).here ?_))
  have e2 : (Value.ref f == Value.none) = false := rfl
  simp only [e2, Bool.false_eq_true, if_false]
  refine wpAny_bind (wpAny_mono h (fun r s1 z => wpAny_pure ?_) fun _ _ z => z)
  obtain ⟨b, rfl, q⟩ := z
  exact wpAny_truthy_bool q
end

/-! ### x in y, x & y, by own methods -/
def rInOwn (C : Addr) (sp : Sp) (E : XK) (neg : Bool) : R2 := fun x y H Q => ∃ a dx fs, y = .ref a ∧ H a = some (.ins C dx fs) ∧ sp [.ref a, x] H (fun z H' => ∃ b, z = .bl b ∧ Q (.bl (if neg = true then !b else b)) H') E
def rBinOwn (C : Addr) (sp : Sp) (E : XK) : R2 := fun x y H Q => ∃ a dx fs b dy gs, x = .ref a ∧ y = .ref b ∧ H a = some (.ins C dx fs) ∧ H b = some (.ins C dy gs) ∧ sp [.ref a, .ref b] H Q E
section
variable {X : Cx} {CX : CXT} {n : Nat} {C g : Addr} {sp : Sp} {E : XK}
theorem op_inOwn (hs : PySem.W.findIn X.K (.ref C) "__contains__" = some (some (.ref g))) (hf : PySem.W.isFn X.K (.ref g) = true) (F : FnR X.prog X.w X.K X.mg X.base CX n g sp) (hr : Room n X.A) (hx : Passes CX X E) : OpR X (compareOp .In) (rInOwn C sp E false) := by
  intro pins s σ H x y v u Q I rx ry h
  obtain ⟨a, dx, fs, rfl, ha, q⟩ := h
  cases (show u = Value.ref a from ry)
  obtain ⟨mA, O, _⟩ := ins_get I.hok ha
  obtain ⟨od, J, _⟩ := O.look
  show wpAny _ _ (do return Value.bool (← PySem.contains (.ref a) v)) _ _ _
  refine wpAny_bind (contains_own I.kIn J hs hf (wpAny_mono (wpAny_call (run_fnR (us := [.ref a, v]) (vs := [.ref a, x]) F hr hx I (.cons rfl (.cons rx .nil)) q)) (fun r s1 z => ?_) fun _ _ z => z))
  obtain ⟨z', H', I', rz, b, rfl, qb⟩ := z
  cases (show r = Value.bool b from rz)
  exact ⟨b, rfl, wpAny_pure ⟨.bl b, H', I', rfl, qb⟩⟩
theorem op_notInOwn (hs : PySem.W.findIn X.K (.ref C) "__contains__" = some (some (.ref g))) (hf : PySem.W.isFn X.K (.ref g) = true) (F : FnR X.prog X.w X.K X.mg X.base CX n g sp) (hr : Room n X.A) (hx : Passes CX X E) : OpR X (compareOp .NotIn) (rInOwn C sp E true) := by
  intro pins s σ H x y v u Q I rx ry h
  obtain ⟨a, dx, fs, rfl, ha, q⟩ := h
  cases (show u = Value.ref a from ry)
  obtain ⟨mA, O, _⟩ := ins_get I.hok ha
  obtain ⟨od, J, _⟩ := O.look
  show wpAny _ _ (do return Value.bool (!(← PySem.contains (.ref a) v))) _ _ _
  refine wpAny_bind (contains_own I.kIn J hs hf (wpAny_mono (wpAny_call (run_fnR (us := [.ref a, v]) (vs := [.ref a, x]) F hr hx I (.cons rfl (.cons rx .nil)) q)) (fun r s1 z => ?_) fun _ _ z => z))
  obtain ⟨z', H', I', rz, b, rfl, qb⟩ := z
  cases (show r = Value.bool b from rz)
  exact ⟨b, rfl, wpAny_pure ⟨.bl (!b), H', I', rfl, qb⟩⟩
theorem op_binOwn {op : Operator} (hc : PySem.W.selfFirst X.K C = true) (hs : PySem.W.findIn X.K (.ref C) (PySem.dunder op.info.2) = some (some (.ref g))) (hf : PySem.W.isFn X.K (.ref g) = true) (F : FnR X.prog X.w X.K X.mg X.base CX n g sp) (hr : Room n X.A) (hx : Passes CX X E) :
    OpR X (binaryOp op) (rBinOwn C sp E) := by
  intro pins s σ H x y v u Q I rx ry h
  obtain ⟨a, dx, fs, b, dy, gs, rfl, rfl, ha, hb, q⟩ := h
  cases (show v = Value.ref a from rx)
  cases (show u = Value.ref b from ry)
  obtain ⟨mA, O, _⟩ := ins_get I.hok ha
  obtain ⟨od, J, _⟩ := O.look
  obtain ⟨mB, O', _⟩ := ins_get I.hok hb
  obtain ⟨od', J', _⟩ := O'.look
  obtain ⟨m, hF⟩ := I.fr
  refine PySem.W.binop_K hF I.ok.mod.kin J J'.type hc hs hf ?_
  refine wpAny_mono (wpAny_call (run_fnR (us := [.ref a, .ref b]) (vs := [.ref a, .ref b]) F hr hx I (.cons rfl (.cons rfl .nil)) q)) (fun w s' z => ?_) fun _ _ x => x
  obtain ⟨z', H', I', rz, qz⟩ := z
  exact SlX.cmpback rz ⟨z', H', I', rz, qz⟩
end
/-! ### set(xs), sorted(set(xs)) -/
def rSetL (K : PySem.W.Frag) (w : World) : List V → Hp → VK → Prop := fun vs H Q => ∃ (p : Addr) (ns : List Int), vs = [.ref p] ∧ SqL K H p (ns.map V.int) ∧ ns.length ≤ 1000 ∧ ∀ q c, H q = none → c ≤ ns.length → Q (.ref q) (upd H q (SetO w q (fun j => decide (j ∈ ns)) c))
theorem ints_of {xs : List V} : ∀ {ns : List Int} {us : List Value}, Vals (ns.map V.int) us → IntsAre us ns
  | [], _, .nil => .nil
  | n :: r, _, .cons h t => by
    obtain ⟨k, rfl⟩ := h
    exact .cons _ _ (ints_of (xs := []) t)
theorem cr_setL {X : Cx} (hc : X.calm = true) : CallR X (.type "set") (rSetL X.K X.w) := by
  intro pins s σ H vs us Q I r h
  obtain ⟨p, ns, rfl, hs, hl, q⟩ := h
  obtain ⟨u, rfl, ru⟩ := vals1 r
  cases (show u = Value.ref p from ru)
  obtain ⟨its, rv, pl, _⟩ := I.list hs
  refine set_of_list ns (I.ok.hd hc) pl.isList (by simpa using ints_of (xs := []) rv) (Nat.lt_of_le_of_lt (Nat.succ_le_succ hl) (by decide)) fun hz tz cz R hcz k => ?_
  exact ⟨.ref _, _, I.laid (t' := tz) k (Nat.le_refl _) (setO_new R), rfl, q _ cz (I.hok.fresh (Nat.le_refl _)) hcz⟩
end Sw

set_option Elab.async false
set_option linter.all false
set_option maxRecDepth 100000
set_option maxHeartbeats 4000000
/-! Sw2: defs with defaults and a known code object, dict comprehensions over ints, the end with tables. -/
namespace Sw
open PySem PySem.Spec PyProof.Rows L2

/-! ### a def with its code object and what may be left out of its calls -/
structure DefN (K : PySem.W.Frag) (x qual : Str) (st : Stmt) (ps : List Str) (f : Addr) (cdv : Value) (lacks : List (List V)) : Prop where
  ex : ∃ (fd : FuncData) (oc dV kV doc pm ct : Value) (od an : Option Addr) (osl : Array (Option Value)), fd = PySem.W.fnOf x qual (defArgs st) (defBody st) (defScope st) dV kV doc pm an cdv ct ∧ K.lookup f = some ⟨oc, od, .func fd, osl⟩ ∧
    PySem.W.codeIn K cdv qual = true ∧ ∀ dvs ∈ lacks, ∃ ds, Vals dvs ds ∧ Binds K fd ps ds
  kp : PySem.W.keepIn K (.ref f) = true
section
variable {P : Program} {w : World} {K : PySem.W.Frag} {mg : Str → Option Value} {base : Heap} {x qual : Str} {st : Stmt} {ps : List Str} {f : Addr} {cdv : Value} {lacks : List (List V)}
theorem DefN.okR {N : List Str} {k : Nat} {sp : Sp} (D : DefN K x qual st ps f cdv lacks) (S : FnScope N ps (defScope st)) (len : ∀ vs H Q E, sp vs H Q E → vs.length = ps.length)
    (hbody : ∀ (A : Around) (outer : List Env) (s : Shared) (H : Hp) (vs : List V) (Q : VK) (E : XK), Room k (A.deeper (envOfC qual (defScope st) s.heap.objs.size f cdv)) → sp vs H Q E →
      ∃ t, PSs (cxOf CX0 P w K mg base N qual (defScope st) f cdv A outer s H E).nox (defBody st) t ∧ t { nx := fun _ H' => Q .non H', rt := Q } (start N vs) H) :
    FnR P w K mg base CX0 (k + 1) f (fun vs H Q E => ∃ dvs ∈ lacks, sp (vs ++ dvs) H Q E) := by
  obtain ⟨fd, oc, dV, kV, doc, pm, ct, od, an, osl, rfl, lk, hcd, hb⟩ := D.ex
  have F : FnOk P w K mg base CX0 (k + 1) f _ ps sp := fn_of lk hcd S len fun A outer s H vs Q E hr hsp => by
    obtain ⟨t, h, q⟩ := hbody A outer s H vs Q E hr hsp
    exact ⟨t, h.nox, q⟩
  intro A outer s H us vs Q E hr e0 r hs
  obtain ⟨dvs, hd, hs⟩ := hs
  obtain ⟨ds, rd, hbd⟩ := hb dvs hd
  exact (FnOk.raw F hbd rd) A outer s H us vs Q E hr e0 r hs
theorem DefN.mk0 {oc : Value} {od an : Option Addr} {osl : Array (Option Value)} {kV doc pm ct : Value} (l : K.lookup f = some ⟨oc, od, .func (PySem.W.fnOf x qual (defArgs st) (defBody st) (defScope st) .none kV doc pm an cdv ct), osl⟩)
    (c : PySem.W.codeIn K cdv qual = true) (k : PySem.W.keepIn K (.ref f) = true)
    (h : ∀ (kV doc pm : Value) (an : Option Addr) (cdv ct : Value) (us : List Value), us.length = ps.length → bindArgs (PySem.W.fnOf x qual (defArgs st) (defBody st) (defScope st) .none kV doc pm an cdv ct) ⟨us, []⟩ = pure (ps.zip us)) :
    DefN K x qual st ps f cdv [[]] :=
  ⟨⟨_, oc, .none, kV, doc, pm, ct, od, an, osl, rfl, l, c, fun dvs hd => ⟨[], by rw [List.mem_singleton.mp hd]; exact .nil, .all (h kV doc pm an cdv ct)⟩⟩, k⟩
/-- one row for each number of arguments that are left out -/
theorem DefN.mkD {oc : Value} {od an : Option Addr} {osl : Array (Option Value)} {kV doc pm ct : Value} {T : Addr} {o : Obj} {its : List Value} {n : Nat} {dvs : List V} {js : List Nat}
    (l : K.lookup f = some ⟨oc, od, .func (PySem.W.fnOf x qual (defArgs st) (defBody st) (defScope st) (.ref T) kV doc pm an cdv ct), osl⟩)
    (c : PySem.W.codeIn K cdv qual = true) (k : PySem.W.keepIn K (.ref f) = true) (lT : K.lookup T = some o) (oT : o.data = .seq its.toArray n) (rT : Vals dvs its)
    (h : ∀ j ∈ js, j ≤ dvs.length ∧ ∀ (T : Addr) (kV doc pm : Value) (an : Option Addr) (cdv ct : Value) (us its : List Value), us.length + (dvs.length - j) = ps.length → its.length = dvs.length →
      ∃ k, bindArgs (PySem.W.fnOf x qual (defArgs st) (defBody st) (defScope st) (.ref T) kV doc pm an cdv ct) ⟨us, []⟩ = seqItems? (.ref T) >>= k ∧ k (some its.toArray) = pure (ps.zip (us ++ its.drop j))) :
    DefN K x qual st ps f cdv (js.map fun j => dvs.drop j) := by
  refine ⟨⟨_, oc, .ref T, kV, doc, pm, ct, od, an, osl, rfl, l, c, fun ws hd => ?_⟩, k⟩
  obtain ⟨j, hj, rfl⟩ := List.mem_map.mp hd
  refine ⟨its.drop j, rT.drop j, fun s us X hl => ?_⟩
  have l1 : its.length = dvs.length := rT.length.symm
  obtain ⟨hjl, hB⟩ := h j hj
  have l2 : us.length + (dvs.length - j) = ps.length := by rw [List.length_append, List.length_drop, l1] at hl; exact hl
  obtain ⟨kk, e1, e2⟩ := hB T kV doc pm an cdv ct us its l2 l1
  refine BindsTo.of_looks fun M => ?_
  rw [e1]
  exact looks_items X lT oT (.of_pure e2)
end

/-! ### Name() by a positional promise -/
section
variable {X : Cx} {CX : CXT} {k : Nat} {f C : Addr} {sp : Sp} {E : XK} {x : Str} {p pos : Pos}
theorem pe_makeR0 (M : Mk X.K C f) (F : FnR X.prog X.w X.K X.mg X.base CX k f sp) (hr : Room (k + 1) X.A) (hg : Gl X x) (hm : X.mg x = some (.ref C)) (hx : Passes CX X E) (hdb : (x == ("__debug__" : Str)) = false := by decide) :
    PE X (.Call (.Name x p) [] [] pos) (StX.tMakeR C sp E tNil) := by
  refine ⟨fun pins s σ H Q I h => ?_⟩
  refine wpAny_Call_Name_kw (ld_glob I hg hm ?_ hdb)
  exact PySem.W.callWith_K0 I.kIn M.kp (StX.run_makeR (us := []) M F hr hx I .nil h)
end

/-! ### a list or a tuple is walked -/
def iSeq (K : PySem.W.Frag) (tl : TE) : TI := fun σ H R => iList K tl σ H R ∨ iTup K tl σ H R
theorem pi_seqK {X : Cx} (K : PySem.W.Frag) {tg l : Expr} {tl : TE} (hl : PE X l tl) (hK : X.K = K := by rfl) : PI X tg l (iSeq K tl) :=
  ⟨fun pins s σ H R I h => h.elim (fun h => (pi_listK K hl hK).run pins s σ H R I h) fun h => (pi_tupK K hl hK).run pins s σ H R I h⟩
theorem sqL_to {K : PySem.W.Frag} {H H' : Hp} {a : Addr} {xs : List V} (q : SqL K H a xs) (h : ∀ o, H a = some o → H' a = some o) : SqL K H' a xs := q.imp (fun r => r.imp (h _) fun ⟨o, e⟩ => ⟨o, h _ e⟩) id
theorem sqT_to {K : PySem.W.Frag} {H H' : Hp} {a : Addr} {xs : List V} (q : SqT K H a xs) (h : ∀ o, H a = some o → H' a = some o) : SqT K H' a xs := q.imp (fun r => r.imp (h _) fun ⟨o, e⟩ => ⟨o, h _ e⟩) id
def SqE (K : PySem.W.Frag) (H : Hp) (a : Addr) (xs : List V) : Prop := SqL K H a xs ∨ SqT K H a xs

/-! ### {k: True for k in seq}, ints -/
/-- the dict's keys are just the ints of ns -/
def KeysI (kvs : List (Key × V)) (ns : List Int) : Prop := (∀ k : Int, (valV kvs (.inl k)).isSome = decide (k ∈ ns)) ∧ ∃ ks : List Int, kvs.map (fun kv => kV kv.1) = ks.map V.int ∧ ks.length ≤ ns.length ∧ ∀ k, k ∈ ks ↔ k ∈ ns
theorem keysI_put {kvs : List (Key × V)} {ns : List Int} {m : Int} {v : V} (h : KeysI kvs ns) : KeysI (putK kvs (.inl m) v) (ns ++ [m]) := by
  obtain ⟨h1, ks, e, hl, hm⟩ := h
  refine ⟨fun k => ?_, ?_⟩
  · rw [valV_put]
    by_cases z : (Sum.inl k : Key) = Sum.inl m
    · rw [if_pos z]
      have : k = m := by cases z; rfl
      subst this
      simp
    · rw [if_neg z, h1]
      have : k ≠ m := fun q => z (by rw [q])
      simp [this]
  · unfold putK
    by_cases hv : (kvs.any fun kv => decide (kv.1 = Sum.inl m)) = true
    · rw [if_pos hv]
      have hin : m ∈ ns := by
        rw [valV_any, h1] at hv
        exact of_decide_eq_true hv
      refine ⟨ks, ?_, by rw [List.length_append]; exact Nat.le_trans hl (Nat.le_add_right _ _), fun k => ?_⟩
      · rw [← e, List.map_map]
        refine List.map_congr_left fun kv _ => ?_
        show kV (if kv.1 = Sum.inl m then (kv.1, v) else kv).1 = kV kv.1
        split <;> rfl
      · rw [hm, List.mem_append, List.mem_singleton]
        exact ⟨.inl, fun q => q.elim id fun e => e ▸ hin⟩
    · rw [if_neg hv]
      refine ⟨ks ++ [m], ?_, by rw [List.length_append, List.length_append]; exact Nat.add_le_add_right hl _, fun k => ?_⟩
      · rw [List.map_append, List.map_append, e]; rfl
      · rw [List.mem_append, List.mem_append, hm]
section
variable {K : PySem.W.Frag} {tl tv : TE} {i : Nat} {σ : L2.St} {H H1 : Hp} {Q : VK} {a : Addr} {ns : List Int} {v : V}
theorem wipe_set1 (σ : L2.St) (i : Nat) (x : Option V) : wipe ((wipe σ [i]).set i x) [i] = wipe σ [i] := by
  show (((σ.set i none).set i x).set i none) = σ.set i none
  simp
theorem dc_ints (hi : i < σ.length) {J : It} (hJ : ∀ xs : List V, xs = ns.map V.int → (J = Itl K a ∧ SqL K H1 a xs) ∨ (J = Itt K a ∧ SqT K H1 a xs)) (hn : ns.length ≤ 100000) (h : ∀ D H2 kvs, H1 D = none → Same H1 H2 → H2 D = some (.dK kvs) → KeysI kvs ns → Q (.ref D) H2) :
    ∀ D, H1 D = none → ∃ W : Nat → Nat → Hp → Prop, (∃ m, W 0 m (upd H1 D (.dK []))) ∧ ∀ j m H, W j m H →
      (J.stop j H ∧ Q (.ref D) H) ∨ (J.go j H ∧ ∃ Nx : Hp → Prop, (∀ H', Nx H' → ∃ m', m' < m ∧ W (j + 1) m' H') ∧ ∀ x H', J.yld j H x H' → gName i x (wipe σ [i]) H' fun σ2 H2 => wipe σ2 [i] = wipe σ [i] ∧ tYes σ2 H2 fun b H3 =>
        if b = true then (tVar i) σ2 H3 fun y H4 => (tC v) σ2 H4 fun z H5 => ∃ kvs k, y = kV k ∧ H5 D = some (.dK kvs) ∧ kvs.length < sizeLine ∧ Nx (upd H5 D (.dK (putK kvs k z))) else Nx H3) := by
  intro D hD
  have hq := hJ _ rfl
  have st : ∀ H', Same H1 H' → (J = Itl K a ∧ SqL K H' a (ns.map V.int)) ∨ (J = Itt K a ∧ SqT K H' a (ns.map V.int)) := fun H' sm => hq.imp (fun q => ⟨q.1, sqL_to q.2 (sm a)⟩) fun q => ⟨q.1, sqT_to q.2 (sm a)⟩
  refine ⟨fun j m H => m = ns.length - j ∧ j ≤ ns.length ∧ Same H1 H ∧ ∃ kvs, H D = some (.dK kvs) ∧ KeysI kvs (ns.take j), ⟨ns.length, by simp, Nat.zero_le _, same_new hD, [], upd_same, fun k => by simp [valV_nil], [], rfl, by simp, by simp⟩, ?_⟩
  rintro j m H ⟨rfl, hj, sm, kvs, hk, hI⟩
  have hl : kvs.length ≤ 100000 := by
    obtain ⟨_, ks, e, hks, _⟩ := hI
    have e1 := congrArg List.length e
    rw [List.length_map, List.length_map] at e1
    rw [e1]
    exact Nat.le_trans hks (Nat.le_trans (List.length_take_le _ _) (Nat.le_trans hj hn))
  by_cases hlt : j < ns.length
  · have hx : (ns.map V.int)[j]? = some (.int ns[j]) := by rw [List.getElem?_map, List.getElem?_eq_getElem hlt]; rfl
    refine .inr ⟨?_, fun H' => j + 1 ≤ ns.length ∧ Same H1 H' ∧ ∃ kvs, H' D = some (.dK kvs) ∧ KeysI kvs (ns.take (j + 1)), fun H' p' => ⟨ns.length - (j + 1), by omega, rfl, p'.1, p'.2.1, p'.2.2⟩, fun x H' y => ?_⟩
    · rcases st H sm with ⟨rfl, q⟩ | ⟨rfl, q⟩
      · exact ⟨_, _, q, hx⟩
      · exact ⟨_, _, q, hx⟩
    · have hy : x = .int ns[j] ∧ H' = H := by
        rcases st H sm with ⟨rfl, q⟩ | ⟨rfl, q⟩
        · obtain ⟨e, y⟩ := y
          have := y _ q
          rw [hx] at this
          exact ⟨(Option.some.inj this).symm, e⟩
        · obtain ⟨e, y⟩ := y
          have := y _ q
          rw [hx] at this
          exact ⟨(Option.some.inj this).symm, e⟩
      obtain ⟨rfl, rfl⟩ := hy
      refine ⟨wipe_set1 σ i _, ?_⟩
      simp only [tYes]
      rw [if_pos trivial]
      refine ⟨.int ns[j], by rw [List.getElem?_set_self]; show i < (wipe σ [i]).length; rw [wipe_length]; exact hi, kvs, .inl ns[j], rfl, hk, Nat.lt_of_le_of_lt hl (by decide), hlt, fun b o e => ?_, _, upd_same, ?_⟩
      · rw [upd_ne (ne_of_none e hD)]; exact sm b o e
      · rw [List.take_succ_eq_append_getElem hlt]
        exact keysI_put hI
  · have e : j = ns.length := by omega
    subst e
    rw [List.take_length] at hI
    refine .inl ⟨?_, h D H kvs hD sm hk hI⟩
    rcases st H sm with ⟨rfl, q⟩ | ⟨rfl, q⟩
    · exact ⟨_, q, by simp⟩
    · exact ⟨_, q, by simp⟩
theorem c_dcI (hs : σ[k]? = some (some (.ref a))) (hi : i < σ.length) (hq : SqE K H a (ns.map V.int)) (hn : ns.length ≤ 100000) (h : ∀ D H2 kvs, H D = none → Same H H2 → H2 D = some (.dK kvs) → KeysI kvs ns → Q (.ref D) H2) : tDc (iSeq K (tVar k)) (gName i) tYes (tVar i) (tC v) [i] σ H Q := by
  rcases hq with q | q
  · refine .inl ⟨_, hs, a, rfl, ⟨_, q⟩, ?_⟩
    exact dc_ints hi (fun xs e => .inl ⟨rfl, by rw [e]; exact q⟩) hn h
  · refine .inr ⟨_, hs, a, rfl, ⟨_, q⟩, ?_⟩
    exact dc_ints hi (fun xs e => .inr ⟨rfl, by rw [e]; exact q⟩) hn h
end

/-! ### y = {k: v for ..}: stored inside -/
section
variable {X : Cx}
theorem dswap_true {kx vx : Expr} {gz : List Comprehension} {sco : Scope} {p0 pn : Pos} {nm : Str} {ln : Nat} {ev : Env} (h1 : ev.scope.kind = .function) (h2 : ev.scope.names.lookup nm = some .local) (h3 : (pn.line == p0.line) = true)
    (h4 : (sco.names.any fun (n, k) => n == nm && (k == .local || k == .cell)) = false) : swapsWith (.DictComp kx vx gz sco p0) (some (.Name nm pn)) ln ev = pure true := by
  have k1 : ev.kindOf nm = some .local := h2
  have k2 : ev.blockKind = .function := by unfold Env.blockKind; rw [h1]; rfl
  unfold swapsWith
  simp only [k2, k1, h4, Expr.pos, h3]
  rfl
theorem ps_setDc {i : Nat} {nm : Str} {pn : Pos} {kx vx tg it : Expr} {ifs : List Expr} {sco : Scope} {own : List (Str × Nat)} {p0 sp0 : Pos} {wi : TI} {g : TG} {tt : TT} {tk tv : TE} (cm : X.calm = true) (nd : X.N.Nodup) (hy : X.N[i]? = some nm) (hyl : X.env.scope.names.lookup nm = some .local)
    (hw : swapsWith (.DictComp kx vx [⟨tg, it, ifs, 0⟩] sco p0) (some (.Name nm pn)) sp0.line X.env = pure true) (hi : PI X tg it wi) (bk : BlkOk X.N X.env.scope sco own)
    (hg : ∀ (s : Shared) (H : Hp) (C : Addr) (cl : List (Str × Addr)) (fp : List Addr), PG (X.blk s H sco (compEnvC sco cl C X.env) fp) tg g) (ht : ∀ (s : Shared) (H : Hp) (C : Addr) (cl : List (Str × Addr)) (fp : List Addr), PTs (X.blk s H sco (compEnvC sco cl C X.env) fp) ifs tt)
    (hk : ∀ (s : Shared) (H : Hp) (C : Addr) (cl : List (Str × Addr)) (fp : List Addr), PE (X.blk s H sco (compEnvC sco cl C X.env) fp) kx tk)
    (hv : ∀ (s : Shared) (H : Hp) (C : Addr) (cl : List (Str × Addr)) (fp : List Addr), PE (X.blk s H sco (compEnvC sco cl C X.env) fp) vx tv) (hs : ∀ x, foldedSetIterable it X.env x = pure x := by intro _; rfl) :
    PS X (.Assign [.Name nm pn] (.DictComp kx vx [⟨tg, it, ifs, 0⟩] sco p0) sp0) (tAsg (tDc wi g tt tk tv (own.map (·.2))) (gName i)) := by
  refine ⟨fun pins s σ H D I h0 => ?_⟩
  rw [exec_Assign_Name_used _ _ _ _ hw]
  refine wpAny_bind (wpAny_standAt (wpAny_bind ?_))
  show wpAny _ X.A (do let _ ← comprehension (.DictComp kx vx [⟨tg, it, ifs, 0⟩] sco p0) sco X.env (firstIterPos [⟨tg, it, ifs, 0⟩] p0) newDict false (eval it X.env) (some (assign (.Name nm pn) X.env))) _ _ s
  have h0 : tDc wi g tt tk tv (own.map (·.2)) σ H (fun x H1 => gName i x σ H1 D.nx) := h0
  refine wpAny_bind (thn (dc_core (Qf := fun _ sz => SP X pins D .next sz) cm nd I hi bk hg ht hk hv hs h0 fun L C sz mz Hz Iz qz hz fz => ?_) fun _ sz hq => wpAny_pure (wpAny_pure hq))
  show wpAny _ _ (assign (.Name nm pn) X.env (.ref L)) _ _ _
  refine wpAny_assign_Name (store_ok2 (v := V.ref L) Iz nd hy (.inl hyl) rfl (fun s2 I2 ⟨aa, sb, ha⟩ => ?_) (.inr hyl))
  obtain ⟨f0, f1, _, f3, f4, f5⟩ := fz
  have neC : C ≠ aa := by
    rcases ha with z | z
    · rw [z]; exact f1
    · exact fun e => f4 nm aa z e.symm
  refine ⟨mz, hz.sameBut sb neC, fun h3 sb3 => ?_⟩
  exact ⟨_, Hz, I2.turned (t' := s2.toks) (fun b o hb e => (sb3.2 b hb).trans e) f0 f1 f3 f4 f5, qz⟩
end
/-! ### the end, with the tables of defs of the text -/
theorem walk_ofNm {l : PySem.W.OpenLaw} {n k : Nat} {q : Program} {loose : List Str} {XP : (Str → Option Value) → Heap → Prop} {YP : World → Heap → Prop} {d : DefRec} {K : Params → PySem.W.Frag} {x : Str}
    (hn : l.most = some n) (hn2 : n ≤ sizeLine) (hdf : d.params.defaults = []) (hr : Room k callerA) (hY : ∀ (w : World) (h : Heap), YP w h → (K w.params).In h)
    (F : ∀ (w : World) (mg : Str → Option Value) (fa : Addr) (h : Heap), (K w.params).In h → h.Ns mainGlobals mg → mg d.name = some (.ref fa) →
      (∀ (y : Str) (c P : Addr), ((recsOf q).any fun e => e.name == y) = true → PySem.W.tabIn (K w.params) y = some (c, P) → PySem.W.CodeHd h c P ∧ h.get? P = some { cls := .none, data := .fields #[] }) →
      LamX.LawAtS l w (K w.params) CX0 k n x mg fa h) :
    PySem.W.WalkO q loose XP YP l.row.toRowW d [] (fun f vs => PySem.call f vs) := by
  refine Att.attach_callB hn hdf fun w s₀ s₁ mg mb fa o pm cd doc a vs ns G Y ho hd hcd hmg hobj hints hlen hbits hg => ?_
  have KX := hY w _ Y
  obtain ⟨fd, cs, sp, hT, nT, C, hb, hsp, hF⟩ := F w mg fa _ KX G.T.g hmg fun y c P h1 h2 => by
    cases hf : (recsOf q).find? (fun e => e.name == y) with
    | none => exact absurd h1 (by rw [List.find?_eq_none] at hf; intro z; obtain ⟨e, he, hz⟩ := List.any_eq_true.mp z; exact hf e he hz)
    | some e => exact PySem.W.tab_of G.T KX hf h2
  exact LamX.law_callTs KX G.T.g G.T.b G.T.builtins G.T.nolimit hg hT nT C G.T.bmain hobj hints (Nat.le_trans hlen hn2) hr hF hb (fun H hH hS => hsp H a ns hlen hbits hH hS) fun H e s' z => z
theorem tabIn_by {K : PySem.W.Frag} {x : Str} {f c P : Addr} {oc oe : Value} {od oed : Option Addr} {fd : FuncData} {sl sl2 : Array (Option Value)} {vs : Array Value} (a1 : PySem.W.nsIn K mainGlobals x = some (some (.ref f)))
    (l1 : K.lookup f = some ⟨oc, od, .func fd, sl⟩) (c1 : fd.code = .ref c) (l2 : K.lookup c = some ⟨oe, oed, .fields vs, sl2⟩) (l3 : vs[11]? = some (.ref P)) : PySem.W.tabIn K x = some (c, P) := by
  unfold PySem.W.tabIn
  rw [a1]
  simp only [l1, c1, l2, l3]
theorem tabG_new {H : Hp} {P : Addr} (h : H P = some (.tbl #[])) : GxR.TabG H P := ⟨#[], h, by simp [TriplesOk]⟩
theorem tabB_of {base : Heap} {mg : Str → Option Value} {c P : Addr} (h : LamX.TabB base mg c P) : GxR.TabB base mg c P := ⟨h.code, h.bm, h.gP⟩
end Sw
namespace Sw
open PySem PySem.Spec PyProof.Rows L2
/-! ### readings -/
section
variable {σ : L2.St} {H : Hp} {Q : VK} {ty td : TE} {p : Addr} {kvs : List (Key × V)} {k : Int}
def DInAt (neg : Bool) (y x : V) (H : Hp) (Q : VK) : Prop := ∃ a o, x = .ref a ∧ DGet H a y o ∧ Q (.bl (if neg = true then !o.isSome else o.isSome)) H
theorem c_din (h : ty σ H fun y H1 => td σ H1 fun x H2 => DInAt false y x H2 Q) : tDIn ty td σ H Q := h
theorem c_dnotin (h : ty σ H fun y H1 => td σ H1 fun x H2 => DInAt true y x H2 Q) : tDNotIn ty td σ H Q := h
theorem c_dinI (e : H p = some (.dK kvs)) (h : Q (.bl (valV kvs (.inl k)).isSome) H) : DInAt false (.int k) (.ref p) H Q := ⟨p, _, rfl, DGet.k (k := .inl k) e, h⟩
theorem c_dnotinI (e : H p = some (.dK kvs)) (h : Q (.bl (!(valV kvs (.inl k)).isSome)) H) : DInAt true (.int k) (.ref p) H Q := ⟨p, _, rfl, DGet.k (k := .inl k) e, h⟩
theorem c_listD (e : H p = some (.dK kvs)) (h : ∀ l H1, H l = none → Same H H1 → H1 l = some (.lst (kvs.map fun kv => kV kv.1)) → Q (.ref l) H1) : rListD [.ref p] H Q := ⟨p, kvs, rfl, e, new_obj h⟩
theorem c_setOf {K : PySem.W.Frag} {w : World} {ns : List Int} (e : SqL K H p (ns.map V.int)) (hl : ns.length ≤ 1000) (h : ∀ q c H1, H q = none → Same H H1 → H1 q = some (SetO w q (fun j => decide (j ∈ ns)) c) → c ≤ ns.length → Q (.ref q) H1) : rSetL K w [.ref p] H Q :=
  ⟨p, ns, rfl, e, hl, fun q c hq hc => h q c _ hq (same_new hq) upd_same hc⟩
theorem c_sortedSet {w : World} {S : Int → Bool} {n : Nat} (e : H p = some (SetO w p S n)) (hn : n < 64) (h : ∀ q H1 (ns : List Int), H q = none → Same H H1 → H1 q = some (.lst (ns.map V.int)) → ns.Pairwise (· < ·) → (∀ k : Int, k ∈ ns ↔ S k = true) → ns.length = n → Q (.ref q) H1) : rSortedSet w [.ref p] H Q :=
  ⟨p, S, n, rfl, e, hn, fun ns q hs hm hl hq => h q _ ns hq (same_new hq) upd_same hs hm hl⟩
end
theorem c_par {i j : Nat} {ta : TA} {D : Ends} {σ : L2.St} {H : Hp} (h : ta σ H fun vs H1 => ∃ v w, vs = [v, w] ∧ D.nx ((σ.set i (some v)).set j (some w)) H1) : tPar i j ta D σ H := h
theorem c_gtup {K : PySem.W.Frag} {n : Nat} {t : TGs} {p : Addr} {xs : List V} {σ : L2.St} {H : Hp} {R : L2.St → Hp → Prop} (e : H p = some (.tup xs)) (hn : xs.length = n) (h : t xs σ H R) : gTup K n t (.ref p) σ H R := ⟨p, xs, rfl, SqT.of e, hn, h⟩
theorem c_gcons {t : TG} {u : TGs} {v : V} {r : List V} {σ : L2.St} {H : Hp} {R : L2.St → Hp → Prop} (h : t v σ H fun σ' H' => u r σ' H' R) : gCons t u (v :: r) σ H R := ⟨v, r, rfl, h⟩
theorem c_gnil {σ : L2.St} {H : Hp} {R : L2.St → Hp → Prop} (h : R σ H) : gNil [] σ H R := ⟨rfl, h⟩
theorem c_par2 {v w : V} {R : V → V → Prop} (h : R v w) : ∃ v' w', [v, w] = [v', w'] ∧ R v' w' := ⟨v, w, rfl, h⟩
theorem genS_by {env : Env} {scope : Scope} {x : Str} (h1 : scope.kind = .function) (h2 : scope.isCoroutine = false) (h3 : (scope.names.all fun y => match y.2 with | .cell => false | .free => (env.cells.lookup y.1).isSome | _ => true) = true)
    (h4 : scope.names.lookup (".0" : Str) = some NameKind.local) (h5 : scope.names.lookup x = some .local) : GxR.GenS env scope x := by
  refine ⟨h1, h2, fun y hy e => ?_, h4, h5, fun y hy e => ?_⟩
  · have := List.all_eq_true.mp h3 y hy
    rw [e] at this
    cases this
  · have := List.all_eq_true.mp h3 y hy
    rw [e] at this
    exact Option.isSome_iff_exists.mp this
section
variable {A B : Prop} {i : Int}
theorem ite_nn (h : B) : if (!decide (V.non = V.non)) = true then A else B := by rw [if_neg (by simp)]; exact h
theorem ite_ni (h : A) : if (!decide (V.int i = V.non)) = true then A else B := by rw [if_pos (by simp)]; exact h
theorem ite_in (h : A) : if decide (V.non = V.non) = true then A else B := by rw [if_pos (by simp)]; exact h
theorem ite_ii (h : B) : if decide (V.int i = V.non) = true then A else B := by rw [if_neg (by simp)]; exact h
theorem ite_tt (h : A) : if true = true then A else B := by rw [if_pos rfl]; exact h
theorem ite_ff (h : B) : if false = true then A else B := by rw [if_neg (by decide)]; exact h
end
/-! ### comprehensions whose tests and elements write nothing -/
theorem lc_pure {xs : List V} {tt : TT} {te : TE} {i : Nat} {σ : L2.St} {H : Hp} {Q : VK} {stay : Hp → Prop} (pb : V → Bool) (f : V → V) (hl : xs.length ≤ 100000) (hst : ∀ H', Same H H' → stay H')
    (ht : ∀ x ∈ xs, ∀ (H' : Hp) (B : Bool → Hp → Prop), Same H H' → B (pb x) H' → tt ((wipe σ [i]).set i (some x)) H' B)
    (he : ∀ x ∈ xs, pb x = true → ∀ (H' : Hp) (R : V → Hp → Prop), Same H H' → R (f x) H' → te ((wipe σ [i]).set i (some x)) H' R)
    (hd : ∀ D H', H D = none → Same H H' → H' D = some (.lst ((xs.filter pb).map f)) → Q (.ref D) H') :
    ∀ D H2, H D = none → Same H H2 → H2 D = some (.lst []) → ∃ Pv, LcAsk xs tt te i σ stay D H2 Q Pv := by
  intro D H2 hD s2 e2
  refine ⟨fun k acc H' => Same H H' ∧ acc = ((xs.take k).filter pb).map f, ⟨s2, by simp⟩, fun k acc H' h => hst H' h.1, ?_, ?_⟩
  · rintro k x acc H' hx hk eD ⟨s', rfl⟩
    obtain ⟨hlt, hxe⟩ := List.getElem?_eq_some_iff.mp hx
    have mem : x ∈ xs := by rw [← hxe]; exact List.getElem_mem hlt
    have tk : xs.take (k + 1) = xs.take k ++ [x] := by rw [List.take_succ_eq_append_getElem hlt, hxe]
    refine c_turn (ht x mem H' _ s' ?_)
    cases hp : pb x with
    | true =>
      refine ite_tt (he x mem hp H' _ s' (c_acc eD hk (by omega) fun H5 e5 h5 => ⟨fun b o e => ?_, ?_⟩))
      · rw [e5 b (ne_of_none e hD)]; exact s' b o e
      · rw [tk, List.filter_append, List.map_append]; simp [hp]
    | false =>
      refine ite_ff (c_skip eD hk ⟨s', ?_⟩)
      rw [tk, List.filter_append, List.map_append]; simp [hp]
  · rintro acc H' _ eD ⟨s', rfl⟩
    rw [List.take_length] at eD
    exact hd D H' hD s' eD
theorem op_catK {X : Cx} (K : PySem.W.Frag) (hK : X.K = K := by rfl) : OpR X (binaryOp .Add) (rCatA K) := hK ▸ op_catA
theorem c_cat {K : PySem.W.Frag} {H : Hp} {Q : VK} {p q : Addr} {xs ys : List V} (h1 : H p = some (.tup xs)) (h2 : H q = some (.tup ys)) (hl : xs.length + ys.length ≤ 100000) (h : ∀ t H', Same H H' → H' t = some (.tup (xs ++ ys)) → Q (.ref t) H') : rCatA K (.ref p) (.ref q) H Q :=
  ⟨p, q, xs, ys, rfl, rfl, SqT.of h1, SqT.of h2, Nat.le_trans hl (by decide), fun e => h q H (Same.refl H) (by rw [e]; exact h2), fun _ e => h p H (Same.refl H) (by rw [e, List.append_nil]; exact h1), fun _ _ t ht => h t _ (same_new ht) upd_same⟩
def MethAt (C : Addr) (m : Str) (sp : Sp) (E : XK) (t : TA) (σ : L2.St) (Q : VK) (x : V) (H1 : Hp) : Prop := ∃ a dx fs, x = .ref a ∧ H1 a = some (.ins C dx fs) ∧ fs.lookup m = none ∧ t σ H1 fun vs H2 => sp (x :: vs) H2 Q E
theorem c_methR {C : Addr} {m : Str} {sp : Sp} {E : XK} {ta : TE} {t : TA} {σ : L2.St} {H : Hp} {Q : VK} (h : ta σ H fun x H1 => MethAt C m sp E t σ Q x H1) : tMethR C m sp E ta t σ H Q := h
theorem c_meth {C : Addr} {m : Str} {sp : Sp} {E : XK} {t : TA} {σ : L2.St} {H : Hp} {Q : VK} {p dx : Addr} {fs : List (Str × V)} (e : H p = some (.ins C dx fs)) (l : fs.lookup m = none) (h : t σ H fun vs H2 => sp (.ref p :: vs) H2 Q E) : MethAt C m sp E t σ Q (.ref p) H := ⟨p, dx, fs, rfl, e, l, h⟩
theorem room1 {k : Nat} {A : Around} (r : Room k A) : A.units + 1 < cLine := by have := r.units; omega
theorem c_while {c : TT} {tb : TS} {D : Ends} {σ : L2.St} {H : Hp} (W : Nat → L2.St → Hp → Prop) (m0 : Nat) (h0 : W m0 σ H)
    (h : ∀ m σ H, W m σ H → c σ H fun b H1 => if b = true then ∃ N : L2.St → Hp → Prop, (∀ σ' H', N σ' H' → ∃ m', m' < m ∧ W m' σ' H') ∧ tb { D with nx := N, ct := N, bk := D.nx } σ H1 else D.nx σ H1) : tWhile c tb D σ H := ⟨W, ⟨m0, h0⟩, h⟩
theorem c_again {tb : TS} {D : Ends} {σ : L2.St} {H1 : Hp} {W : Nat → L2.St → Hp → Prop} {m : Nat} (h : tb { D with nx := fun σ' H' => ∃ m', m' < m ∧ W m' σ' H', ct := fun σ' H' => ∃ m', m' < m ∧ W m' σ' H', bk := D.nx } σ H1) :
    ∃ N : L2.St → Hp → Prop, (∀ σ' H', N σ' H' → ∃ m', m' < m ∧ W m' σ' H') ∧ tb { D with nx := N, ct := N, bk := D.nx } σ H1 := ⟨_, fun _ _ h => h, h⟩
/-- what is kept but for the table at tp -/
def Kt (tp : Addr) (H H' : Hp) : Prop := (∀ b o, b ≠ tp → H b = some o → H' b = some o) ∧ GxR.TabG H' tp
theorem TabG_to {tp : Addr} {H H' : Hp} (t : GxR.TabG H tp) (s : Same H H') : GxR.TabG H' tp := let ⟨ps, h, r⟩ := t; ⟨ps, s _ _ h, r⟩
theorem Kt.same {tp : Addr} {H H' : Hp} (t : GxR.TabG H tp) (s : Same H H') : Kt tp H H' := ⟨fun b o _ e => s b o e, TabG_to t s⟩
theorem Kt.trans {tp : Addr} {H H1 H2 : Hp} (a : Kt tp H H1) (b : Kt tp H1 H2) : Kt tp H H2 := ⟨fun c o n e => b.1 c o n (a.1 c o n e), b.2⟩
theorem tab_ne {tp b : Addr} {H : Hp} {o : HO} (t : GxR.TabG H tp) (e : H b = some o) (h : ∀ ps, o ≠ .tbl ps) : b ≠ tp := fun z => by
  obtain ⟨ps, h1, _⟩ := t
  rw [z, h1] at e
  exact h ps (Option.some.inj e).symm
def TupGAt (X : Cx) (scope : Scope) (x : Str) (ifs : List Expr) (elt : Expr) (tp : Addr) (σ : L2.St) (Q : VK) (v : V) (H1 : Hp) : Prop := ∃ (ax : Addr) (xs : List V) (pb : V → Bool) (f : V → V), v = .ref ax ∧ (SqL X.K H1 ax xs ∨ SqT X.K H1 ax xs) ∧
  GenOk X scope x ifs elt σ H1 xs pb f ∧ GxR.TabG H1 tp ∧ xs.length ≤ 100000 ∧ ∀ H2, GxR.Tabbed tp H1 H2 → ∀ p, H2 p = none → Q (.ref p) (upd H2 p (.tup ((xs.filter pb).map f)))
theorem c_tupG {X : Cx} {scope : Scope} {x : Str} {ifs : List Expr} {elt : Expr} {tp : Addr} {te : TE} {σ : L2.St} {H : Hp} {Q : VK} (h : te σ H fun v H1 => TupGAt X scope x ifs elt tp σ Q v H1) : tTupG X scope x ifs elt tp te σ H Q := h
theorem c_genL {X : Cx} {scope : Scope} {x : Str} {ifs : List Expr} {elt : Expr} {tp : Addr} {σ : L2.St} {Q : VK} {ax : Addr} {H1 : Hp} {xs : List V} (pb : V → Bool) (f : V → V) (hq : SqL X.K H1 ax xs) (g : GenOk X scope x ifs elt σ H1 xs pb f) (t : GxR.TabG H1 tp) (hl : xs.length ≤ 100000)
    (h : ∀ q H2, Kt tp H1 H2 → H2 q = some (.tup ((xs.filter pb).map f)) → H1 q = none → Q (.ref q) H2) : TupGAt X scope x ifs elt tp σ Q (.ref ax) H1 := by
  refine ⟨ax, xs, pb, f, rfl, .inl hq, g, t, hl, fun H2 ⟨tb, hk⟩ p hp => ?_⟩
  have hpt : p ≠ tp := fun z => by obtain ⟨ps, e, _⟩ := tb; rw [← z, hp] at e; cases e
  refine h p _ ⟨fun b o hb e => ?_, TabG_to tb (same_new hp)⟩ upd_same (by rw [← hk p hpt]; exact hp)
  have e2 : H2 b = some o := (hk b hb).trans e
  rw [upd_ne (ne_of_none e2 hp)]
  exact e2

def oV : Option Int → V
  | none => .non
  | some n => .int n
theorem oV_non {o : Option Int} : (oV o = .non) ↔ o = none := by cases o <;> simp [oV]
end Sw

set_option Elab.async false
set_option linter.all false
set_option maxRecDepth 100000
set_option maxHeartbeats 4000000
/-! SwN: a != b by an own __eq__ alone; bool(x) by an own __bool__. -/
namespace Sw
open PySem PySem.Spec PyProof.Rows L2
section
variable {pr : Program} {wd : World} {A : Around} {E : Value → Shared → Prop} {s : Shared} {K : PySem.W.Frag} {x C f : Addr} {ox : Obj} {od : Option Obj}
theorem ifBound_ne {M : Model} {args : List Value} {Q : Option Value → Shared → Prop} (X : K.In s.heap) (I : PySem.W.InstAt s.heap x ox C od) (hs : PySem.W.findIn K (.ref C) "__ne__" = some (some (.builtin "object.__ne__")))
    (h : wpAny M A (call (.builtin "object.__ne__") (.ref x :: args)) (fun v => Q (some v)) E s) : wpAny M A (callSpecialIfBound? (.ref x) "__ne__" args) Q E s := by
  have hb := F.cmp_object.ne.bind (.ref x)
  simp only [callSpecialIfBound?, bindSpecialIfBound?]
  refine wpAny_holding (wpAny_bind (wpAny_bind (wpAny_bind (I.type.here ((PySem.W.looks_findIn X hs).here ?_)))))
  refine wpAny_bind (wpAny_askSetting (wpAny_ite ?_))
  have fin : wpAny M A (call (.builtin "object.__ne__") ([.ref x] ++ args) >>= fun v => pure (some v)) Q E s := wpAny_bind (wpAny_mono h (fun v s' h' => wpAny_pure h') fun _ _ h' => h')
  rw [hb]
  split
  · exact wpAny_bind (wpAny_pure (wpAny_pure (by exact fin)))
  · exact wpAny_tryCatch (wpAny_bind (wpAny_pure (wpAny_pure (by exact fin))))
theorem ne_entry {b : Value} (X : K.In s.heap) (I : PySem.W.InstAt s.heap x ox C od) (hs : PySem.W.findIn K (.ref C) "__eq__" = some (some (.ref f))) (hf : PySem.W.isFn K (.ref f) = true) (hu : A.units < cLine) {Q : Fin → Shared → Prop}
    (hcall : wpAny (model pr wd) A (call (.ref f) [.ref x, b]) (fun v s' => ∃ c, v = .bool c ∧ Q (.done (.ret (.bool (!c)))) s') E s) : wpAny (model pr wd) A (Builtin.«object.__ne__» ⟨[.ref x, b], []⟩) Q E s := by
  unfold Builtin.«object.__ne__»
  repeat (first
    | with_reducible refine wpAny_cRoomFor hu ?_
    | (refine wpAny_bind (m := callSpecialIfBound? (.ref x) (Str.ofString "__eq__") [b])
        (PySem.W.ifBound_K X I hs hf (wpAny_mono hcall (fun r s' hr => by
          obtain ⟨c, rfl, hq⟩ := hr
          repeat (first | exact hq | exact wpAny_pure hq | exact wpAny_truthy_bool hq | (refine wpAny_bind (m := truthy (.bool _)) (wpAny_truthy_bool ?_)) | wp_step)) fun _ _ e => e)))
    | wp_step)
theorem ne_K {b tb : Value} {Q : Value → Shared → Prop} (hu : A.units + 1 < cLine) (X : K.In s.heap) (I : PySem.W.InstAt s.heap x ox C od) (hb : PySem.W.Looks (model pr wd) s.heap (typeOf b) tb) (hn : PySem.W.notFirst K C tb = true)
    (ho : PySem.W.subIn K (.ref C) (.type "object") = some true) (hne : PySem.W.findIn K (.ref C) "__ne__" = some (some (.builtin "object.__ne__"))) (hs : PySem.W.findIn K (.ref C) "__eq__" = some (some (.ref f))) (hf : PySem.W.isFn K (.ref f) = true)
    (h : wpAny (model pr wd) A.in1 (call (.ref f) [.ref x, b]) (fun v s' => ∃ c, v = .bool c ∧ Q (.bool (!c)) s') E s) : wpAny (model pr wd) A (richCompare .NotEq (.ref x) b) Q E s := by
  have ty : PySem.W.Looks (model pr wd) s.heap (isInstance (.ref x) (.type "object")) true := I.type.andThen (PySem.W.looks_subIn X ho)
  have one : wpAny (model pr wd) A (tryCompare (.ref x) "__ne__" b) (fun r s' => ∃ v, r = some v ∧ Q v s') E s := by
    simp only [tryCompare]
    refine wpAny_bind (ifBound_ne X I hne (wpAny_call (codeAny_call_builtin F.cmp_object.ne.plain F.cmpEntry_ne (PySem.W.check_slot F.cmpKind_ne F.cmpSplit_ne ty (F.cmpArgs_ne _ _) (ne_entry (A := A.in1) X I hs hf hu (wpAny_mono h (fun v s' hv => ?_) fun _ _ e => e))))))
    obtain ⟨c, rfl, hq⟩ := hv
    first | exact ⟨c, rfl, wpAny_pure ⟨_, rfl, hq⟩⟩ | exact ⟨c, rfl, wpAny_pure (wpAny_pure ⟨_, rfl, hq⟩)⟩ | exact ⟨c, rfl, ⟨_, rfl, hq⟩⟩
  unfold richCompare
  simp only [oneThing_ref]
  refine wpAny_holding (wpAny_bind (wpAny_cRoomFor (Nat.lt_of_succ_lt hu) ?_))
  refine wpAny_bind (I.type.here (wpAny_bind (hb.here ?_)))
  split
  · rename_i q
    have e : PySem.W.subIn K tb (.ref C) = some false := by
      rcases Bool.or_eq_true_iff.mp hn with e | e
      · rw [beq_iff_eq.mp e] at q; simp at q
      · exact beq_iff_eq.mp e
    refine wpAny_bind ((PySem.W.looks_subIn X e).here ?_)
    simp only [Bool.false_eq_true, if_false]
    refine wpAny_bind (wpAny_mono one (fun r s' z => ?_) fun _ _ e => e)
    obtain ⟨v, rfl, hq⟩ := z
    exact wpAny_pure hq
  · refine wpAny_bind (wpAny_pure ?_)
    simp only [Bool.false_eq_true, if_false]
    refine wpAny_bind (wpAny_mono one (fun r s' z => ?_) fun _ _ e => e)
    obtain ⟨v, rfl, hq⟩ := z
    exact wpAny_pure hq
end
section
variable {pr : Program} {wd : World} {A : Around} {E : Value → Shared → Prop} {s : Shared} {K : PySem.W.Frag} {x C f L : Addr} {ox : Obj} {od : Option Obj} {h0 : Heap} {m : Str → Option Value}
theorem bool_own {Q : Value → Shared → Prop} (F : PyProof.Rows.Fr h0 L s.heap m) (X0 : K.In h0) (I : PySem.W.InstAt s.heap x ox C od) (hs : PySem.W.findIn K (.ref C) "__bool__" = some (some (.ref f))) (hf : PySem.W.isFn K (.ref f) = true)
    (h : wpAny (model pr wd) A.in1.in1 (call (.ref f) [.ref x]) (fun r s₁ => ∃ c, r = Value.bool c ∧ Q r s₁) E s) : wpAny (model pr wd) A (call (.type "bool") [.ref x]) Q E s := by
  refine callType_codes (T := "bool") (Bi := Builtin.«object.__init__») (Q₁ := fun r s₁ => ∃ c, r = Value.bool c ∧ Q r s₁) PySem.F.called_bool (PySem.F.typeCall_bool_1 _) PySem.F.entry_object_init ?_ ?_
  · refine codeAny_of_tree ?_
    show wpAny _ A.in1.in1 (do checkBuiltinCall "bool.__new__" ⟨[.type "bool", .ref x], []⟩; again (.builtin "bool.__new__" ⟨[.type "bool", .ref x], []⟩)) _ _ s
    refine wpAny_bind (wpAny_of_eq (PySem.F.newCall_bool_1 _) (wpAny_pure ⟨plainId_quiet (by decide +kernel) _, codeAny_builtin PySem.F.entry_bool_new ?_⟩))
    rw [Around.under_plainId (by decide +kernel) _]
    unfold Builtin.«bool.__new__»
    have f1 := PySem.F.conv_sub_bool
    repeat (first
      | assumption
      | (refine wpAny_bind (m := truthy (.ref x)) (PySem.W.truthy_K F X0 I hs hf (wpAny_mono h (fun r s' hr => by
          obtain ⟨c, rfl, hq⟩ := hr
          exact wpAny_pure ⟨c, rfl, hq⟩) fun _ _ e => e)))
      | wp_step)
    all_goals first | exact ⟨_, rfl, by assumption⟩ | skip
  · rintro obj s₁ ⟨c, rfl, hq⟩
    exact ⟨PySem.typeIs_bool _ _, PySem.F.args_object_init_2 _ _, object_init_meets PySem.F.called_bool.init.lookup PySem.F.called_bool.made (by decide) pr wd A.in1 _ s₁ ⟨PySem.typeIs_bool _ _, rfl, hq⟩⟩
end
/-- x != y, x an instance of the class at C with its __eq__ at g -/
def rNeOwn (K : PySem.W.Frag) (C : Addr) (sp : Sp) (E : XK) : R2 := fun x y H Q => ∃ a dx fs t, x = .ref a ∧ H a = some (.ins C dx fs) ∧ TyX K H y t ∧ PySem.W.notFirst K C t = true ∧ sp [x, y] H (fun z H' => ∃ c, z = .bl c ∧ Q (.bl (!c)) H') E
def rBoolOwn (C : Addr) (sp : Sp) (E : XK) : List V → Hp → VK → Prop := fun xs H Q => ∃ a dx fs, xs = [.ref a] ∧ H a = some (.ins C dx fs) ∧ sp xs H (fun z H' => ∃ c, z = .bl c ∧ Q (.bl c) H') E
section
variable {X : Cx} {CX : CXT} {n : Nat} {C g : Addr} {sp : Sp} {E : XK}
theorem run_fnR1 {pins : List (Addr × Obj)} {σ : L2.St} {H : Hp} {s : Shared} {Q : VK} {us : List Value} {vs : List V} (F : FnR X.prog X.w X.K X.mg X.base CX n g sp) (hr : Room (n + 1) X.A) (hx : Passes CX X E) (I : Inv X pins σ H s) (r : Vals vs us) (h : sp vs H Q E) :
    codeAny (model X.prog X.w) X.A.in1 (.call (.ref g) ⟨us, []⟩) (fun r s' => match r with | .ok (.ret v) => EP X pins σ Q v s' | .ok _ => False | .error e => X.xe e s') s := by
  refine codeAny_mono (F X.A.in1 X.stack s H us vs Q E hr.in1 I.env0.in1 r h) fun r s' hq => ?_
  cases r with
  | error e => exact hx pins σ H s e s' I hq
  | ok fl =>
    cases fl with
    | ret u => exact I.after hq
    | next => exact False.elim hq
    | brk => exact False.elim hq
    | cont => exact False.elim hq
theorem op_neOwn (hne : PySem.W.findIn X.K (.ref C) "__ne__" = some (some (.builtin "object.__ne__"))) (ho : PySem.W.subIn X.K (.ref C) (.type "object") = some true) (hs : PySem.W.findIn X.K (.ref C) "__eq__" = some (some (.ref g))) (hf : PySem.W.isFn X.K (.ref g) = true)
    (F : FnR X.prog X.w X.K X.mg X.base CX n g sp) (hr : Room (n + 1) X.A) (hx : Passes CX X E) : OpR X (compareOp .NotEq) (rNeOwn X.K C sp E) := by
  intro pins s σ H x y v u Q I rx ry h
  obtain ⟨a, dx, fs, t, rfl, ha, ty, hn, q⟩ := h
  cases (show v = Value.ref a from rx)
  obtain ⟨mA, O, _⟩ := ins_get I.hok ha
  obtain ⟨od, J, _⟩ := O.look
  obtain ⟨P, Z, p, _⟩ := kit_of I ry ty
  show wpAny _ _ (richCompare .NotEq _ _) _ _ _
  refine ne_K (by have := hr.units; omega) I.kIn J (Z.ty _ _ I.kIn p) hn ho hne hs hf ?_
  refine wpAny_mono (wpAny_call (run_fnR1 (us := [.ref a, u]) (vs := [.ref a, y]) F hr hx I (.cons rfl (.cons ry .nil)) q)) (fun w s' z => ?_) fun _ _ x => x
  obtain ⟨z', H', I', rz, c, rfl, qc⟩ := z
  cases (show w = Value.bool c from rz)
  exact ⟨c, rfl, .bl (!c), H', I', rfl, qc⟩
theorem call_bool_own (hs : PySem.W.findIn X.K (.ref C) "__bool__" = some (some (.ref g))) (hf : PySem.W.isFn X.K (.ref g) = true) (F : FnR X.prog X.w X.K X.mg X.base CX n g sp) (hr : Room (n + 2) X.A) (hx : Passes CX X E) : CallR X (.type "bool") (rBoolOwn C sp E) := by
  intro pins s σ H xs us Q I r h
  obtain ⟨a, dx, fs, rfl, ha, q⟩ := h
  obtain ⟨u, rfl, ru⟩ := vals1 r
  cases (show u = Value.ref a from ru)
  obtain ⟨mA, O, _⟩ := ins_get I.hok ha
  obtain ⟨od, J, _⟩ := O.look
  obtain ⟨m, hF⟩ := I.fr
  have hr2 : Room n X.A.in1.in1 := (show Room (n + 1) X.A.in1 from Room.in1 hr).in1
  refine bool_own hF I.ok.mod.kin J hs hf (wpAny_mono (wpAny_call (SlX.run_at (us := [.ref a]) (ws := [.ref a]) F hr2 I.env0.in1.in1 hx I (.cons rfl .nil) q)) (fun w s' z => ?_) fun _ _ x => x)
  obtain ⟨z', H', I', rz, c, rfl, qc⟩ := z
  cases (show w = Value.bool c from rz)
  exact ⟨c, rfl, .bl c, H', I', rfl, qc⟩
end

/-! ### xs + ys, both to be read -/
def rCatL (K : PySem.W.Frag) : R2 := fun x y H Q => ∃ l b xs zs, x = .ref l ∧ y = .ref b ∧ SqL K H l xs ∧ SqL K H b zs ∧ xs.length + zs.length ≤ sizeLine ∧ ∀ p, H p = none → Q (.ref p) (upd H p (.lst (xs ++ zs)))
theorem op_catL {X : Cx} (K : PySem.W.Frag) (hK : X.K = K := by rfl) : OpR X (binaryOp .Add) (rCatL K) := by
  subst hK
  intro pins s σ H x y v u Q I rx ry h
  obtain ⟨l, b, xs, zs, rfl, rfl, hH, hB, hz, q⟩ := h
  cases rx
  cases ry
  obtain ⟨its, r, pl, _⟩ := I.list hH
  obtain ⟨its2, r2, pl2, _⟩ := I.list hB
  have lz : its.length + its2.length ≤ sizeLine := by rw [← r.length, ← r2.length]; exact hz
  obtain ⟨⟨cls, dd, data, sl⟩, ho, hc, n, hd⟩ := id pl.isList
  obtain ⟨⟨cls2, dd2, data2, sl2⟩, ho2, hc2, n2, hd2⟩ := id pl2.isList
  simp only at hc hd hc2 hd2
  subst hc hd hc2 hd2
  refine concat_meets ⟨_, ho, rfl⟩ ⟨_, ho2, rfl⟩ noFill_list_add seq_list_add PySem.F.slot_list_add PySem.F.entry_list_add (PySem.F.args_list_add_2 _ _) (list_addW l b its.toArray its2.toArray n n2 dd dd2 sl sl2 (by simpa using lz)) ⟨ho, ho2, ?_⟩
  have ea : its.toArray ++ its2.toArray = (its ++ its2).toArray := by simp
  rw [ea]
  exact ⟨.ref _, _, I.lnew (t' := s.toks) (r.append r2) (by rw [List.length_append]; omega), rfl, q _ I.fresh⟩
end Sw

set_option Elab.async false
set_option linter.all false
set_option maxRecDepth 100000
set_option maxHeartbeats 4000000
/-! SwK: calls with keywords. -/
namespace Sw
open PySem PySem.Spec PyProof.Rows L2
def FnRK (P : Program) (w : World) (K : PySem.W.Frag) (mg : Str → Option Value) (base : Heap) (CX : CXT) (k : Nat) (f : Addr) (n : Nat) (ks : List Str) (sp : List V → List V → Hp → VK → XK → Prop) : Prop :=
  ∀ (A : Around) (outer : List Env) (s : Shared) (H : Hp) (us ws : List Value) (vs zs : List V) (Q : VK) (E : XK), Room k A → Env0 P w K mg base A outer s H → Vals vs us → Vals zs ws → vs.length = n → zs.length = ks.length → sp vs zs H Q E →
    codeAny (model P w) A (.call (.ref f) ⟨us, ks.zip ws⟩) (CR CX outer P w H s Q E) s
/-- a def, called with n values and the keywords ks: gV puts them in the parameters' order -/
structure DefKw (K : PySem.W.Frag) (x qual : Str) (st : Stmt) (ps : List Str) (f : Addr) (cdv : Value) (n : Nat) (ks : List Str) (gV : List V → List V → List V) : Prop where
  ex : ∃ (fd : FuncData) (oc dV kV doc pm ct : Value) (od an : Option Addr) (osl : Array (Option Value)), fd = PySem.W.fnOf x qual (defArgs st) (defBody st) (defScope st) dV kV doc pm an cdv ct ∧ K.lookup f = some ⟨oc, od, .func fd, osl⟩ ∧
    PySem.W.codeIn K cdv qual = true ∧ ∃ g : List Value → List Value → List Value, (∀ {vs : List V} {us : List Value} {zs : List V} {ws : List Value}, Vals vs us → Vals zs ws → vs.length = n → zs.length = ks.length → Vals (gV vs zs) (g us ws)) ∧
      ∀ (s : Shared) (us ws : List Value), K.In s.heap → us.length = n → ws.length = ks.length → BindsTo s fd ⟨us, ks.zip ws⟩ (ps.zip (g us ws))
section
variable {P : Program} {w : World} {K : PySem.W.Frag} {mg : Str → Option Value} {base : Heap} {x qual : Str} {st : Stmt} {ps : List Str} {f : Addr} {cdv : Value} {n : Nat} {ks : List Str} {gV : List V → List V → List V}
theorem DefKw.okR {N : List Str} {k : Nat} {sp : Sp} (D : DefKw K x qual st ps f cdv n ks gV) (S : FnScope N ps (defScope st)) (len : ∀ vs H Q E, sp vs H Q E → vs.length = ps.length)
    (hbody : ∀ (A : Around) (outer : List Env) (s : Shared) (H : Hp) (vs : List V) (Q : VK) (E : XK), Room k (A.deeper (envOfC qual (defScope st) s.heap.objs.size f cdv)) → sp vs H Q E →
      ∃ t, PSs (cxOf CX0 P w K mg base N qual (defScope st) f cdv A outer s H E).nox (defBody st) t ∧ t { nx := fun _ H' => Q .non H', rt := Q } (start N vs) H) :
    FnRK P w K mg base CX0 (k + 1) f n ks (fun vs zs H Q E => sp (gV vs zs) H Q E) := by
  obtain ⟨fd, oc, dV, kV, doc, pm, ct, od, an, osl, rfl, lk, hcd, g, hrel, hb⟩ := D.ex
  have F : FnOk P w K mg base CX0 (k + 1) f _ ps sp := fn_of lk hcd S len fun A outer s H vs Q E hr hsp => by
    obtain ⟨t, h, q⟩ := hbody A outer s H vs Q E hr hsp
    exact ⟨t, h.nox, q⟩
  intro A outer s H us ws vs zs Q E hr e0 r rz l1 l2 hs
  exact F.run A outer s H ⟨us, ks.zip ws⟩ (g us ws) (gV vs zs) Q E hr e0 (hb s us ws (e0.mod.kin.keeps fun b o e => (e0.bs b o e).1) (by rw [← r.length]; exact l1) (by rw [← rz.length]; exact l2)) (hrel r rz l1 l2) hs
theorem DefKw.mkD {oc : Value} {od an : Option Addr} {osl : Array (Option Value)} {kV doc pm ct : Value} {T : Addr} {o : Obj} {its : List Value} {m : Nat} (g : List Value → List Value → List Value)
    (l : K.lookup f = some ⟨oc, od, .func (PySem.W.fnOf x qual (defArgs st) (defBody st) (defScope st) (.ref T) kV doc pm an cdv ct), osl⟩)
    (c : PySem.W.codeIn K cdv qual = true) (lT : K.lookup T = some o) (oT : o.data = .seq its.toArray m)
    (hrel : ∀ {vs : List V} {us : List Value} {zs : List V} {ws : List Value}, Vals vs us → Vals zs ws → vs.length = n → zs.length = ks.length → Vals (gV vs zs) (g us ws))
    (h : ∀ (T : Addr) (kV doc pm : Value) (an : Option Addr) (cdv ct : Value) (us ws : List Value), us.length = n → ws.length = ks.length →
      ∃ k, bindArgs (PySem.W.fnOf x qual (defArgs st) (defBody st) (defScope st) (.ref T) kV doc pm an cdv ct) ⟨us, ks.zip ws⟩ = seqItems? (.ref T) >>= k ∧ k (some its.toArray) = pure (ps.zip (g us ws))) :
    DefKw K x qual st ps f cdv n ks gV := by
  refine ⟨_, oc, .ref T, kV, doc, pm, ct, od, an, osl, rfl, l, c, g, hrel, fun s us ws X l1 l2 => ?_⟩
  obtain ⟨kk, e1, e2⟩ := h T kV doc pm an cdv ct us ws l1 l2
  refine BindsTo.of_looks fun M => ?_
  rw [e1]
  exact looks_items X lT oT (.of_pure e2)
end
/-- C(k = v, ..) -/
def tMakeKW (C : Addr) (m : Nat) (sp : List V → List V → Hp → VK → XK → Prop) (E : XK) (tk : TA) : TE := fun σ H Q => tk σ H fun zs H2 => zs.length = m ∧ ∀ x dx, H2 x = none → H2 dx = none → dx ≠ x → sp [.ref x] zs (upd (upd H2 dx (.own x)) x (.ins C dx [])) (fun v H3 => v = .non ∧ Q (.ref x) H3) E
section
variable {X : Cx} {CX : CXT} {k : Nat} {f C : Addr} {ks : List Str} {sp : List V → List V → Hp → VK → XK → Prop} {E : XK} {x : Str} {p pos : Pos} {kws : List Keyword} {tk : TA}
theorem pe_makeKW (M : Mk X.K C f) (F : FnRK X.prog X.w X.K X.mg X.base CX k f 1 ks sp) (hr : Room (k + 1) X.A) (hg : Gl X x) (hm : X.mg x = some (.ref C)) (hx : Passes CX X E)
    (hkw : PK X kws tk) (hall : (backToKw pos (keywordEach kws X.env)).all (·.1.isSome) = true := by rfl) (hks : (backToKw pos (keywordEach kws X.env)).filterMap (·.1) = ks := by rfl)
    (hdb : (x == ("__debug__" : Str)) = false := by decide) (hpl : ((backTo pos (starEach [] X.env)).any (·.1) || (backToKw pos (keywordEach kws X.env)).any (·.1.isNone)) = false := by rfl) :
    PE X (.Call (.Name x p) [] kws pos) (tMakeKW C ks.length sp E tk) := by
  refine ⟨fun pins s0 σ H0 Q I0 h => ?_⟩
  refine wpAny_Call_Name_kw (ld_glob I0 hg hm ?_ hdb)
  refine PySem.W.callWith_KW0 (h₀ := X.base) I0.ok.mod.kin M.kp hall (thn (hkw.run pos pins s0 σ H0 _ I0 h) fun ws s ⟨zs, H, I, rz, l2, h⟩ => ⟨I.kIn, ?_⟩) hpl
  rw [hks]
  have hq := h (s.heap.objs.size + 1) s.heap.objs.size (I.hok.fresh (Nat.le_succ _)) (I.hok.fresh (Nat.le_refl _)) (Nat.ne_of_lt (Nat.lt_succ_self _))
  have I2 := Inv.made (C := C) I
  have r1 : Vals [V.ref (s.heap.objs.size + 1)] [Value.ref (s.heap.objs.size + 1)] := .cons rfl .nil
  refine wpAny_call (make_map (f := f) I.kIn M.makes M.init (beq_iff_eq.mp M.fn) (codeAny_mono (F _ X.stack _ _ [Value.ref (s.heap.objs.size + 1)] ws [V.ref (s.heap.objs.size + 1)] zs _ E (hr.make C [] (ks.zip ws))
    (I2.env0.make C [] (ks.zip ws)) r1 rz rfl l2 hq) fun r s' hq' => ?_))
  cases r with
  | error e => exact hx pins σ _ _ e s' I2 hq'
  | ok fl =>
    cases fl with
    | ret u =>
      obtain ⟨v, H', I3, rv, ev, q3⟩ := I2.after hq'
      subst ev
      exact ⟨rv, ⟨V.ref (s.heap.objs.size + 1), H', I3, rfl, q3⟩⟩
    | next => exact False.elim hq'
    | brk => exact False.elim hq'
    | cont => exact False.elim hq'
end
end Sw

set_option Elab.async false
set_option linter.all false
set_option maxRecDepth 100000
set_option maxHeartbeats 4000000
/-! SwX: own errors that set a field first and call the __init__ of an own base class. -/
namespace Sw
open PySem PySem.Spec PyProof.Rows L2
abbrev exB (C t : Addr) (dx : Option Addr) : Obj := { cls := .ref C, dict := dx, data := .fields #[.ref t, .none, .none, .none, .bool false, .none] }
section
variable {prog : Program} {w : World} {A : Around} {R : Result → Shared → Prop} {h : Heap} {g : Array GenState} {d : Drawn} {t : Nat} {os : OsState}
variable {nm q : Str} {C N : Addr} {bs bm bmB : List Value} {hdct : Bool} {sn : List Str} {sub : List Value} {ab : Bool} {col : Option Bool} {dd : Option Addr} {k0 k1 k2 k3 k5 : Option Value} {B newId initId : String}
theorem init_dict (F : ExcBaseFacts B newId initId bmB) (hT : ∀ X : String, bm.contains (.type X) = bmB.contains (.type X)) {e t0 : Addr} {dx : Option Addr} {rest : List Value}
    (hC : h.get? C = some (excClassObj nm q C N bs bm hdct sn sub ab col dd k0 k1 k2 k3 k5 newId)) (he : h.get? e = some (exB C t0 dx)) (hrest : rest.length ≤ sizeLine)
    (hq : ∀ h' t1, (∀ b o, b ≠ e → h.get? b = some o → h'.get? b = some o) → h'.get? e = some (exB C t1 dx) → R (.ok (.ret .none)) ⟨h', g, d, t, os⟩) :
    codeAny (model prog w) A (.call (.builtin initId) ⟨.ref e :: rest, []⟩) R ⟨h, g, d, t, os⟩ := by
  refine codeAny_call_builtin F.init.plain F.initEntry (PySem.HandSPX.check_init_own F hT hC he rfl ?_)
  wp_walk
  refine hq _ h.objs.size (fun b o hb ho => ?_) ?_
  · rw [Heap.get?_update_other _ _ (Ne.symm hb)]
    exact Heap.get?_push_of_some _ ho
  · rw [Heap.get?_update_self _ (Heap.get?_push_of_some _ he) rfl]
    rfl
end
section
variable {X : Cx} {pins : List (Addr × Obj)} {σ : L2.St} {H : Hp} {s : Shared} {a C : Addr} {dx : Option Addr} {E : Value → Shared → Prop} {A : Around}
theorem oinit_dict {us : List Value} {Q : Value → Shared → Prop} (T : OexC X.K C) (I : Inv X pins σ H s) (e : H a = some (exo a C dx)) (hl : us.length ≤ sizeLine) (h : ∀ s', Inv X pins σ H s' → Q .none s') :
    wpAny (model X.prog X.w) A (call (.builtin "ValueError.__init__") (.ref a :: us)) Q E s := by
  obtain ⟨nm, q, N, bs, bm, sn, sub, ab, col, dd, k0, k1, k2, k3, k5, hC, hbm⟩ := T.cls
  obtain ⟨t1, ho⟩ := exo_at I.hok e
  obtain ⟨hp, g, d, t, os⟩ := s
  refine wpAny_call (init_dict PySem.F.excBase_ValueError (fun Y => PySem.HandSPX.refsVE_contains Y bm hbm) (I.kIn _ _ hC) ho hl fun h' t2 k hx => ?_)
  have J := I.write (t' := t) (x := a) (e := a) (o := exo a C dx) (by rw [e]; exact True.intro) (.inl rfl) k ⟨_, hx⟩ (exo_ok hx)
  have eu : upd H a (exo a C dx) = H := by
    funext b
    by_cases hb : b = a
    · rw [hb, upd_same, e]
    · rw [upd_ne hb]
  rw [eu] at J
  exact h _ J
end
/-- B.__init__ is ValueError's -/
structure VeI (K : PySem.W.Frag) (B : Addr) : Prop where
  rd : PySem.W.readsIn K B (.type "type") = true
  ga : PySem.W.specialIn K (.ref B) "__getattribute__" = some (some (.builtin "type.__getattribute__"))
  at_ : PySem.W.findCls K (.ref B) (.type "type") "__init__" = some (.val (.builtin "ValueError.__init__"))
/-- B.__init__(self, ..) -/
def tShI (K : PySem.W.Frag) (ta : TA) : TE := fun σ H Q => ta σ H fun vs H1 => ∃ (a C : Addr) (dx : Option Addr) (ws : List V), vs = .ref a :: ws ∧ ws.length ≤ 1000 ∧ OexC K C ∧ H1 a = some (exo a C dx) ∧ Q .non H1
section
variable {X : Cx} {x : Str} {B : Addr} {e : Expr} {es : List Expr} {ta : TA} {p1 p2 pos : Pos} {pl : Sem Bool}
theorem pe_shinit (c : VeI X.K B) (hg : Gl X x) (hm : X.mg x = some (.ref B)) (ha : PA X (e :: es) ta) (hdb : (x == ("__debug__" : Str)) = false := by decide)
    (hc : eval (.Call (.Attribute (.Name x p1) "__init__" p2) (e :: es) [] pos) X.env = (do
      let ov ← eval (.Name x p1) X.env
      standAt p2.atName
      let (f, first) ← holding [ov] (getMethod ov "__init__" pl)
      callWith pos f first (backTo pos (starEach (e :: es) X.env)) (backToKw pos (keywordEach [] X.env))) := by rfl)
    (he : starEach (e :: es) X.env = (false, eval e X.env) :: starEach es X.env := by rfl) (hpl : (backTo pos (starEach es X.env)).any (·.1) = false := by rfl) :
    PE X (.Call (.Attribute (.Name x p1) "__init__" p2) (e :: es) [] pos) (tShI X.K ta) := by
  refine ⟨fun pins s σ H Q I h => ?_⟩
  refine PySem.W.methodCall_KW (pl := pl) (ld_glob I hg hm ?_ hdb) hc
  refine PySem.W.method_cls I.kIn c.ga (PySem.W.cls_value I.kIn c.rd c.at_ (by decide +kernel) ?_)
  show wpAny _ _ (callWith pos (Value.builtin "ValueError.__init__") [] (backTo pos (starEach (e :: es) X.env)) []) _ _ _
  refine PyProof.Rows.callWith_method1 (thn (ha.run pos pins _ σ H _ (I.tok _) h) fun us s1 ⟨vs, H1, I1, r1, a, C, dx, ws, ev, hl, T, ea, q⟩ => ?_) he hpl
  subst ev
  cases r1 with
  | @cons _ u0 _ ur ra rw' =>
    obtain rfl : u0 = Value.ref a := ra
    have hlen : ur.length ≤ sizeLine := by
      rw [← Paired.length rw', sizeLine_eq]
      omega
    exact oinit_dict T I1 ea hlen fun s' J => ⟨.non, H1, J, rfl, q⟩
end
/-! ### isinstance of a caught error that has a dict -/
theorem kitD {K : PySem.W.Frag} {x D : Addr} {ox : Obj} {od : Option Obj} (T : ExcC K D) : PySem.W.KitX K (.ref x) (.ref D) (fun h => PySem.W.InstAt h x ox D od) :=
  PySem.W.kitx_exc (by obtain ⟨cd, z, _⟩ := PySem.W.any_some T.hd; rw [z]; rfl) T.hg T.hk T.hs T.ha T.hn T.ht T.hm
/-- isinstance(e, c), e the caught error a of the class at D with its dict -/
def rIsX (K : PySem.W.Frag) (a : Addr) (cls : Value) (d : Option Addr) : List V → Hp → VK → Prop := fun xs H Q => ∃ (D dd : Addr) (fs : List (Str × V)) (c : V) (cv : Value) (b : Bool), cls = .ref D ∧ d = some dd ∧ ExcC K D ∧ H dd = some (.xd fs) ∧ xs = [.ref a, c] ∧ (∀ u, RelV c u → u = cv) ∧ PySem.W.kitOne K (.ref D) cv = some b ∧ Q (.bl b) H
theorem cr_isX {X : Cx} {a : Addr} {cls : Value} {d : Option Addr} {oe : Obj} {pn : List (Addr × Obj)} (hz : Zc cls d oe) (hf : ∃ vs, oe.data = .fields vs) : CallR (X.suite a ((a, oe) :: pn)) (.builtin "isinstance") (rIsX X.K a cls d) := by
  intro pins s σ H xs us Q I r h
  obtain ⟨D, dd, fs, c, cv, b, rfl, rfl, C, hdd, rfl, hcv, e, q⟩ := h
  cases r with
  | cons rx rr =>
    cases rr with
    | cons rt rr =>
      cases rr
      cases rx
      have ec := hcv _ rt
      subst ec
      obtain ⟨hget, _⟩ := I.pin (a, oe) (List.mem_append.mpr (.inl List.mem_cons_self))
      obtain ⟨vs, hv⟩ := hf
      have hx : ObjOk X.prog X.w H s.heap dd (.xd fs) := I.hok dd _ hdd
      obtain ⟨mA, ⟨od, _, _, ho, _⟩, _⟩ := hx
      have J : PySem.W.InstAt s.heap a oe D (some od) := ⟨hget, hz.1, by unfold PySem.W.notCls; rw [hv] <;> rfl, by rw [hz.2]; exact ho⟩
      exact PySem.W.kia_one (kitD C) I.kIn J e (fun z => nomatch z) fun tk => ⟨.bl b, H, I.kept (t' := tk) fun _ _ z => z, rfl, q⟩
/-! ### calls that may raise -/
def tCRS (sp : Sp) (E : L2.St → XK) (t : TA) : TE := fun σ H Q => t σ H fun vs H1 => sp vs H1 Q (E σ)
section
variable {X : Cx} {CX : CXT} {k : Nat} {f C g : Addr} {sp : Sp} {E : L2.St → XK} {x m : Str} {p pos apos : Pos} {e : Expr} {es : List Expr} {t : TA} {pl : Sem Bool}
theorem run_fnRS {pins : List (Addr × Obj)} {σ : L2.St} {H : Hp} {s : Shared} {E : XK} {Q : VK} {us : List Value} {vs : List V} (F : FnR X.prog X.w X.K X.mg X.base CX k f sp) (hr : Room k X.A) (hx : PassesAt CX X σ E) (I : Inv X pins σ H s) (r : Vals vs us) (h : sp vs H Q E) :
    codeAny (model X.prog X.w) X.A (.call (.ref f) ⟨us, []⟩) (fun r s' => match r with | .ok (.ret v) => EP X pins σ Q v s' | .ok _ => False | .error e => X.xe e s') s :=
  codeAny_mono (F X.A X.stack s H us vs Q E hr I.env0 r h) fun r s' hq => by
    cases r with
    | error er => exact hx pins H s er s' I hq
    | ok z => cases z with
      | ret u => exact I.after hq
      | _ => exact False.elim hq
theorem pe_cRS (F : FnR X.prog X.w X.K X.mg X.base CX k f sp) (hr : Room k X.A) (hg : Gl X x) (hm : X.mg x = some (.ref f)) (hk : PySem.W.keepIn X.K (.ref f) = true) (hx : ∀ σ, PassesAt CX X σ (E σ))
    (ha : PA X (e :: es) t) (hdb : (x == ("__debug__" : Str)) = false := by decide) (he : starEach (e :: es) X.env = (false, eval e X.env) :: starEach es X.env := by rfl) (hpl : (backTo pos (starEach es X.env)).any (·.1) = false := by rfl) :
    PE X (.Call (.Name x p) (e :: es) [] pos) (tCRS sp E t) := by
  refine ⟨fun pins s σ H Q I h => wpAny_Call_Name_kw (ld_glob I hg hm ?_ hdb)⟩
  exact PySem.W.callWith_K (h₀ := X.base) I.ok.mod.kin hk (thn (ha.run pos pins s σ H _ I h) fun us s1 ⟨vs, H1, I1, r, q⟩ => ⟨I1.kIn, wpAny_call (run_fnRS F hr (hx σ) I1 r q)⟩) he hpl
theorem pe_clsRS (c : CFn X.K C m g) (F : FnR X.prog X.w X.K X.mg X.base CX k g sp) (hr : Room k X.A) (hg : Gl X x) (hm : X.mg x = some (.ref C)) (hx : ∀ σ, PassesAt CX X σ (E σ)) (ha : PA X (e :: es) t) (hdb : (x == ("__debug__" : Str)) = false := by decide)
    (hst : starEach (e :: es) X.env = (false, eval e X.env) :: starEach es X.env := by rfl) (hpl : (backTo pos (starEach es X.env)).any (·.1) = false := by rfl)
    (ht : eval (.Call (.Attribute (.Name x p) m apos) (e :: es) [] pos) X.env = (do
      let ov ← eval (.Name x p) X.env
      standAt apos.atName
      let (f, first) ← holding [ov] (getMethod ov m pl)
      callWith pos f first (backTo pos (starEach (e :: es) X.env)) (backToKw pos (keywordEach [] X.env))) := by rfl) :
    PE X (.Call (.Attribute (.Name x p) m apos) (e :: es) [] pos) (tCRS sp E t) := by
  refine ⟨fun pins s σ H Q I h => PySem.W.methodCall_KW (pl := pl) (ld_glob I hg hm ?_ hdb) ht⟩
  refine PySem.W.method_cls I.kIn c.ga (getCFn I c fun s2 I2 => ?_)
  exact PySem.W.callWith_K (h₀ := X.base) I.ok.mod.kin c.kp (thn (ha.run pos pins s2 σ H _ I2 h) fun us s3 ⟨vs, H2, I3, r, q2⟩ => ⟨I3.kIn, wpAny_call (run_fnRS F hr (hx σ) I3 r q2)⟩) hst hpl
end
/-! ### defs that may raise, the __init__ of errors -/
section
variable {P : Program} {w : World} {K : PySem.W.Frag} {mg : Str → Option Value} {base : Heap} {x qual : Str} {st : Stmt} {ps : List Str} {f : Addr}
theorem DefAt.okX {N : List Str} {k : Nat} {sp : Sp} (D : DefAt K x qual st ps f) (S : FnScope N ps (defScope st)) (len : ∀ vs H Q E, sp vs H Q E → vs.length = ps.length)
    (hb : ∀ (cdv : Value) (A : Around) (outer : List Env) (s : Shared) (H : Hp) (vs : List V) (Q : VK) (E : XK), Room k (A.deeper (envOfC qual (defScope st) s.heap.objs.size f cdv)) → sp vs H Q E →
      ∃ t, PSs (cxOf (L2.CX P w) P w K mg base N qual (defScope st) f cdv A outer s H E) (defBody st) t ∧ t { nx := fun _ H' => Q .non H', rt := Q } (start N vs) H) : FnR P w K mg base (L2.CX P w) (k + 1) f sp := by
  obtain ⟨fd, F, hbd⟩ := D.ex
  exact FnOk.toR (F.okX S len hb) hbd
/-- the __init__ of the class C of errors keeps its arguments in the fields fs -/
def spErr (C : Addr) (fs : List Str) : Sp := fun vs H Q _ => ∃ a ws, vs = .ref a :: ws ∧ ws.length = fs.length ∧ H a = some (exo a C none) ∧
  ∀ d H', H d = none → d ≠ a → H' a = some (exo a C (some d)) → H' d = some (exd d (fs.zip ws).reverse) → (∀ b, b ≠ a → b ≠ d → H' b = H b) → Q .non H'
structure ErrI (P : Program) (w : World) (K : PySem.W.Frag) (mg : Str → Option Value) (base : Heap) (k : Nat) (f : Addr) (sp : Sp) : Prop where
  ex : ∃ fd ps, FnOk P w K mg base CX0 k f fd ps sp ∧ Binds K fd ps []
theorem DefAt.okE {N : List Str} {k : Nat} {sp : Sp} (D : DefAt K x qual st ps f) (S : FnScope N ps (defScope st)) (len : ∀ vs H Q E, sp vs H Q E → vs.length = ps.length)
    (hb : ∀ (cdv : Value) (A : Around) (outer : List Env) (s : Shared) (H : Hp) (vs : List V) (Q : VK) (E : XK), Room k (A.deeper (envOfC qual (defScope st) s.heap.objs.size f cdv)) → sp vs H Q E →
      ∃ t, PSs (cxOf CX0 P w K mg base N qual (defScope st) f cdv A outer s H E).nox (defBody st) t ∧ t { nx := fun _ H' => Q .non H', rt := Q } (start N vs) H) : ErrI P w K mg base (k + 1) f sp := by
  obtain ⟨fd, F, hbd⟩ := D.ex
  exact ⟨fd, ps, F.ok S len hb, hbd⟩
end
/-- the class C of errors, with its __init__ -/
structure ErrC (K : PySem.W.Frag) (C f : Addr) : Prop where
  o : OexC K C
  i : PySem.W.findIn K (.ref C) "__init__" = some (some (.ref f))
  t : PySem.W.typeIn K (.ref f) = some (.type "function")
theorem pmk_err {X : Cx} {x : Str} {C f : Addr} {k : Nat} {sp : Sp} {e : Expr} {es : List Expr} {ta : TA} {p pos : Pos} (T : ErrC X.K C f) (F : ErrI X.prog X.w X.K X.mg X.base k f sp) (hr : Room (k + 1) X.A) (hg : Gl X x) (hm : X.mg x = some (.ref C)) (ha : PA X (e :: es) ta)
    (hdb : (x == ("__debug__" : Str)) = false := by decide) (he : starEach (e :: es) X.env = (false, eval e X.env) :: starEach es X.env := by rfl) (hpl : (backTo pos (starEach es X.env)).any (·.1) = false := by rfl) :
    PMk X (.Call (.Name x p) (e :: es) [] pos) (tMkO C sp [] ta) := by
  obtain ⟨fd, ps, F1, hb⟩ := F.ex
  exact pmk_oex T.o T.i T.t F1 hr hb .nil (fun _ _ _ _ _ _ _ h => h.elim) hg hm ha hdb he hpl
end Sw

set_option linter.all false
/-! RegM: regions, in plain Lean. -/
namespace Rg
structure Reg where
  low : Option Int
  high : Option Int
  without : List Int
  size : Option Int
  value : Option Int
/-- n is within the ends -/
def ge (lo : Option Int) (n : Int) : Bool := match lo with
  | none => true
  | some l => decide (l ≤ n)
def le (hi : Option Int) (n : Int) : Bool := match hi with
  | none => true
  | some h => decide (n ≤ h)
def inI (lo hi : Option Int) (hs : List Int) (n : Int) : Bool := ge lo n && le hi n && !hs.contains n
def Reg.mem (r : Reg) (n : Int) : Bool := inI r.low r.high r.without n
def sizeOf (lo hi : Option Int) (ws : List Int) : Option Int := match lo, hi with
  | some l, some h => some (h - l + 1 - (ws.length : Int))
  | _, _ => none
/-- the one form -/
structure Reg.Canon (r : Reg) : Prop where
  ends : (r.low = some 1 ∧ r.high = some 0 ∧ r.without = []) ∨
    ((∀ l, r.low = some l → r.mem l = true) ∧ (∀ h, r.high = some h → r.mem h = true) ∧ (∀ l h, r.low = some l → r.high = some h → l ≤ h))
  inner : ∀ k ∈ r.without, (∀ l, r.low = some l → l < k) ∧ (∀ h, r.high = some h → k < h)
  sorted : r.without.Pairwise (· < ·)
  size : r.size = sizeOf r.low r.high r.without
  value : r.value = if r.size = some 1 then r.low else none
theorem ge_iff {lo : Option Int} {n : Int} : ge lo n = true ↔ ∀ l, lo = some l → l ≤ n := by
  cases lo with
  | none => simp [ge]
  | some l => simp [ge]
theorem le_iff {hi : Option Int} {n : Int} : le hi n = true ↔ ∀ h, hi = some h → n ≤ h := by
  cases hi with
  | none => simp [le]
  | some l => simp [le]
theorem inI_iff {lo hi : Option Int} {hs : List Int} {n : Int} : inI lo hi hs n = true ↔ (∀ l, lo = some l → l ≤ n) ∧ (∀ h, hi = some h → n ≤ h) ∧ n ∉ hs := by
  unfold inI
  rw [Bool.and_eq_true, Bool.and_eq_true, ge_iff, le_iff]
  simp [and_assoc]
theorem mem_iff {r : Reg} {n : Int} : r.mem n = true ↔ (∀ l, r.low = some l → l ≤ n) ∧ (∀ h, r.high = some h → n ≤ h) ∧ n ∉ r.without := inI_iff
/-- a number beyond all of a list -/
theorem above (ws : List Int) (a : Int) : ∃ n, a ≤ n ∧ ∀ k ∈ ws, k < n := by
  induction ws with
  | nil => exact ⟨a, Int.le_refl _, fun k h => nomatch h⟩
  | cons w r ih =>
    obtain ⟨n, h1, h2⟩ := ih
    refine ⟨max n (w + 1), by omega, fun k hk => ?_⟩
    rcases List.mem_cons.mp hk with rfl | hk
    · omega
    · have := h2 k hk; omega
theorem below (ws : List Int) (a : Int) : ∃ n, n ≤ a ∧ ∀ k ∈ ws, n < k := by
  induction ws with
  | nil => exact ⟨a, Int.le_refl _, fun k h => nomatch h⟩
  | cons w r ih =>
    obtain ⟨n, h1, h2⟩ := ih
    refine ⟨min n (w - 1), by omega, fun k hk => ?_⟩
    rcases List.mem_cons.mp hk with rfl | hk
    · omega
    · have := h2 k hk; omega
/-- where there is no lowest end, small numbers are members -/
theorem mem_below {r : Reg} (h : r.low = none) (c : r.Canon) (a : Int) : ∃ n, n ≤ a ∧ r.mem n = true := by
  cases hh : r.high with
  | none =>
    obtain ⟨n, h1, h2⟩ := below r.without a
    exact ⟨n, h1, mem_iff.mpr ⟨(by rw [h]; intro _ q; cases q), (by rw [hh]; intro _ q; cases q), fun q => by have := h2 n q; omega⟩⟩
  | some t =>
    obtain ⟨n, h1, h2⟩ := below r.without (min a t)
    exact ⟨n, by omega, mem_iff.mpr ⟨(by rw [h]; intro _ q; cases q), (by rw [hh]; intro u q; cases q; omega), fun q => by have := h2 n q; omega⟩⟩
theorem mem_above {r : Reg} (h : r.high = none) (c : r.Canon) (a : Int) : ∃ n, a ≤ n ∧ r.mem n = true := by
  cases hh : r.low with
  | none =>
    obtain ⟨n, h1, h2⟩ := above r.without a
    exact ⟨n, h1, mem_iff.mpr ⟨(by rw [hh]; intro _ q; cases q), (by rw [h]; intro _ q; cases q), fun q => by have := h2 n q; omega⟩⟩
  | some t =>
    obtain ⟨n, h1, h2⟩ := above r.without (max a t)
    exact ⟨n, by omega, mem_iff.mpr ⟨(by rw [hh]; intro u q; cases q; omega), (by rw [h]; intro _ q; cases q), fun q => by have := h2 n q; omega⟩⟩
theorem sorted_ext : ∀ {xs ys : List Int}, xs.Pairwise (· < ·) → ys.Pairwise (· < ·) → (∀ k, k ∈ xs ↔ k ∈ ys) → xs = ys
  | [], [], _, _, _ => rfl
  | [], y :: ys, _, _, h => by have := (h y).mpr (List.mem_cons_self ..); cases this
  | x :: xs, [], _, _, h => by have := (h x).mp (List.mem_cons_self ..); cases this
  | x :: xs, y :: ys, hx, hy, h => by
    have hx1 := List.pairwise_cons.mp hx
    have hy1 := List.pairwise_cons.mp hy
    have e : x = y := by
      rcases List.mem_cons.mp ((h x).mp (List.mem_cons_self ..)) with q | q
      · exact q
      · rcases List.mem_cons.mp ((h y).mpr (List.mem_cons_self ..)) with q' | q'
        · exact q'.symm
        · have := hx1.1 y q'; have := hy1.1 x q; omega
    subst e
    refine congrArg _ (sorted_ext hx1.2 hy1.2 fun k => ⟨fun hk => ?_, fun hk => ?_⟩)
    · rcases List.mem_cons.mp ((h k).mp (List.mem_cons_of_mem _ hk)) with q | q
      · have := hx1.1 k hk; omega
      · exact q
    · rcases List.mem_cons.mp ((h k).mpr (List.mem_cons_of_mem _ hk)) with q | q
      · have := hy1.1 k hk; omega
      · exact q
/-- no members -/
def Reg.emp (r : Reg) : Prop := r.low = some 1 ∧ r.high = some 0 ∧ r.without = []
theorem emp_mem {r : Reg} (h : r.emp) (n : Int) : r.mem n = false := by
  obtain ⟨h1, h2, h3⟩ := h
  rw [Bool.eq_false_iff]
  intro q
  obtain ⟨q1, q2, _⟩ := mem_iff.mp q
  have := q1 1 h1; have := q2 0 h2; omega
theorem some_mem {r : Reg} (c : r.Canon) (h : ¬ r.emp) : ∃ n, r.mem n = true := by
  rcases c.ends with e | ⟨e1, e2, _⟩
  · exact (h e).elim
  · cases hl : r.low with
    | some l => exact ⟨l, e1 l hl⟩
    | none =>
      obtain ⟨n, _, q⟩ := mem_below hl c 0
      exact ⟨n, q⟩
/-- the same members, the same region -/
theorem canon_ext {r q : Reg} (c : r.Canon) (d : q.Canon) (h : ∀ n, r.mem n = q.mem n) : r = q := by
  have lowEq : r.low = q.low ∧ r.high = q.high ∧ r.without = q.without := by
    by_cases er : r.emp
    · by_cases eq : q.emp
      · exact ⟨er.1.trans eq.1.symm, er.2.1.trans eq.2.1.symm, er.2.2.trans eq.2.2.symm⟩
      · obtain ⟨n, hn⟩ := some_mem d eq
        rw [← h n, emp_mem er n] at hn; cases hn
    · by_cases eq : q.emp
      · obtain ⟨n, hn⟩ := some_mem c er
        rw [h n, emp_mem eq n] at hn; cases hn
      · have cr := c.ends.resolve_left er
        have dq := d.ends.resolve_left eq
        have l1 : ∀ {a b : Reg}, a.Canon → b.Canon → (∀ l, a.low = some l → a.mem l = true) → (∀ l, b.low = some l → b.mem l = true) → (∀ n, a.mem n = b.mem n) → ∀ l, a.low = some l → b.low = some l := by
          intro a b ca cb ha hb hm l hl
          cases hbl : b.low with
          | none =>
            obtain ⟨n, hn1, hn2⟩ := mem_below hbl cb (l - 1)
            rw [← hm n] at hn2
            have := (mem_iff.mp hn2).1 l hl
            omega
          | some l' =>
            have h1 := ha l hl
            rw [hm l] at h1
            have h2 := hb l' hbl
            rw [← hm l'] at h2
            have := (mem_iff.mp h1).1 l' hbl
            have := (mem_iff.mp h2).1 l hl
            congr 1; omega
        have r1 : ∀ {a b : Reg}, a.Canon → b.Canon → (∀ l, a.high = some l → a.mem l = true) → (∀ l, b.high = some l → b.mem l = true) → (∀ n, a.mem n = b.mem n) → ∀ l, a.high = some l → b.high = some l := by
          intro a b ca cb ha hb hm l hl
          cases hbl : b.high with
          | none =>
            obtain ⟨n, hn1, hn2⟩ := mem_above hbl cb (l + 1)
            rw [← hm n] at hn2
            have := (mem_iff.mp hn2).2.1 l hl
            omega
          | some l' =>
            have h1 := ha l hl
            rw [hm l] at h1
            have h2 := hb l' hbl
            rw [← hm l'] at h2
            have := (mem_iff.mp h1).2.1 l' hbl
            have := (mem_iff.mp h2).2.1 l hl
            congr 1; omega
        have eL : r.low = q.low := by
          cases hl : r.low with
          | some l => exact (l1 c d cr.1 dq.1 h l hl).symm
          | none =>
            cases hl' : q.low with
            | none => rfl
            | some l => rw [l1 d c dq.1 cr.1 (fun n => (h n).symm) l hl'] at hl; cases hl
        have eH : r.high = q.high := by
          cases hl : r.high with
          | some l => exact (r1 c d cr.2.1 dq.2.1 h l hl).symm
          | none =>
            cases hl' : q.high with
            | none => rfl
            | some l => rw [r1 d c dq.2.1 cr.2.1 (fun n => (h n).symm) l hl'] at hl; cases hl
        refine ⟨eL, eH, sorted_ext c.sorted d.sorted fun k => ?_⟩
        have key : ∀ {a b : Reg}, a.Canon → a.low = b.low → a.high = b.high → (∀ n, a.mem n = b.mem n) → k ∈ a.without → k ∈ b.without := by
          intro a b ca e1 e2 hm hk
          obtain ⟨i1, i2⟩ := ca.inner k hk
          have nm : a.mem k = false := by
            rw [Bool.eq_false_iff]
            intro z
            exact (mem_iff.mp z).2.2 hk
          rw [hm k] at nm
          by_cases z : k ∈ b.without
          · exact z
          · have : b.mem k = true := mem_iff.mpr ⟨fun l hl => by have := i1 l (e1.trans hl); omega, fun l hl => by have := i2 l (e2.trans hl); omega, z⟩
            rw [nm] at this; cases this
        exact ⟨key c eL eH h, key d eL.symm eH.symm fun n => (h n).symm⟩
  obtain ⟨e1, e2, e3⟩ := lowEq
  have e4 : r.size = q.size := by rw [c.size, d.size, e1, e2, e3]
  have e5 : r.value = q.value := by rw [c.value, d.value, e4, e1]
  cases r; cases q
  simp only at e1 e2 e3 e4 e5
  rw [e1, e2, e3, e4, e5]
end Rg
namespace Rg
/-! ### how a region is made -/
theorem inI_low {l m : Int} {hi : Option Int} {hs : List Int} (h1 : l ≤ m) (h2 : ∀ j, l ≤ j → j < m → j ∈ hs) (n : Int) : inI (some m) hi hs n = inI (some l) hi hs n := by
  rw [Bool.eq_iff_iff, inI_iff, inI_iff]
  constructor
  · rintro ⟨a, b, c⟩
    exact ⟨fun k e => by cases e; have := a m rfl; omega, b, c⟩
  · rintro ⟨a, b, c⟩
    refine ⟨fun k e => ?_, b, c⟩
    cases e
    have := a l rfl
    by_cases z : n < m
    · exact absurd (h2 n this z) c
    · omega
theorem inI_high {h m : Int} {lo : Option Int} {hs : List Int} (h1 : m ≤ h) (h2 : ∀ j, m < j → j ≤ h → j ∈ hs) (n : Int) : inI lo (some m) hs n = inI lo (some h) hs n := by
  rw [Bool.eq_iff_iff, inI_iff, inI_iff]
  constructor
  · rintro ⟨a, b, c⟩
    exact ⟨a, fun k e => by cases e; have := b m rfl; omega, c⟩
  · rintro ⟨a, b, c⟩
    refine ⟨a, fun k e => ?_, c⟩
    cases e
    have := b h rfl
    by_cases z : m < n
    · exact absurd (h2 n z this) c
    · omega
theorem inI_out {l h : Int} {hs : List Int} (z : h < l) (n : Int) : inI (some l) (some h) hs n = false := by
  cases e : inI (some l) (some h) hs n with
  | false => rfl
  | true =>
    rw [inI_iff] at e
    have := e.1 l rfl
    have := e.2.1 h rfl
    omega
def mk (lo hi : Option Int) (ws : List Int) : Reg := ⟨lo, hi, ws, sizeOf lo hi ws, if sizeOf lo hi ws = some 1 then lo else none⟩
/-- the ends behind the four steps -/
def Fin (lo hi : Option Int) (hs : List Int) : Prop := (lo = some 1 ∧ hi = some 0) ∨ ((∀ l, lo = some l → l ∉ hs) ∧ (∀ h, hi = some h → h ∉ hs) ∧ ∀ l h, lo = some l → hi = some h → l ≤ h)
def Inner (lo hi : Option Int) (hs ws : List Int) : Prop := ∀ k, k ∈ ws ↔ k ∈ hs ∧ (∀ l, lo = some l → l < k) ∧ ∀ h, hi = some h → k < h
theorem mem_mk {lo hi : Option Int} {hs ws : List Int} (f : Fin lo hi hs) (i : Inner lo hi hs ws) (n : Int) : (mk lo hi ws).mem n = inI lo hi hs n := by
  rcases f with ⟨rfl, rfl⟩ | ⟨f1, f2, f3⟩
  · rw [inI_out (by decide)]
    exact inI_out (by decide) n
  · rw [Bool.eq_iff_iff, inI_iff]
    show inI lo hi ws n = true ↔ _
    rw [inI_iff]
    refine and_congr_right fun a => and_congr_right fun b => ?_
    constructor
    · intro z q
      refine z ((i n).mpr ⟨q, fun l e => ?_, fun h e => ?_⟩)
      · have := a l e
        have : n ≠ l := fun r => f1 l e (r ▸ q)
        omega
      · have := b h e
        have : n ≠ h := fun r => f2 h e (r ▸ q)
        omega
    · intro z q
      exact z ((i n).mp q).1
theorem canon_mk {lo hi : Option Int} {hs ws : List Int} (f : Fin lo hi hs) (i : Inner lo hi hs ws) (s : ws.Pairwise (· < ·)) : (mk lo hi ws).Canon where
  ends := by
    rcases f with ⟨rfl, rfl⟩ | ⟨f1, f2, f3⟩
    · refine .inl ⟨rfl, rfl, ?_⟩
      cases ws with
      | nil => rfl
      | cons k r =>
        have := (i k).mp (List.mem_cons_self ..)
        have := this.2.1 1 rfl
        have := (i k).mp (List.mem_cons_self ..)
        have := this.2.2 0 rfl
        omega
    · refine .inr ⟨fun l e => ?_, fun h e => ?_, f3⟩
      · rw [mem_mk (.inr ⟨f1, f2, f3⟩) i, inI_iff]
        refine ⟨fun k q => ?_, fun h q => f3 l h e q, f1 l e⟩
        have e' : lo = some l := e
        rw [e'] at q
        cases q
        exact Int.le_refl _
      · rw [mem_mk (.inr ⟨f1, f2, f3⟩) i, inI_iff]
        refine ⟨fun l q => f3 l h q e, fun k q => ?_, f2 h e⟩
        have e' : hi = some h := e
        rw [e'] at q
        cases q
        exact Int.le_refl _
  inner := fun k hk => ((i k).mp hk).2
  sorted := s
  size := rfl
  value := rfl
end Rg
namespace Rg
/-! ### sizes -/
theorem room_len : ∀ {ws : List Int} {l h : Int}, ws.Pairwise (· < ·) → (∀ k ∈ ws, l < k ∧ k < h) → ws ≠ [] → (ws.length : Int) ≤ h - l - 1
  | [], _, _, _, _, n => absurd rfl n
  | [k], l, h, _, i, _ => by
    have := i k (List.mem_cons_self ..)
    simp
    omega
  | k :: j :: r, l, h, s, i, _ => by
    have hk := i k (List.mem_cons_self ..)
    have s2 := List.pairwise_cons.mp s
    have := room_len (l := k) (h := h) s2.2 (fun m hm => ⟨s2.1 m hm, (i m (List.mem_cons_of_mem _ hm)).2⟩) (by simp)
    rw [List.length_cons]
    omega
theorem size_pos {r : Reg} (c : r.Canon) (n : ¬ r.emp) : r.size = none ∨ ∃ k, r.size = some k ∧ 1 ≤ k := by
  rw [c.size]
  cases hl : r.low with
  | none => exact .inl rfl
  | some l =>
    cases hh : r.high with
    | none => exact .inl rfl
    | some h =>
      refine .inr ⟨_, rfl, ?_⟩
      rcases c.ends with e | ⟨_, _, e3⟩
      · exact absurd e n
      · have := e3 l h hl hh
        by_cases hw : r.without = []
        · rw [hw]; simp; omega
        · have := room_len c.sorted (fun k hk => ⟨(c.inner k hk).1 l hl, (c.inner k hk).2 h hh⟩) hw
          omega
theorem size_zero {r : Reg} (c : r.Canon) : r.size = some 0 ↔ r.emp := by
  constructor
  · intro e
    refine Classical.byContradiction fun n => ?_
    rcases size_pos c n with z | ⟨k, z, hk⟩
    · rw [z] at e; cases e
    · rw [z] at e; cases e; omega
  · rintro ⟨h1, h2, h3⟩
    rw [c.size, h1, h2, h3]
    rfl
theorem mem_low {r : Reg} (c : r.Canon) (n : ¬ r.emp) {l : Int} (h : r.low = some l) : r.mem l = true := by
  rcases c.ends with e | ⟨e, _, _⟩
  · exact absurd e n
  · exact e l h
theorem mem_high {r : Reg} (c : r.Canon) (n : ¬ r.emp) {l : Int} (h : r.high = some l) : r.mem l = true := by
  rcases c.ends with e | ⟨_, e, _⟩
  · exact absurd e n
  · exact e l h
/-- r within q, by the steps of the program -/
def Sub (r q : Reg) : Prop := ∀ n, r.mem n = true → q.mem n = true
theorem sub_of {r q : Reg} (c : r.Canon) (n : ¬ r.emp) (h1 : ∀ l, q.low = some l → ∃ k, r.low = some k ∧ l ≤ k) (h2 : ∀ h, q.high = some h → ∃ k, r.high = some k ∧ k ≤ h) (h3 : ∀ k ∈ q.without, r.mem k = false) : Sub r q := by
  intro m hm
  have hm' := mem_iff.mp hm
  refine mem_iff.mpr ⟨fun l e => ?_, fun h e => ?_, fun z => ?_⟩
  · obtain ⟨k, e1, e2⟩ := h1 l e
    have := hm'.1 k e1
    omega
  · obtain ⟨k, e1, e2⟩ := h2 h e
    have := hm'.2.1 k e1
    omega
  · rw [h3 m z] at hm
    cases hm
theorem no_sub_low {r q : Reg} (c : r.Canon) (n : ¬ r.emp) {l : Int} (e : q.low = some l) (h : ∀ k, r.low = some k → k < l) : ¬ Sub r q := by
  intro s
  cases hl : r.low with
  | none =>
    obtain ⟨m, h1, h2⟩ := mem_below hl c (l - 1)
    have := (mem_iff.mp (s m h2)).1 l e
    omega
  | some k =>
    have := (mem_iff.mp (s k (mem_low c n hl))).1 l e
    have := h k hl
    omega
theorem no_sub_high {r q : Reg} (c : r.Canon) (n : ¬ r.emp) {l : Int} (e : q.high = some l) (h : ∀ k, r.high = some k → l < k) : ¬ Sub r q := by
  intro s
  cases hl : r.high with
  | none =>
    obtain ⟨m, h1, h2⟩ := mem_above hl c (l + 1)
    have := (mem_iff.mp (s m h2)).2.1 l e
    omega
  | some k =>
    have := (mem_iff.mp (s k (mem_high c n hl))).2.1 l e
    have := h k hl
    omega
theorem no_sub_hole {r q : Reg} {k : Int} (hk : k ∈ q.without) (h : r.mem k = true) : ¬ Sub r q := fun s => (mem_iff.mp (s k h)).2.2 hk
def eqR (r q : Reg) : Bool := decide (r.low = q.low) && decide (r.high = q.high) && decide (r.without = q.without)
theorem eqR_iff {r q : Reg} (c : r.Canon) (d : q.Canon) : eqR r q = true ↔ ∀ n, r.mem n = q.mem n := by
  constructor
  · intro e n
    unfold eqR at e
    simp only [Bool.and_eq_true, decide_eq_true_eq] at e
    unfold Reg.mem
    rw [e.1.1, e.1.2, e.2]
  · intro h
    have := canon_ext c d h
    subst this
    simp [eqR]
end Rg
namespace Rg
/-! ### windows -/
def win (bs : Int) : List Int := (List.range 45).map fun (k : Nat) => bs - 22 + (k : Int)
theorem win_mem {bs n : Int} : n ∈ win bs ↔ bs - 22 ≤ n ∧ n ≤ bs + 22 := by
  unfold win
  rw [List.mem_map]
  constructor
  · rintro ⟨k, hk, rfl⟩
    have := List.mem_range.mp hk
    omega
  · rintro ⟨h1, h2⟩
    exact ⟨(n - (bs - 22)).toNat, List.mem_range.mpr (by omega), by omega⟩
theorem win_sorted (bs : Int) : (win bs).Pairwise (· < ·) := by
  unfold win
  rw [List.pairwise_map]
  exact List.Pairwise.imp (fun h => by omega) List.pairwise_lt_range
/-- what is in and what is out does not change far away -/
structure Flat (bs : Int) (M : Int → Bool) (a b : Bool) : Prop where
  lo : ∀ n, n ≤ bs - 9 → M n = a
  hi : ∀ n, bs + 9 ≤ n → M n = b
section
variable {bs : Int} {M : Int → Bool} {a b : Bool} {r : Reg}
theorem flat_none (f : Flat bs M a b) (c : r.Canon) (hm : ∀ n, r.mem n = M n) (h : (win bs).filter M = []) : r.emp := by
  refine Classical.byContradiction fun ne => ?_
  obtain ⟨n, hn⟩ := some_mem c ne
  rw [hm] at hn
  have all : ∀ k, bs - 22 ≤ k → k ≤ bs + 22 → M k = false := fun k h1 h2 => by
    have := List.filter_eq_nil_iff.mp h k (win_mem.mpr ⟨h1, h2⟩)
    simpa using this
  by_cases h1 : bs - 22 ≤ n
  · by_cases h2 : n ≤ bs + 22
    · rw [all n h1 h2] at hn; cases hn
    · rw [f.hi n (by omega), ← f.hi (bs + 22) (by omega), all _ (by omega) (by omega)] at hn; cases hn
  · rw [f.lo n (by omega), ← f.lo (bs - 22) (by omega), all _ (by omega) (by omega)] at hn; cases hn
theorem flat_some (h : (win bs).filter M ≠ []) : ∃ n, bs - 22 ≤ n ∧ n ≤ bs + 22 ∧ M n = true := by
  cases e : (win bs).filter M with
  | nil => exact absurd e h
  | cons n t =>
    have : n ∈ (win bs).filter M := by rw [e]; exact List.mem_cons_self ..
    have := List.mem_filter.mp this
    exact ⟨n, (win_mem.mp this.1).1, (win_mem.mp this.1).2, this.2⟩
theorem not_emp (hm : ∀ n, r.mem n = M n) (h : (win bs).filter M ≠ []) : ¬ r.emp := fun e => by
  obtain ⟨n, _, _, z⟩ := flat_some h
  rw [← hm, emp_mem e] at z
  cases z
theorem head_min {x : Int} {t : List Int} (e : (win bs).filter M = x :: t) : (bs - 22 ≤ x ∧ x ≤ bs + 22 ∧ M x = true) ∧ ∀ k, bs - 22 ≤ k → k ≤ bs + 22 → M k = true → x ≤ k := by
  have hx : x ∈ (win bs).filter M := by rw [e]; exact List.mem_cons_self ..
  have hx2 := List.mem_filter.mp hx
  refine ⟨⟨(win_mem.mp hx2.1).1, (win_mem.mp hx2.1).2, hx2.2⟩, fun k h1 h2 h3 => ?_⟩
  have hk : k ∈ (win bs).filter M := List.mem_filter.mpr ⟨win_mem.mpr ⟨h1, h2⟩, h3⟩
  have hs : ((win bs).filter M).Pairwise (· < ·) := (win_sorted bs).filter _
  rw [e] at hk hs
  rcases List.mem_cons.mp hk with z | z
  · omega
  · have := (List.pairwise_cons.mp hs).1 k z
    omega
theorem last_max {x : Int} (e : ((win bs).filter M).getLast? = some x) : (bs - 22 ≤ x ∧ x ≤ bs + 22 ∧ M x = true) ∧ ∀ k, bs - 22 ≤ k → k ≤ bs + 22 → M k = true → k ≤ x := by
  have hx : x ∈ (win bs).filter M := List.mem_of_getLast? e
  have hx2 := List.mem_filter.mp hx
  refine ⟨⟨(win_mem.mp hx2.1).1, (win_mem.mp hx2.1).2, hx2.2⟩, fun k h1 h2 h3 => ?_⟩
  have hk : k ∈ (win bs).filter M := List.mem_filter.mpr ⟨win_mem.mpr ⟨h1, h2⟩, h3⟩
  have hs : ((win bs).filter M).Pairwise (· < ·) := (win_sorted bs).filter _
  obtain ⟨ys, hy⟩ := List.getLast?_eq_some_iff.mp e
  rw [hy] at hk hs
  rcases List.mem_append.mp hk with z | z
  · have := (List.pairwise_append.mp hs).2.2 k z x (List.mem_singleton.mpr rfl)
    omega
  · have := List.mem_singleton.mp z
    omega
theorem flat_low (f : Flat bs M a b) (c : r.Canon) (hm : ∀ n, r.mem n = M n) {x : Int} {t : List Int} (e : (win bs).filter M = x :: t) : r.low = if a = true then none else some x := by
  have ne : ¬ r.emp := not_emp hm (by rw [e]; simp)
  obtain ⟨⟨x1, x2, x3⟩, mn⟩ := head_min e
  cases ha : a with
  | true =>
    rw [if_pos rfl]
    cases hl : r.low with
    | none => rfl
    | some l =>
      have : M (min (l - 1) (bs - 9)) = true := by rw [f.lo _ (by omega), ha]
      rw [← hm] at this
      have := (mem_iff.mp this).1 l hl
      omega
  | false =>
    rw [if_neg (by decide)]
    cases hl : r.low with
    | none =>
      obtain ⟨n, h1, h2⟩ := mem_below hl c (bs - 9)
      rw [hm, f.lo n h1, ha] at h2
      cases h2
    | some l =>
      have hml := mem_low c ne hl
      rw [hm] at hml
      have l1 : bs - 9 < l := by
        refine Classical.byContradiction fun z => ?_
        rw [f.lo l (by omega), ha] at hml
        cases hml
      have := (mem_iff.mp ((hm x).trans x3)).1 l hl
      have := mn l (by omega) (by omega) hml
      congr 1
      omega
theorem flat_high (f : Flat bs M a b) (c : r.Canon) (hm : ∀ n, r.mem n = M n) {x : Int} (e : ((win bs).filter M).getLast? = some x) : r.high = if b = true then none else some x := by
  have ne : ¬ r.emp := not_emp hm (by intro z; rw [z] at e; cases e)
  obtain ⟨⟨x1, x2, x3⟩, mn⟩ := last_max e
  cases ha : b with
  | true =>
    rw [if_pos rfl]
    cases hl : r.high with
    | none => rfl
    | some l =>
      have : M (max (l + 1) (bs + 9)) = true := by rw [f.hi _ (by omega), ha]
      rw [← hm] at this
      have := (mem_iff.mp this).2.1 l hl
      omega
  | false =>
    rw [if_neg (by decide)]
    cases hl : r.high with
    | none =>
      obtain ⟨n, h1, h2⟩ := mem_above hl c (bs + 9)
      rw [hm, f.hi n h1, ha] at h2
      cases h2
    | some l =>
      have hml := mem_high c ne hl
      rw [hm] at hml
      have l1 : l < bs + 9 := by
        refine Classical.byContradiction fun z => ?_
        rw [f.hi l (by omega), ha] at hml
        cases hml
      have := (mem_iff.mp ((hm x).trans x3)).2.1 l hl
      have := mn l (by omega) (by omega) hml
      congr 1
      omega
theorem without_iff (c : r.Canon) (k : Int) : k ∈ r.without ↔ r.mem k = false ∧ (∀ l, r.low = some l → l < k) ∧ ∀ h, r.high = some h → k < h := by
  constructor
  · intro hk
    refine ⟨?_, c.inner k hk⟩
    cases hm : r.mem k with
    | false => rfl
    | true => exact absurd hk (mem_iff.mp hm).2.2
  · rintro ⟨h1, h2, h3⟩
    refine Classical.byContradiction fun z => ?_
    have : r.mem k = true := mem_iff.mpr ⟨fun l e => by have := h2 l e; omega, fun h e => by have := h3 h e; omega, z⟩
    rw [h1] at this
    cases this
theorem flat_out (f : Flat bs M a b) (c : r.Canon) (hm : ∀ n, r.mem n = M n) {x y : Int} {t : List Int} (e : (win bs).filter M = x :: t) (e2 : ((win bs).filter M).getLast? = some y) :
    r.without = ((win bs).filter fun n => !M n).filter fun n => decide (x < n) && decide (n < y) := by
  refine sorted_ext c.sorted (((win_sorted bs).filter _).filter _) fun k => ?_
  have hlow := flat_low f c hm e
  have hhigh := flat_high f c hm e2
  obtain ⟨⟨x1, x2, x3⟩, mn⟩ := head_min e
  obtain ⟨⟨y1, y2, y3⟩, mx⟩ := last_max e2
  rw [without_iff c, List.mem_filter, List.mem_filter, hm]
  simp only [Bool.and_eq_true, decide_eq_true_eq, Bool.not_eq_true']
  constructor
  · rintro ⟨h1, h2, h3⟩
    have k1 : x < k := by
      cases ha : a with
      | true =>
        have hx : x = bs - 22 := by have := mn (bs - 22) (by omega) (by omega) (by rw [f.lo _ (by omega), ha]); omega
        refine Classical.byContradiction fun z => ?_
        rw [f.lo k (by omega), ha] at h1
        cases h1
      | false => exact h2 x (by rw [hlow, ha]; rfl)
    have k2 : k < y := by
      cases ha : b with
      | true =>
        have hx : y = bs + 22 := by have := mx (bs + 22) (by omega) (by omega) (by rw [f.hi _ (by omega), ha]); omega
        refine Classical.byContradiction fun z => ?_
        rw [f.hi k (by omega), ha] at h1
        cases h1
      | false => exact h3 y (by rw [hhigh, ha]; rfl)
    exact ⟨⟨win_mem.mpr ⟨by omega, by omega⟩, h1⟩, k1, k2⟩
  · rintro ⟨⟨h0, h1⟩, h2, h3⟩
    refine ⟨h1, fun l hl => ?_, fun h hh => ?_⟩
    · rw [hlow] at hl
      cases a with
      | true => cases hl
      | false => cases hl; exact h2
    · rw [hhigh] at hh
      cases b with
      | true => cases hh
      | false => cases hh; exact h3
end
/-! ### parts near a base -/
structure Pt where
  lo : Option Int
  hi : Option Int
  hs : List Int
def Pt.at (t : Pt) (n : Int) : Bool := inI t.lo t.hi t.hs n
def Pt.Near (bs : Int) (t : Pt) : Prop := (∀ n, t.lo = some n → bs - 6 ≤ n ∧ n ≤ bs + 6) ∧ (∀ n, t.hi = some n → bs - 6 ≤ n ∧ n ≤ bs + 6) ∧ ∀ k ∈ t.hs, bs - 8 ≤ k ∧ k ≤ bs + 8
def allIn (ts : List Pt) (n : Int) : Bool := ts.all fun t => t.at n
theorem pt_lo {bs : Int} {t : Pt} (h : t.Near bs) {n : Int} (hn : n ≤ bs - 9) : t.at n = t.lo.isNone := by
  unfold Pt.at
  cases hl : t.lo with
  | none =>
    rw [Option.isNone_none]
    refine inI_iff.mpr ⟨fun l e => (nomatch e), fun k e => ?_, fun hk => ?_⟩
    · have := h.2.1 k e; omega
    · have := h.2.2 n hk; omega
  | some l =>
    rw [Option.isNone_some]
    cases e : inI (some l) t.hi t.hs n with
    | false => rfl
    | true =>
      have := (inI_iff.mp e).1 l rfl
      have := h.1 l hl
      omega
theorem pt_hi {bs : Int} {t : Pt} (h : t.Near bs) {n : Int} (hn : bs + 9 ≤ n) : t.at n = t.hi.isNone := by
  unfold Pt.at
  cases hl : t.hi with
  | none =>
    rw [Option.isNone_none]
    refine inI_iff.mpr ⟨fun k e => ?_, fun l e => (nomatch e), fun hk => ?_⟩
    · have := h.1 k e; omega
    · have := h.2.2 n hk; omega
  | some l =>
    rw [Option.isNone_some]
    cases e : inI t.lo (some l) t.hs n with
    | false => rfl
    | true =>
      have := (inI_iff.mp e).2.1 l rfl
      have := h.2.1 l hl
      omega
theorem flat_all {bs : Int} : ∀ {ts : List Pt}, (∀ t ∈ ts, t.Near bs) → Flat bs (allIn ts) (ts.all fun t => t.lo.isNone) (ts.all fun t => t.hi.isNone)
  | [], _ => ⟨fun _ _ => rfl, fun _ _ => rfl⟩
  | t :: ts, h => by
    have ih := flat_all (ts := ts) fun u hu => h u (List.mem_cons_of_mem _ hu)
    have ht := h t (List.mem_cons_self ..)
    refine ⟨fun n hn => ?_, fun n hn => ?_⟩
    · have := ih.lo n hn
      unfold allIn at this ⊢
      rw [List.all_cons, List.all_cons, this, pt_lo ht hn]
    · have := ih.hi n hn
      unfold allIn at this ⊢
      rw [List.all_cons, List.all_cons, this, pt_hi ht hn]

/-! ### parts in a wider window -/
def Pt.Wide (bs : Int) (t : Pt) : Prop := (∀ n, t.lo = some n → bs - 20 ≤ n ∧ n ≤ bs + 20) ∧ (∀ n, t.hi = some n → bs - 20 ≤ n ∧ n ≤ bs + 20) ∧ ∀ k ∈ t.hs, bs - 20 ≤ k ∧ k ≤ bs + 20
theorem wide_lo {bs : Int} {t : Pt} (h : t.Wide bs) {n : Int} (hn : n ≤ bs - 21) : t.at n = t.lo.isNone := by
  unfold Pt.at
  cases hl : t.lo with
  | none =>
    rw [Option.isNone_none]
    refine inI_iff.mpr ⟨fun l e => (nomatch e), fun k e => ?_, fun hk => ?_⟩
    · have := h.2.1 k e; omega
    · have := h.2.2 n hk; omega
  | some l =>
    rw [Option.isNone_some]
    cases e : inI (some l) t.hi t.hs n with
    | false => rfl
    | true =>
      have := (inI_iff.mp e).1 l rfl
      have := h.1 l hl
      omega
theorem wide_hi {bs : Int} {t : Pt} (h : t.Wide bs) {n : Int} (hn : bs + 21 ≤ n) : t.at n = t.hi.isNone := by
  unfold Pt.at
  cases hl : t.hi with
  | none =>
    rw [Option.isNone_none]
    refine inI_iff.mpr ⟨fun k e => ?_, fun l e => (nomatch e), fun hk => ?_⟩
    · have := h.1 k e; omega
    · have := h.2.2 n hk; omega
  | some l =>
    rw [Option.isNone_some]
    cases e : inI t.lo (some l) t.hs n with
    | false => rfl
    | true =>
      have := (inI_iff.mp e).2.1 l rfl
      have := h.2.1 l hl
      omega
theorem near_wide {bs : Int} {t : Pt} (h : t.Near bs) : t.Wide bs :=
  ⟨fun n e => by have := h.1 n e; omega, fun n e => by have := h.2.1 n e; omega, fun k hk => by have := h.2.2 k hk; omega⟩
theorem win_sub {bs : Int} {t u : Pt} (ht : t.Wide bs) (hu : u.Wide bs) : ((win bs).filter fun n => t.at n && !u.at n).isEmpty = true ↔ ∀ n, t.at n = true → u.at n = true := by
  rw [List.isEmpty_iff, List.filter_eq_nil_iff]
  constructor
  · intro h n hn
    have key : ∀ m, bs - 22 ≤ m → m ≤ bs + 22 → t.at m = true → u.at m = true := fun m h1 h2 h3 => by
      have := h m (win_mem.mpr ⟨h1, h2⟩)
      rw [h3] at this
      simpa using this
    by_cases h1 : bs - 22 ≤ n
    · by_cases h2 : n ≤ bs + 22
      · exact key n h1 h2 hn
      · rw [wide_hi ht (by omega), ← wide_hi ht (n := bs + 22) (by omega)] at hn
        have := key _ (by omega) (by omega) hn
        rw [wide_hi hu (by omega)] at this ⊢
        exact this
    · rw [wide_lo ht (by omega), ← wide_lo ht (n := bs - 22) (by omega)] at hn
      have := key _ (by omega) (by omega) hn
      rw [wide_lo hu (by omega)] at this ⊢
      exact this
  · intro h n _ z
    rw [Bool.and_eq_true] at z
    rw [h n z.1] at z
    simp at z

/-! ### one part, all within 8 -/
def Pt.Mid (bs : Int) (t : Pt) : Prop := (∀ n, t.lo = some n → bs - 8 ≤ n ∧ n ≤ bs + 8) ∧ (∀ n, t.hi = some n → bs - 8 ≤ n ∧ n ≤ bs + 8) ∧ ∀ k ∈ t.hs, bs - 8 ≤ k ∧ k ≤ bs + 8
theorem near_mid {bs : Int} {t : Pt} (h : t.Near bs) : t.Mid bs :=
  ⟨fun n e => by have := h.1 n e; omega, fun n e => by have := h.2.1 n e; omega, h.2.2⟩
theorem flat_mid {bs : Int} {t : Pt} (h : t.Mid bs) : Flat bs t.at t.lo.isNone t.hi.isNone where
  lo := fun n hn => by
    unfold Pt.at
    cases hl : t.lo with
    | none =>
      rw [Option.isNone_none]
      refine inI_iff.mpr ⟨fun l e => (nomatch e), fun k e => ?_, fun hk => ?_⟩
      · have := h.2.1 k e; omega
      · have := h.2.2 n hk; omega
    | some l =>
      rw [Option.isNone_some]
      cases e : inI (some l) t.hi t.hs n with
      | false => rfl
      | true =>
        have := (inI_iff.mp e).1 l rfl
        have := h.1 l hl
        omega
  hi := fun n hn => by
    unfold Pt.at
    cases hl : t.hi with
    | none =>
      rw [Option.isNone_none]
      refine inI_iff.mpr ⟨fun k e => ?_, fun l e => (nomatch e), fun hk => ?_⟩
      · have := h.1 k e; omega
      · have := h.2.2 n hk; omega
    | some l =>
      rw [Option.isNone_some]
      cases e : inI t.lo (some l) t.hs n with
      | false => rfl
      | true =>
        have := (inI_iff.mp e).2.1 l rfl
        have := h.2.1 l hl
        omega
/-- l, l + 1, .., n of them -/
def row (l : Int) (n : Nat) : List Int := (List.range n).map fun (k : Nat) => l + (k : Int)
theorem row_mem {l k : Int} {n : Nat} : k ∈ row l n ↔ l ≤ k ∧ k < l + n := by
  unfold row
  rw [List.mem_map]
  constructor
  · rintro ⟨j, hj, rfl⟩
    have := List.mem_range.mp hj
    omega
  · rintro ⟨h1, h2⟩
    exact ⟨(k - l).toNat, List.mem_range.mpr (by omega), by omega⟩
theorem row_sorted (l : Int) (n : Nat) : (row l n).Pairwise (· < ·) := by
  unfold row
  rw [List.pairwise_map]
  exact List.Pairwise.imp (fun h => by omega) List.pairwise_lt_range
theorem count_two {α : Type} (p : α → Bool) : ∀ xs : List α, (xs.filter p).length + (xs.filter fun x => !p x).length = xs.length
  | [] => rfl
  | x :: xs => by
    have := count_two p xs
    rw [List.filter_cons, List.filter_cons, List.length_cons]
    cases p x <;> simp <;> omega
/-- the members between two ends are counted -/
theorem size_count {r : Reg} (c : r.Canon) (ne : ¬ r.emp) {l h : Int} (hl : r.low = some l) (hh : r.high = some h) {ms : List Int} (hs : ms.Pairwise (· < ·)) (hm : ∀ k, k ∈ ms ↔ r.mem k = true) : r.size = some (ms.length : Int) := by
  have lh : l ≤ h := by
    rcases c.ends with e | ⟨_, _, e3⟩
    · exact absurd e ne
    · exact e3 l h hl hh
  have e1 : (row l (h - l + 1).toNat).filter r.mem = ms := by
    refine sorted_ext ((row_sorted _ _).filter _) hs fun k => ?_
    rw [List.mem_filter, hm, row_mem]
    constructor
    · exact fun z => z.2
    · intro z
      have := (mem_iff.mp z).1 l hl
      have := (mem_iff.mp z).2.1 h hh
      exact ⟨⟨by omega, by omega⟩, z⟩
  have e2 : ((row l (h - l + 1).toNat).filter fun k => !r.mem k) = r.without := by
    refine sorted_ext ((row_sorted _ _).filter _) c.sorted fun k => ?_
    rw [List.mem_filter, without_iff c, row_mem]
    simp only [Bool.not_eq_true']
    constructor
    · rintro ⟨⟨h1, h2⟩, h3⟩
      refine ⟨h3, fun x e => ?_, fun x e => ?_⟩
      · rw [hl] at e; cases e
        have := mem_low c ne hl
        by_cases z : k = l
        · rw [z, this] at h3; cases h3
        · omega
      · rw [hh] at e; cases e
        have := mem_high c ne hh
        by_cases z : k = h
        · rw [z, this] at h3; cases h3
        · omega
    · rintro ⟨h1, h2, h3⟩
      have := h2 l hl
      have := h3 h hh
      exact ⟨⟨by omega, by omega⟩, h1⟩
  have := count_two r.mem (row l (h - l + 1).toNat)
  rw [e1, e2] at this
  have el : (row l (h - l + 1).toNat).length = (h - l + 1).toNat := by unfold row; simp
  rw [el] at this
  have hn : ((h - l + 1).toNat : Int) = h - l + 1 := Int.toNat_of_nonneg (by omega)
  have ht : (ms.length : Int) + (r.without.length : Int) = h - l + 1 := by rw [← hn, ← this, Int.natCast_add]
  rw [c.size, hl, hh]
  show some (h - l + 1 - (r.without.length : Int)) = some (ms.length : Int)
  rw [← ht]
  congr 1
  generalize (ms.length : Int) = x
  generalize (r.without.length : Int) = y
  omega

/-- the region of all integers -/
theorem all_form {r : Reg} (c : r.Canon) (h : ∀ n, r.mem n = true) : r = ⟨none, none, [], none, none⟩ := by
  refine canon_ext c ⟨.inr ⟨fun l e => (nomatch e), fun l e => (nomatch e), fun l h e => (nomatch e)⟩, fun k hk => (nomatch hk), .nil, rfl, rfl⟩ fun n => ?_
  rw [h]
  rfl
end Rg

set_option Elab.async false
set_option linter.all false
set_option maxRecDepth 100000
set_option maxHeartbeats 4000000
/-! Dx: a calculus of data over the readings: no heap in sight. -/
namespace Dx
open PySem PySem.Spec PyProof.Rows L2 Sw
open Classical

/-! ### what is seen of a heap -/
noncomputable def vis (U : Addr → Prop) (H : Hp) : Hp := fun a => if U a then none else H a
theorem vis_of {U : Addr → Prop} {H : Hp} {a : Addr} {o : HO} (h : vis U H a = some o) : H a = some o ∧ ¬ U a := by
  unfold vis at h
  by_cases u : U a
  · rw [if_pos u] at h; cases h
  · rw [if_neg u] at h; exact ⟨h, u⟩
theorem vis_at {U : Addr → Prop} {H : Hp} {a : Addr} {o : HO} (h : H a = some o) (u : ¬ U a) : vis U H a = some o := by
  unfold vis; rw [if_neg u]; exact h
theorem vis_le {U : Addr → Prop} {H : Hp} : Same (vis U H) H := fun a o e => (vis_of e).1
theorem vis_less {U V : Addr → Prop} {H : Hp} (h : ∀ a, V a → U a) : Same (vis U H) (vis V H) := fun a o e => vis_at (vis_of e).1 fun v => (vis_of e).2 (h a v)
theorem vis_new {U : Addr → Prop} {H : Hp} {p : Addr} {o : HO} (hp : H p = none) : Same (vis U H) (vis U (upd H p o)) := fun a u e => by
  obtain ⟨h1, h2⟩ := vis_of e
  exact vis_at (by rw [upd_ne (ne_of_none h1 hp)]; exact h1) h2

/-! ### what a value stands for -/
structure Rp where
  is : Hp → V → Prop
  mono : ∀ {G G' : Hp} {v : V}, Same G G' → is G v → is G' v
abbrev Reps (G : Hp) : List V → List Rp → Prop := Paired fun v (r : Rp) => r.is G v
theorem Reps.mono {G G' : Hp} {vs : List V} {rs : List Rp} (s : Same G G') (h : Reps G vs rs) : Reps G' vs rs := Paired.mono (fun v r e => r.mono s e) h
def rV (v : V) : Rp := ⟨fun _ x => x = v, fun _ h => h⟩
abbrev rNon : Rp := rV .non
abbrev rBl (b : Bool) : Rp := rV (.bl b)
abbrev rInt (n : Int) : Rp := rV (.int n)
abbrev rStr (z : Str) : Rp := rV (.str z)
abbrev rO (o : Option Int) : Rp := rV (oV o)
def rLst (K : PySem.W.Frag) (rs : List Rp) : Rp := ⟨fun G v => ∃ a xs, v = .ref a ∧ SqL K G a xs ∧ Reps G xs rs, fun s ⟨a, xs, e, q, r⟩ => ⟨a, xs, e, sqL_to q (s a), r.mono s⟩⟩
def rTup (K : PySem.W.Frag) (rs : List Rp) : Rp := ⟨fun G v => ∃ a xs, v = .ref a ∧ SqT K G a xs ∧ Reps G xs rs, fun s ⟨a, xs, e, q, r⟩ => ⟨a, xs, e, sqT_to q (s a), r.mono s⟩⟩
abbrev Flds (G : Hp) : List (Str × V) → List (Str × Rp) → Prop := Paired fun g (h : Str × Rp) => g.1 = h.1 ∧ h.2.is G g.2
theorem Flds.mono {G G' : Hp} {vs : List (Str × V)} {rs : List (Str × Rp)} (s : Same G G') (h : Flds G vs rs) : Flds G' vs rs := Paired.mono (fun v r e => ⟨e.1, r.2.mono s e.2⟩) h
def rObj (C : Addr) (fs : List (Str × Rp)) : Rp := ⟨fun G v => ∃ a dx gs, v = .ref a ∧ G a = some (.ins C dx gs) ∧ Flds G gs fs, fun s ⟨a, dx, gs, e, q, r⟩ => ⟨a, dx, gs, e, s _ _ q, Flds.mono s r⟩⟩
theorem Flds.look {G : Hp} {f : Str} {r : Rp} : ∀ {gs : List (Str × V)} {fs : List (Str × Rp)}, Flds G gs fs → fs.lookup f = some r → ∃ v, gs.lookup f = some v ∧ r.is G v
  | _, _, .nil, e => by cases e
  | (n, v) :: _, (m, q) :: _, .cons h t, e => by
    obtain ⟨h1, h2⟩ := h
    simp only at h1 h2
    subst h1
    rw [List.lookup_cons] at e ⊢
    cases z : f == n with
    | true => rw [z] at e; simp only at e ⊢; cases e; exact ⟨v, rfl, h2⟩
    | false => rw [z] at e; simp only at e ⊢; exact Flds.look t e
theorem Flds.lookN {G : Hp} {f : Str} : ∀ {gs : List (Str × V)} {fs : List (Str × Rp)}, Flds G gs fs → fs.lookup f = none → gs.lookup f = none
  | _, _, .nil, e => rfl
  | (n, v) :: _, (m, q) :: _, .cons h t, e => by
    obtain ⟨h1, h2⟩ := h
    simp only at h1
    subst h1
    rw [List.lookup_cons] at e ⊢
    cases z : f == n with
    | true => rw [z] at e; cases e
    | false => rw [z] at e; simp only at e ⊢; exact Flds.lookN t e
/-- what an object that a frame alone holds contains -/
structure Orp where
  is : Hp → Addr → HO → Prop
  mono : ∀ {G G' : Hp} {p : Addr} {o : HO}, Same G G' → is G p o → is G' p o
def oL (rs : List Rp) : Orp := ⟨fun G _ o => ∃ xs, o = .lst xs ∧ Reps G xs rs, fun s ⟨xs, e, r⟩ => ⟨xs, e, r.mono s⟩⟩
def oI (C x : Addr) (fs : List (Str × Rp)) : Orp := ⟨fun G p o => p = x ∧ ∃ dx gs, o = .ins C dx gs ∧ Flds G gs fs, fun s ⟨ex, dx, gs, e, r⟩ => ⟨ex, dx, gs, e, Flds.mono s r⟩⟩
inductive Ent where
  | no
  | sh (r : Rp)
  | ow (c : Orp)

/-! ### the world: cells that are no data -/
structure Wd where
  S : Addr → Prop
  J : Int → Hp → Prop
  loc : ∀ {b : Int} {H H' : Hp}, (∀ a, S a → H' a = H a) → J b H → J b H'
  dom : ∀ {b : Int} {H : Hp}, J b H → ∀ a, S a → H a ≠ none
/-- an expression's outset -/
structure GoodE (W : Wd) (U : Addr → Prop) (σ : L2.St) (H : Hp) (ρ : List Ent) (b : Int) : Prop where
  j : W.J b H
  su : ∀ a, W.S a → U a
  du : ∀ a, U a → H a ≠ none
  len : σ.length = ρ.length
  sh : ∀ (i : Nat) (r : Rp), ρ[i]? = some (Ent.sh r) → ∃ v, σ[i]? = some (some v) ∧ r.is (vis U H) v
  ow : ∀ (i : Nat) (c : Orp), ρ[i]? = some (Ent.ow c) → ∃ p o, σ[i]? = some (some (V.ref p)) ∧ U p ∧ ¬ W.S p ∧ H p = some o ∧ c.is (vis U H) p o
/-- .. and what an expression may do -/
structure Stp (W : Wd) (U : Addr → Prop) (H H' : Hp) : Prop where
  same : Same (vis U H) (vis U H')
  keep : ∀ a, U a → ¬ W.S a → H' a = H a
theorem Stp.refl {W : Wd} {U : Addr → Prop} {H : Hp} : Stp W U H H := ⟨fun _ _ e => e, fun _ _ _ => rfl⟩
theorem Stp.trans {W : Wd} {U : Addr → Prop} {H H1 H2 : Hp} (x : Stp W U H H1) (y : Stp W U H1 H2) : Stp W U H H2 := ⟨x.same.trans y.same, fun a u n => (y.keep a u n).trans (x.keep a u n)⟩
theorem GoodE.step {W : Wd} {U : Addr → Prop} {σ : L2.St} {H H' : Hp} {ρ : List Ent} {b b' : Int} (g : GoodE W U σ H ρ b) (s : Stp W U H H') (j : W.J b' H') : GoodE W U σ H' ρ b' where
  j := j
  su := g.su
  du := fun a u z => by
    by_cases h : W.S a
    · exact W.dom j a h z
    · exact g.du a u ((s.keep a u h).symm.trans z)
  len := g.len
  sh := fun i r e => let ⟨v, h1, h2⟩ := g.sh i r e; ⟨v, h1, r.mono s.same h2⟩
  ow := fun i c e => let ⟨p, o, h1, h2, h3, h4, h5⟩ := g.ow i c e; ⟨p, o, h1, h2, h3, (s.keep p h2 h3).trans h4, c.mono s.same h5⟩
theorem GoodE.new {W : Wd} {U : Addr → Prop} {σ : L2.St} {H : Hp} {ρ : List Ent} {b : Int} {p : Addr} {o : HO} (g : GoodE W U σ H ρ b) (hp : H p = none) : ¬ U p ∧ Stp W U H (upd H p o) ∧ GoodE W U σ (upd H p o) ρ b := by
  have nu : ¬ U p := fun u => g.du p u hp
  have s : Stp W U H (upd H p o) := ⟨vis_new hp, fun a u _ => upd_ne (fun e => nu (e ▸ u))⟩
  exact ⟨nu, s, g.step s (W.loc (fun a h => upd_ne (fun e => nu (e ▸ g.su a h))) g.j)⟩

/-! ### expressions -/
def Ev (W : Wd) (te : TE) (ρ : List Ent) (b : Int) (post : Rp → Int → Prop) : Prop := ∀ U σ H Q, GoodE W U σ H ρ b →
  (∀ v H' r b', GoodE W U σ H' ρ b' → Stp W U H H' → post r b' → r.is (vis U H') v → Q v H') → te σ H Q
def EvA (W : Wd) (ta : TA) (ρ : List Ent) (b : Int) (post : List Rp → Int → Prop) : Prop := ∀ U σ H Q, GoodE W U σ H ρ b →
  (∀ vs H' rs b', GoodE W U σ H' ρ b' → Stp W U H H' → post rs b' → Reps (vis U H') vs rs → Q vs H') → ta σ H Q
def Et (W : Wd) (tt : TT) (ρ : List Ent) (b : Int) (post : Bool → Int → Prop) : Prop := ∀ U σ H Q, GoodE W U σ H ρ b →
  (∀ k H' b', GoodE W U σ H' ρ b' → Stp W U H H' → post k b' → Q k H') → tt σ H Q
/-- by values that stand: two, a list -/
def Op2 (W : Wd) (r : R2) (x y : Rp) (b : Int) (post : Rp → Int → Prop) : Prop := ∀ U σ H ρ Q u v, GoodE W U σ H ρ b → x.is (vis U H) u → y.is (vis U H) v →
  (∀ v H' r b', GoodE W U σ H' ρ b' → Stp W U H H' → post r b' → r.is (vis U H') v → Q v H') → r u v H Q
def Op1 (W : Wd) (r : V → Hp → VK → Prop) (x : Rp) (b : Int) (post : Rp → Int → Prop) : Prop := ∀ U σ H ρ Q u, GoodE W U σ H ρ b → x.is (vis U H) u →
  (∀ v H' r b', GoodE W U σ H' ρ b' → Stp W U H H' → post r b' → r.is (vis U H') v → Q v H') → r u H Q
def OpN (W : Wd) (r : List V → Hp → VK → Prop) (xs : List Rp) (b : Int) (post : Rp → Int → Prop) : Prop := ∀ U σ H ρ Q us, GoodE W U σ H ρ b → Reps (vis U H) us xs →
  (∀ v H' r b', GoodE W U σ H' ρ b' → Stp W U H H' → post r b' → r.is (vis U H') v → Q v H') → r us H Q
section
variable {W : Wd} {ρ : List Ent} {b : Int} {post : Rp → Int → Prop} {te ta tb : TE} {ts : TA} {tt ut : TT} {i : Nat} {v : V} {r : Rp} {rs : List Rp}
theorem e_var (e : ρ[i]? = some (.sh r)) (h : post r b) : Ev W (tVar i) ρ b post := fun U σ H Q g k => by
  obtain ⟨v, h1, h2⟩ := g.sh i r e
  exact ⟨v, h1, k v H r b g .refl h h2⟩
theorem e_c (h : post (rV v) b) : Ev W (tC v) ρ b post := fun U σ H Q g k => k v H _ b g .refl h rfl
theorem e_op {o : R2} (h : Ev W ta ρ b fun x b1 => Ev W tb ρ b1 fun y b2 => Op2 W o x y b2 post) : Ev W (tOp o ta tb) ρ b post := fun U σ H Q g k =>
  h U σ H _ g fun u H1 x b1 g1 s1 h1 r1 => h1 U σ H1 _ g1 fun v H2 y b2 g2 s2 h2 r2 => h2 U σ H2 ρ Q u v g2 (x.mono s2.same r1) r2 fun z H3 r b3 g3 s3 q3 r3 => k z H3 r b3 g3 ((s1.trans s2).trans s3) q3 r3
theorem e_un {o : V → Hp → VK → Prop} (h : Ev W ta ρ b fun x b1 => Op1 W o x b1 post) : Ev W (tUn o ta) ρ b post := fun U σ H Q g k =>
  h U σ H _ g fun u H1 x b1 g1 s1 h1 r1 => h1 U σ H1 ρ Q u g1 r1 fun z H3 r b3 g3 s3 q3 r3 => k z H3 r b3 g3 (s1.trans s3) q3 r3
theorem e_nil {post : List Rp → Int → Prop} (h : post [] b) : EvA W tNil ρ b post := fun U σ H Q g k => k [] H [] b g .refl h .nil
theorem e_cons {post : List Rp → Int → Prop} (h : Ev W ta ρ b fun x b1 => EvA W ts ρ b1 fun xs b2 => post (x :: xs) b2) : EvA W (tCons ta ts) ρ b post := fun U σ H Q g k =>
  h U σ H _ g fun u H1 x b1 g1 s1 h1 r1 => h1 U σ H1 _ g1 fun vs H2 rs b2 g2 s2 h2 r2 => k (u :: vs) H2 (x :: rs) b2 g2 (s1.trans s2) h2 (.cons (x.mono s2.same r1) r2)
theorem e_CB {o : List V → Hp → VK → Prop} (h : EvA W ts ρ b fun xs b1 => OpN W o xs b1 post) : Ev W (tCB o ts) ρ b post := fun U σ H Q g k =>
  h U σ H _ g fun vs H1 rs b1 g1 s1 h1 r1 => h1 U σ H1 ρ Q vs g1 r1 fun z H3 r b3 g3 s3 q3 r3 => k z H3 r b3 g3 (s1.trans s3) q3 r3
/-! displays -/
theorem e_lst (K : PySem.W.Frag) (h : EvA W ts ρ b fun xs b1 => xs.length ≤ 100000 ∧ post (rLst K xs) b1) : Ev W (tLst ts) ρ b post := fun U σ H Q g k =>
  h U σ H _ g fun vs H1 rs b1 g1 s1 h1 r1 => ⟨by rw [Paired.length r1]; exact Nat.le_trans h1.1 (by decide), fun p hp => by
    obtain ⟨nu, s2, g2⟩ := g1.new (o := .lst vs) hp
    exact k (.ref p) _ _ b1 g2 (s1.trans s2) h1.2 ⟨p, vs, rfl, SqL.of (vis_at upd_same nu), r1.mono s2.same⟩⟩
theorem e_tup (K : PySem.W.Frag) (h : EvA W ts ρ b fun xs b1 => xs.length ≤ 100000 ∧ post (rTup K xs) b1) : Ev W (tTup ts) ρ b post := fun U σ H Q g k =>
  h U σ H _ g fun vs H1 rs b1 g1 s1 h1 r1 => ⟨by rw [Paired.length r1]; exact Nat.le_trans h1.1 (by decide), fun p hp => by
    obtain ⟨nu, s2, g2⟩ := g1.new (o := .tup vs) hp
    exact k (.ref p) _ _ b1 g2 (s1.trans s2) h1.2 ⟨p, vs, rfl, SqT.of (vis_at upd_same nu), r1.mono s2.same⟩⟩
/-! tests -/
theorem e_test {post : Bool → Int → Prop} (h : Ev W te ρ b fun x b1 => ∃ k, x = rBl k ∧ post k b1) : Et W (tTest te) ρ b post := fun U σ H Q g k =>
  h U σ H _ g fun v H1 r b1 g1 s1 h1 r1 => by
    obtain ⟨c, rfl, h1⟩ := h1
    exact ⟨c, r1, k c H1 b1 g1 s1 h1⟩
theorem e_B {post : Bool → Int → Prop} (h : Ev W te ρ b fun x b1 => ∃ k, x = rBl k ∧ post k b1) : Et W (tB te) ρ b post := e_test h
theorem e_bl {c : Bool} {p : Bool → Prop} (h : p c) : ∃ k, rV (.bl c) = rBl k ∧ p k := ⟨c, rfl, h⟩
theorem e_and {post : Bool → Int → Prop} (h : Et W tt ρ b fun c b1 => if c = true then Et W ut ρ b1 post else post false b1) : Et W (tAnd tt ut) ρ b post := fun U σ H Q g k =>
  h U σ H _ g fun c H1 b1 g1 s1 h1 => by
    cases c
    · exact k false H1 b1 g1 s1 h1
    · exact h1 U σ H1 _ g1 fun c H2 b2 g2 s2 h2 => k c H2 b2 g2 (s1.trans s2) h2
theorem e_or {post : Bool → Int → Prop} (h : Et W tt ρ b fun c b1 => if c = true then post true b1 else Et W ut ρ b1 post) : Et W (tOr tt ut) ρ b post := fun U σ H Q g k =>
  h U σ H _ g fun c H1 b1 g1 s1 h1 => by
    cases c
    · exact h1 U σ H1 _ g1 fun c H2 b2 g2 s2 h2 => k c H2 b2 g2 (s1.trans s2) h2
    · exact k true H1 b1 g1 s1 h1
theorem e_not {post : Bool → Int → Prop} (h : Et W tt ρ b fun c b1 => post (!c) b1) : Et W (tNot tt) ρ b post := fun U σ H Q g k =>
  h U σ H _ g fun c H1 b1 g1 s1 h1 => k (!c) H1 b1 g1 s1 h1
theorem e_ifE (h : Et W tt ρ b fun c b1 => if c = true then Ev W ta ρ b1 post else Ev W tb ρ b1 post) : Ev W (tIf tt ta tb) ρ b post := fun U σ H Q g k =>
  h U σ H _ g fun c H1 b1 g1 s1 h1 => by
    cases c
    · exact h1 U σ H1 _ g1 fun v H2 r b2 g2 s2 h2 r2 => k v H2 r b2 g2 (s1.trans s2) h2 r2
    · exact h1 U σ H1 _ g1 fun v H2 r b2 g2 s2 h2 r2 => k v H2 r b2 g2 (s1.trans s2) h2 r2
theorem e_andV (h : Ev W ta ρ b fun x b1 => ∃ c, x = rBl c ∧ if c = true then Ev W tb ρ b1 post else post (rBl false) b1) : Ev W (tAndV ta tb) ρ b post := fun U σ H Q g k =>
  h U σ H _ g fun v H1 r b1 g1 s1 h1 r1 => by
    obtain ⟨c, rfl, h1⟩ := h1
    refine ⟨c, r1, ?_⟩
    cases c
    · exact k (.bl false) H1 _ b1 g1 s1 h1 rfl
    · exact h1 U σ H1 _ g1 fun v H2 r b2 g2 s2 h2 r2 => k v H2 r b2 g2 (s1.trans s2) h2 r2
theorem e_orV (h : Ev W ta ρ b fun x b1 => ∃ c, x = rBl c ∧ if c = true then post (rBl true) b1 else Ev W tb ρ b1 post) : Ev W (tOrV ta tb) ρ b post := fun U σ H Q g k =>
  h U σ H _ g fun v H1 r b1 g1 s1 h1 r1 => by
    obtain ⟨c, rfl, h1⟩ := h1
    refine ⟨c, r1, ?_⟩
    cases c
    · exact h1 U σ H1 _ g1 fun v H2 r b2 g2 s2 h2 r2 => k v H2 r b2 g2 (s1.trans s2) h2 r2
    · exact k (.bl true) H1 _ b1 g1 s1 h1 rfl
theorem e_notV (h : Ev W ta ρ b fun x b1 => ∃ c, x = rBl c ∧ post (rBl (!c)) b1) : Ev W (tNotV ta) ρ b post := fun U σ H Q g k =>
  h U σ H _ g fun v H1 r b1 g1 s1 h1 r1 => by
    obtain ⟨c, rfl, h1⟩ := h1
    exact ⟨c, r1, k (.bl (!c)) H1 _ b1 g1 s1 h1 rfl⟩
end

/-! ### frames -/
def owns (ρ : List Ent) (i : Nat) : Prop := ∃ c, ρ[i]? = some (Ent.ow c)
def UU (U0 : Addr → Prop) (f : Nat → Addr) (ρ : List Ent) : Addr → Prop := fun a => U0 a ∨ ∃ i, owns ρ i ∧ f i = a
structure Good (W : Wd) (U0 : Addr → Prop) (H0 : Hp) (f : Nat → Addr) (σ : L2.St) (H : Hp) (ρ : List Ent) (b : Int) : Prop where
  e : GoodE W (UU U0 f ρ) σ H ρ b
  s0 : ∀ a, W.S a → U0 a
  d0 : ∀ a, U0 a → H0 a ≠ none
  st : Stp W U0 H0 H
  fr : ∀ i, owns ρ i → H0 (f i) = none
  pl : ∀ i, owns ρ i → σ[i]? = some (some (V.ref (f i)))
  inj : ∀ i j, owns ρ i → owns ρ j → f i = f j → i = j
structure Ks where
  nx : List Ent → Int → Prop
  rt : Rp → Int → Prop
  bk : List Ent → Int → Prop := fun _ _ => False
  ct : List Ent → Int → Prop := fun _ _ => False
  wx : WX := fun _ _ _ _ => True
  px : List Ent → Int → Addr → List (Str × Rp) → Prop := fun _ _ _ _ => False
/-- what is wanted of an error that is thrown -/
def XOk (W : Wd) (U0 : Addr → Prop) (H0 G : Hp) (wx : WX) (px : List Ent → Int → Addr → List (Str × Rp) → Prop) : Prop := ∀ f σ H ρ b C d gs fs, Good W U0 H0 f σ H ρ b → Same G (vis (UU U0 f ρ) H) →
  H d = some (.xd gs) → ¬ UU U0 f ρ d → Flds (vis (UU U0 f ρ) H) gs fs → px ρ b C fs → wx (.ref C) (some d) σ H
structure EndD (W : Wd) (U0 : Addr → Prop) (H0 G : Hp) (D : Ends) (k : Ks) : Prop where
  nx : ∀ f σ H ρ b, Good W U0 H0 f σ H ρ b → Same G (vis (UU U0 f ρ) H) → k.nx ρ b → D.nx σ H
  rt : ∀ v H r b, Stp W U0 H0 H → W.J b H → k.rt r b → r.is (vis U0 H) v → D.rt v H
  bk : ∀ f σ H ρ b, Good W U0 H0 f σ H ρ b → Same G (vis (UU U0 f ρ) H) → k.bk ρ b → D.bk σ H
  ct : ∀ f σ H ρ b, Good W U0 H0 f σ H ρ b → Same G (vis (UU U0 f ρ) H) → k.ct ρ b → D.ct σ H
  ex : XOk W U0 H0 G k.wx k.px
theorem EndD.from {W : Wd} {U0 : Addr → Prop} {H0 G G' : Hp} {D : Ends} {k : Ks} (h : EndD W U0 H0 G D k) (s : Same G G') : EndD W U0 H0 G' D k :=
  ⟨fun f σ H ρ b g z => h.nx f σ H ρ b g (s.trans z), h.rt, fun f σ H ρ b g z => h.bk f σ H ρ b g (s.trans z), fun f σ H ρ b g z => h.ct f σ H ρ b g (s.trans z), fun f σ H ρ b C d gs fs g z => h.ex f σ H ρ b C d gs fs g (s.trans z)⟩
def Es (W : Wd) (t : TS) (ρ : List Ent) (b : Int) (k : Ks) : Prop := ∀ U0 H0 f σ H D, Good W U0 H0 f σ H ρ b → EndD W U0 H0 (vis (UU U0 f ρ) H) D k → t D σ H
section
variable {W : Wd} {U0 : Addr → Prop} {H0 H H' : Hp} {f : Nat → Addr} {σ : L2.St} {ρ : List Ent} {b b' : Int}
theorem uu0 {a : Addr} (h : U0 a) : UU U0 f ρ a := .inl h
theorem vis_uu : Same (vis (UU U0 f ρ) H) (vis U0 H) := vis_less fun _ h => .inl h
theorem Good.step (g : Good W U0 H0 f σ H ρ b) (s : Stp W (UU U0 f ρ) H H') (j : W.J b' H') : Good W U0 H0 f σ H' ρ b' where
  e := g.e.step s j
  s0 := g.s0
  d0 := g.d0
  st := by
    refine ⟨fun a o h => ?_, fun a u n => (s.keep a (.inl u) n).trans (g.st.keep a u n)⟩
    have h1 := g.st.same a o h
    have nU : ¬ UU U0 f ρ a := by
      rintro (z | ⟨i, hi, rfl⟩)
      · exact (vis_of h).2 z
      · have := g.fr i hi; rw [(vis_of h).1] at this; cases this
    have := s.same a o (vis_at (vis_of h1).1 nU)
    exact vis_at (vis_of this).1 (vis_of h).2
  fr := g.fr
  pl := g.pl
  inj := g.inj
theorem owns_set {i j : Nat} {r : Rp} (h : owns (ρ.set i (.sh r)) j) : owns ρ j ∧ j ≠ i := by
  obtain ⟨c, h⟩ := h
  by_cases e : i = j
  · subst e
    rw [List.getElem?_set_self'] at h
    cases z : ρ[i]? <;> rw [z] at h <;> simp at h
  · rw [List.getElem?_set_ne e] at h
    exact ⟨⟨c, h⟩, fun z => e z.symm⟩
theorem owns_no {i j : Nat} (h : owns (ρ.set i .no) j) : owns ρ j ∧ j ≠ i := by
  obtain ⟨c, h⟩ := h
  by_cases e : i = j
  · subst e
    rw [List.getElem?_set_self'] at h
    cases z : ρ[i]? <;> rw [z] at h <;> simp at h
  · rw [List.getElem?_set_ne e] at h
    exact ⟨⟨c, h⟩, fun z => e z.symm⟩
theorem GoodE.set {U : Addr → Prop} {i : Nat} {v : V} {r : Rp} (g : GoodE W U σ H ρ b) (h : r.is (vis U H) v) : GoodE W U (σ.set i (some v)) H (ρ.set i (.sh r)) b where
  j := g.j
  su := g.su
  du := g.du
  len := by rw [List.length_set, List.length_set]; exact g.len
  sh := fun j q e => by
    by_cases z : i = j
    · subst z
      rw [List.getElem?_set_self'] at e
      cases y : ρ[i]? with
      | none => rw [y] at e; cases e
      | some _ =>
        rw [y] at e
        have e2 : r = q := by simpa using e
        subst e2
        have hl : i < σ.length := by rw [g.len]; exact (List.getElem?_eq_some_iff.mp y).1
        exact ⟨v, by rw [List.getElem?_set_self hl], h⟩
    · rw [List.getElem?_set_ne z] at e
      obtain ⟨u, h1, h2⟩ := g.sh j q e
      exact ⟨u, by rw [List.getElem?_set_ne z]; exact h1, h2⟩
  ow := fun j c e => by
    obtain ⟨_, z⟩ := owns_set ⟨c, e⟩
    rw [List.getElem?_set_ne (fun y => z y.symm)] at e
    obtain ⟨p, o, h1, h2⟩ := g.ow j c e
    exact ⟨p, o, by rw [List.getElem?_set_ne (fun y => z y.symm)]; exact h1, h2⟩
theorem GoodE.less {U V : Addr → Prop} (g : GoodE W U σ H ρ b) (h : ∀ a, V a → U a) (hs : ∀ a, W.S a → V a) (hp : ∀ (i : Nat) (c : Orp) (p : Addr), ρ[i]? = some (Ent.ow c) → σ[i]? = some (some (L2.V.ref p)) → V p) : GoodE W V σ H ρ b where
  j := g.j
  su := hs
  du := fun a z => g.du a (h a z)
  len := g.len
  sh := fun i r e => let ⟨v, h1, h2⟩ := g.sh i r e; ⟨v, h1, r.mono (vis_less h) h2⟩
  ow := fun i c e => let ⟨p, o, h1, h2, h3, h4, h5⟩ := g.ow i c e; ⟨p, o, h1, hp i c p e h1, h3, h4, c.mono (vis_less h) h5⟩
theorem Good.set {i : Nat} {v : V} {r : Rp} (g : Good W U0 H0 f σ H ρ b) (h : r.is (vis (UU U0 f ρ) H) v) : Good W U0 H0 f (σ.set i (some v)) H (ρ.set i (.sh r)) b ∧ Same (vis (UU U0 f ρ) H) (vis (UU U0 f (ρ.set i (.sh r))) H) := by
  have le : ∀ a, UU U0 f (ρ.set i (.sh r)) a → UU U0 f ρ a := fun a z => z.imp id fun ⟨j, h1, h2⟩ => ⟨j, (owns_set h1).1, h2⟩
  refine ⟨⟨(g.e.set (i := i) h).less le (fun a z => .inl (g.s0 a z)) (fun j c p e1 e2 => ?_), g.s0, g.d0, g.st, fun j hj => g.fr j (owns_set hj).1, fun j hj => ?_, fun j k hj hk => g.inj j k (owns_set hj).1 (owns_set hk).1⟩, vis_less le⟩
  · obtain ⟨h1, h2⟩ := owns_set ⟨c, e1⟩
    rw [List.getElem?_set_ne (fun y => h2 y.symm), g.pl j h1] at e2
    cases e2
    exact .inr ⟨j, ⟨c, e1⟩, rfl⟩
  · obtain ⟨h1, h2⟩ := owns_set hj
    rw [List.getElem?_set_ne (fun y => h2 y.symm)]
    exact g.pl j h1
/-- what is owned is given free -/
theorem Good.free {i : Nat} {c : Orp} {r : Rp} (g : Good W U0 H0 f σ H ρ b) (e : ρ[i]? = some (.ow c)) (hc : ∀ G p o, c.is G p o → G p = some o → r.is G (.ref p)) :
    Good W U0 H0 f σ H (ρ.set i (.sh r)) b ∧ Same (vis (UU U0 f ρ) H) (vis (UU U0 f (ρ.set i (.sh r))) H) := by
  have le : ∀ a, UU U0 f (ρ.set i (.sh r)) a → UU U0 f ρ a := fun a z => z.imp id fun ⟨j, h1, h2⟩ => ⟨j, (owns_set h1).1, h2⟩
  have hp := g.pl i ⟨c, e⟩
  obtain ⟨p, o, h1, h2, h3, h4, h5⟩ := g.e.ow i c e
  rw [hp] at h1
  cases h1
  have nv : ¬ UU U0 f (ρ.set i (.sh r)) (f i) := by
    rintro (z | ⟨j, hj, ej⟩)
    · exact g.d0 _ z (g.fr i ⟨c, e⟩)
    · obtain ⟨y1, y2⟩ := owns_set hj
      exact y2 (g.inj j i y1 ⟨c, e⟩ ej)
  have hr : r.is (vis (UU U0 f (ρ.set i (.sh r))) H) (.ref (f i)) := hc _ _ _ (c.mono (vis_less le) h5) (vis_at h4 nv)
  have es : σ.set i (some (.ref (f i))) = σ := by
    refine List.ext_getElem? fun j => ?_
    by_cases z : i = j
    · subst z
      have hl := (List.getElem?_eq_some_iff.mp hp).1
      rw [List.getElem?_set_self hl, hp]
    · rw [List.getElem?_set_ne z]
  have g1 : GoodE W (UU U0 f (ρ.set i (.sh r))) σ H (ρ.set i .no) b := by
    have ln : ∀ j, owns (ρ.set i .no) j → owns ρ j ∧ j ≠ i := fun j => owns_no
    refine ⟨g.e.j, fun a z => .inl (g.s0 a z), fun a z => g.e.du a (le a z), by rw [List.length_set]; exact g.e.len, fun j q y => ?_, fun j q y => ?_⟩
    · by_cases z : i = j
      · subst z
        rw [List.getElem?_set_self'] at y
        cases w : ρ[i]? <;> rw [w] at y <;> simp at y
      · rw [List.getElem?_set_ne z] at y
        obtain ⟨v, y1, y2⟩ := g.e.sh j q y
        exact ⟨v, y1, q.mono (vis_less le) y2⟩
    · obtain ⟨y1, y2⟩ := ln j ⟨q, y⟩
      rw [List.getElem?_set_ne (fun w => y2 w.symm)] at y
      obtain ⟨p, o, z1, z2, z3, z4, z5⟩ := g.e.ow j q y
      have := g.pl j y1
      rw [z1] at this
      cases this
      exact ⟨_, o, z1, .inr ⟨j, ⟨q, by rw [List.getElem?_set_ne (fun w => y2 w.symm)]; exact y⟩, rfl⟩, z3, z4, q.mono (vis_less le) z5⟩
  have g2 := g1.set (i := i) hr
  rw [es, List.set_set] at g2
  exact ⟨⟨g2, g.s0, g.d0, g.st, fun j hj => g.fr j (owns_set hj).1, fun j hj => g.pl j (owns_set hj).1, fun j k hj hk => g.inj j k (owns_set hj).1 (owns_set hk).1⟩, vis_less le⟩
def fset (f : Nat → Addr) (i : Nat) (p : Addr) : Nat → Addr := fun j => if j = i then p else f j
theorem fset_self {i : Nat} {p : Addr} : fset f i p i = p := by unfold fset; rw [if_pos rfl]
theorem fset_ne {i j : Nat} {p : Addr} (h : j ≠ i) : fset f i p j = f j := by unfold fset; rw [if_neg h]
theorem owns_ow {i j : Nat} {c : Orp} (h : owns (ρ.set i (.ow c)) j) : j = i ∨ (owns ρ j ∧ j ≠ i) := by
  obtain ⟨d, h⟩ := h
  by_cases e : i = j
  · exact .inl e.symm
  · rw [List.getElem?_set_ne e] at h
    exact .inr ⟨⟨d, h⟩, fun z => e z.symm⟩
/-- a new object that a slot alone holds -/
theorem Good.own {i : Nat} {c : Orp} {p : Addr} {o : HO} (g : Good W U0 H0 f σ H ρ b) (hi : i < ρ.length) (hp : H p = none) (h : c.is (vis (UU U0 f ρ) H) p o) :
    Good W U0 H0 (fset f i p) (σ.set i (some (.ref p))) (upd H p o) (ρ.set i (.ow c)) b ∧ Same (vis (UU U0 f ρ) H) (vis (UU U0 (fset f i p) (ρ.set i (.ow c))) (upd H p o)) := by
  obtain ⟨nu, s, g1⟩ := g.e.new (o := o) hp
  have h0p : H0 p = none := by
    cases e : H0 p with
    | none => rfl
    | some u =>
      by_cases z : U0 p
      · exact absurd (.inl z) nu
      · have := g.st.same p u (vis_at e z)
        rw [(vis_of this).1] at hp; cases hp
  have hf : ∀ j, j ≠ i → (fset f i p) j = f j := fun j z => fset_ne z
  have oi : owns (ρ.set i (.ow c)) i := ⟨c, by rw [List.getElem?_set_self hi]⟩
  have oj : ∀ j, owns ρ j → j ≠ i → owns (ρ.set i (.ow c)) j := fun j ⟨d, e⟩ z => ⟨d, by rw [List.getElem?_set_ne (fun y => z y.symm)]; exact e⟩
  have pj : ∀ j, owns ρ j → f j ≠ p := fun j hj e => nu (.inr ⟨j, hj, e⟩)
  have sm : Same (vis (UU U0 f ρ) H) (vis (UU U0 (fset f i p) (ρ.set i (.ow c))) (upd H p o)) := by
    intro a u e
    obtain ⟨e1, e2⟩ := vis_of e
    have na : a ≠ p := ne_of_none e1 hp
    refine vis_at (by rw [upd_ne na]; exact e1) ?_
    rintro (z | ⟨j, hj, ej⟩)
    · exact e2 (.inl z)
    · rcases owns_ow hj with rfl | ⟨h1, h2⟩
      · rw [fset_self] at ej; exact na ej.symm
      · rw [hf j h2] at ej; exact e2 (.inr ⟨j, h1, ej⟩)
  refine ⟨⟨⟨W.loc (fun a z => upd_ne (fun e => nu (.inl (e ▸ g.s0 a z)))) g.e.j, fun a z => .inl (g.s0 a z), ?_, by rw [List.length_set, List.length_set]; exact g.e.len, ?_, ?_⟩, g.s0, g.d0, ?_, ?_, ?_, ?_⟩, sm⟩
  · rintro a (z | ⟨j, hj, rfl⟩)
    · by_cases e : a = p
      · rw [e, upd_same]; intro y; cases y
      · rw [upd_ne e]; exact g.e.du a (.inl z)
    · rcases owns_ow hj with rfl | ⟨h1, h2⟩
      · rw [fset_self, upd_same]; intro y; cases y
      · rw [hf j h2, upd_ne (pj j h1)]; exact g.e.du _ (.inr ⟨j, h1, rfl⟩)
  · intro j q e
    by_cases z : i = j
    · subst z; rw [List.getElem?_set_self hi] at e; cases e
    · rw [List.getElem?_set_ne z] at e
      obtain ⟨v, y1, y2⟩ := g.e.sh j q e
      exact ⟨v, by rw [List.getElem?_set_ne z]; exact y1, q.mono sm y2⟩
  · intro j q e
    by_cases z : i = j
    · subst z
      rw [List.getElem?_set_self hi] at e
      cases e
      refine ⟨p, o, by rw [List.getElem?_set_self (by rw [g.e.len]; exact hi)], .inr ⟨i, oi, fset_self⟩, fun s => nu (.inl (g.s0 _ s)), upd_same, c.mono sm h⟩
    · rw [List.getElem?_set_ne z] at e
      obtain ⟨p', o', y1, y2, y3, y4, y5⟩ := g.e.ow j q e
      have := g.pl j ⟨q, e⟩
      rw [y1] at this
      cases this
      exact ⟨_, o', by rw [List.getElem?_set_ne z]; exact y1, .inr ⟨j, oj j ⟨q, e⟩ (fun w => z w.symm), hf j (fun w => z w.symm)⟩, y3, by rw [upd_ne (pj j ⟨q, e⟩)]; exact y4, q.mono sm y5⟩
  · refine g.st.trans ⟨vis_new hp, fun a u n => upd_ne fun e => nu (.inl (e ▸ u))⟩
  · intro j hj
    rcases owns_ow hj with rfl | ⟨h1, h2⟩
    · rw [fset_self]; exact h0p
    · rw [hf j h2]; exact g.fr j h1
  · intro j hj
    rcases owns_ow hj with rfl | ⟨h1, h2⟩
    · rw [fset_self, List.getElem?_set_self (by rw [g.e.len]; exact hi)]
    · rw [hf j h2, List.getElem?_set_ne (fun y => h2 y.symm)]; exact g.pl j h1
  · intro j k hj hk e
    rcases owns_ow hj with rfl | ⟨h1, h2⟩
    · rcases owns_ow hk with rfl | ⟨k1, k2⟩
      · rfl
      · rw [hf k k2, fset_self] at e; exact absurd e.symm (pj k k1)
    · rcases owns_ow hk with rfl | ⟨k1, k2⟩
      · rw [hf j h2, fset_self] at e; exact absurd e (pj j h1)
      · rw [hf j h2, hf k k2] at e; exact g.inj j k h1 k1 e
/-- what is owned turns -/
theorem Good.turn {i : Nat} {c c' : Orp} {o' : HO} (g : Good W U0 H0 f σ H ρ b) (e : ρ[i]? = some (.ow c)) (h : c'.is (vis (UU U0 f ρ) H) (f i) o') :
    Good W U0 H0 f σ (upd H (f i) o') (ρ.set i (.ow c')) b ∧ Same (vis (UU U0 f ρ) H) (vis (UU U0 f (ρ.set i (.ow c'))) (upd H (f i) o')) := by
  have hi : i < ρ.length := (List.getElem?_eq_some_iff.mp e).1
  obtain ⟨p, o, h1, h2, h3, h4, h5⟩ := g.e.ow i c e
  have hp := g.pl i ⟨c, e⟩
  rw [hp] at h1
  cases h1
  have ow1 : ∀ j, owns (ρ.set i (.ow c')) j → owns ρ j := fun j hj => (owns_ow hj).elim (fun z => z ▸ ⟨c, e⟩) fun z => z.1
  have ow2 : ∀ j, owns ρ j → owns (ρ.set i (.ow c')) j := fun j ⟨d, y⟩ => by
    by_cases z : i = j
    · subst z; exact ⟨c', by rw [List.getElem?_set_self hi]⟩
    · exact ⟨d, by rw [List.getElem?_set_ne z]; exact y⟩
  have eu : UU U0 f (ρ.set i (.ow c')) = UU U0 f ρ := funext fun a => propext ⟨fun z => z.imp id fun ⟨j, y1, y2⟩ => ⟨j, ow1 j y1, y2⟩, fun z => z.imp id fun ⟨j, y1, y2⟩ => ⟨j, ow2 j y1, y2⟩⟩
  have ui : UU U0 f ρ (f i) := .inr ⟨i, ⟨c, e⟩, rfl⟩
  have ev : vis (UU U0 f ρ) (upd H (f i) o') = vis (UU U0 f ρ) H := funext fun a => by
    unfold vis
    by_cases z : UU U0 f ρ a
    · rw [if_pos z, if_pos z]
    · rw [if_neg z, if_neg z]; exact upd_ne fun y => z (y ▸ ui)
  have n0 : ¬ U0 (f i) := fun z => g.d0 _ z (g.fr i ⟨c, e⟩)
  rw [eu, ev]
  refine ⟨⟨?_, g.s0, g.d0, ⟨fun a u y => ?_, fun a u n => ?_⟩, fun j hj => g.fr j (ow1 j hj), fun j hj => g.pl j (ow1 j hj), fun j k hj hk => g.inj j k (ow1 j hj) (ow1 k hk)⟩, fun _ _ y => y⟩
  · rw [eu]
    refine ⟨W.loc (fun a z => upd_ne fun y => h3 (y ▸ z)) g.e.j, g.e.su, fun a z => ?_, by rw [List.length_set]; exact g.e.len, fun j q y => ?_, fun j q y => ?_⟩
    · by_cases w : a = f i
      · rw [w, upd_same]; intro y; cases y
      · rw [upd_ne w]; exact g.e.du a z
    · by_cases z : i = j
      · subst z; rw [List.getElem?_set_self hi] at y; cases y
      · rw [List.getElem?_set_ne z] at y
        rw [ev]
        exact g.e.sh j q y
    · by_cases z : i = j
      · subst z
        rw [List.getElem?_set_self hi] at y
        cases y
        exact ⟨f i, o', hp, ui, h3, upd_same, by rw [ev]; exact h⟩
      · rw [List.getElem?_set_ne z] at y
        obtain ⟨p', u', y1, y2, y3, y4, y5⟩ := g.e.ow j q y
        have := g.pl j ⟨q, y⟩
        rw [y1] at this
        cases this
        exact ⟨f j, u', y1, y2, y3, by rw [upd_ne fun w => z (g.inj i j ⟨c, e⟩ ⟨q, y⟩ w.symm)]; exact y4, by rw [ev]; exact y5⟩
  · have := g.st.same a u y
    obtain ⟨y1, y2⟩ := vis_of this
    refine vis_at ?_ y2
    rw [upd_ne]
    · exact y1
    · intro w
      have := g.fr i ⟨c, e⟩
      rw [← w, (vis_of y).1] at this
      cases this
  · rw [upd_ne (fun w : a = f i => n0 (w ▸ u))]
    exact g.st.keep a u n
end
end Dx

set_option Elab.async false
set_option linter.all false
set_option maxRecDepth 100000
set_option maxHeartbeats 4000000
/-! Dy: statements, targets, loops, comprehensions, calls. -/
namespace Dx
open PySem PySem.Spec PyProof.Rows L2 Sw
open Classical
section
variable {W : Wd} {ρ : List Ent} {b : Int} {k : Ks} {te ta tb : TE} {ts : TA} {tt ut : TT} {t u : TS} {i : Nat} {v : V} {r : Rp} {rs : List Rp} {K : PySem.W.Frag}
theorem s_seq (h : Es W t ρ b { k with nx := fun ρ' b' => Es W u ρ' b' k }) : Es W (tSeq t u) ρ b k := fun U0 H0 f σ H D g e =>
  h U0 H0 f σ H _ g ⟨fun f' σ' H' ρ' b' g' s' q => q U0 H0 f' σ' H' D g' (e.from s'), e.rt, e.bk, e.ct, e.ex⟩
/-- what holds between -/
theorem s_cut (M : List Ent → Int → Prop) (h : Es W t ρ b { k with nx := M }) (h2 : ∀ ρ' b', M ρ' b' → Es W u ρ' b' k) : Es W (Evl.tCut t u) ρ b k := fun U0 H0 f σ H D g e =>
  ⟨fun σ' H' => u D σ' H', h U0 H0 f σ H _ g ⟨fun f' σ' H' ρ' b' g' s' q => h2 ρ' b' q U0 H0 f' σ' H' D g' (e.from s'), e.rt, e.bk, e.ct, e.ex⟩, fun _ _ q => q⟩
theorem s_set (h : Ev W te ρ b fun r b' => k.nx (ρ.set i (.sh r)) b') : Es W (tAsg te (gName i)) ρ b k := fun U0 H0 f σ H D g e =>
  h _ σ H _ g.e fun v H1 r b1 g1 s1 q1 r1 => by
    obtain ⟨g2, s2⟩ := (g.step s1 g1.j).set (i := i) r1
    exact e.nx f _ _ _ b1 g2 (s1.same.trans s2) q1
theorem s_if (h : Et W tt ρ b fun c b' => if c = true then Es W t ρ b' k else Es W u ρ b' k) : Es W (tIfS tt t u) ρ b k := fun U0 H0 f σ H D g e =>
  h _ σ H _ g.e fun c H1 b1 g1 s1 q1 => by
    have g2 := g.step s1 g1.j
    cases c
    · exact q1 U0 H0 f σ H1 D g2 (e.from s1.same)
    · exact q1 U0 H0 f σ H1 D g2 (e.from s1.same)
theorem s_ret (h : Ev W te ρ b k.rt) : Es W (tRet te) ρ b k := fun U0 H0 f σ H D g e =>
  h _ σ H _ g.e fun v H1 r b1 g1 s1 q1 r1 => e.rt v H1 r b1 (g.step s1 g1.j).st g1.j q1 (r.mono vis_uu r1)
theorem s_retN (h : k.rt rNon b) : Es W tRetN ρ b k := fun U0 H0 f σ H D g e => e.rt .non H rNon b g.st g.e.j h rfl
theorem s_drop (h : Ev W te ρ b fun _ b' => k.nx ρ b') : Es W (tDrop te) ρ b k := fun U0 H0 f σ H D g e =>
  h _ σ H _ g.e fun v H1 r b1 g1 s1 q1 r1 => e.nx f σ H1 ρ b1 (g.step s1 g1.j) s1.same q1
theorem s_next (h : k.nx ρ b) : Es W tNext ρ b k := fun U0 H0 f σ H D g e => e.nx f σ H ρ b g (fun _ _ z => z) h
theorem s_brk (h : k.bk ρ b) : Es W tBreak ρ b k := fun U0 H0 f σ H D g e => e.bk f σ H ρ b g (fun _ _ z => z) h
theorem s_cont (h : k.ct ρ b) : Es W tCont ρ b k := fun U0 H0 f σ H D g e => e.ct f σ H ρ b g (fun _ _ z => z) h
/-- what was owned is shared from here on -/
theorem s_free {c : Orp} (e : ρ[i]? = some (.ow c)) (hc : ∀ G p o, c.is G p o → G p = some o → r.is G (.ref p)) (h : Es W t (ρ.set i (.sh r)) b k) : Es W t ρ b k := fun U0 H0 f σ H D g en => by
  obtain ⟨g1, s1⟩ := g.free e hc
  exact h U0 H0 f σ H D g1 (en.from s1)
theorem free_L {rs : List Rp} : ∀ G p o, (oL rs).is G p o → G p = some o → (rLst K rs).is G (.ref p) := fun G p o ⟨xs, e, r⟩ h => ⟨p, xs, rfl, SqL.of (by rw [h, e]), r⟩
/-- x = [..], to be changed -/
theorem s_own (hi : i < ρ.length) (h : EvA W ts ρ b fun rs b' => rs.length ≤ 100000 ∧ k.nx (ρ.set i (.ow (oL rs))) b') : Es W (tAsg (tLst ts) (gName i)) ρ b k := fun U0 H0 f σ H D g e =>
  h _ σ H _ g.e fun vs H1 rs b1 g1 s1 q1 r1 => ⟨by rw [Paired.length r1]; exact Nat.le_trans q1.1 (by decide), fun p hp => by
    obtain ⟨g2, s2⟩ := (g.step s1 g1.j).own (i := i) (c := oL rs) (o := .lst vs) hi hp ⟨vs, rfl, r1⟩
    exact e.nx _ _ _ _ b1 g2 (s1.same.trans s2) q1.2⟩
theorem s_append (e : ρ[i]? = some (.ow (oL rs))) (hl : rs.length ≤ 100000) (h : EvA W ts ρ b fun xs b' => ∃ x, xs = [x] ∧ k.nx (ρ.set i (.ow (oL (rs ++ [x])))) b') : Es W (tDrop (tBM K "list" rAppend (tVar i) ts)) ρ b k := fun U0 H0 f σ H D g en => by
  obtain ⟨p, o, h1, h2, h3, h4, xs, rfl, h5⟩ := g.e.ow i _ e
  refine ⟨_, h1, .inl ⟨rfl, xs, SqL.of h4⟩, h _ σ H _ g.e fun vs H1 ys b1 g1 s1 q1 r1 => ?_⟩
  obtain ⟨x, rfl, q1⟩ := q1
  obtain ⟨y, rfl, ry⟩ : ∃ y, vs = [y] ∧ x.is (vis (UU U0 f ρ) H1) y := by
    cases r1 with
    | cons z t => cases t; exact ⟨_, rfl, z⟩
  have gs := g.step s1 g1.j
  have hp := g.pl i ⟨_, e⟩
  rw [h1] at hp
  cases hp
  have e1 : H1 (f i) = some (.lst xs) := (s1.keep _ h2 h3).trans h4
  have len := Paired.length h5
  obtain ⟨g2, s2⟩ := gs.turn (c' := oL (rs ++ [x])) (o' := .lst (xs ++ [y])) e ⟨_, rfl, (h5.mono s1.same).snoc ry⟩
  exact ⟨f i, xs, y, rfl, rfl, e1, by rw [len]; exact Nat.lt_of_le_of_lt hl (by decide), en.nx _ _ _ _ b1 g2 (s1.same.trans s2) q1⟩
end

/-! ### targets in a block -/
def EgE (W : Wd) (vs : List Nat) (g : TG) (r : Rp) (ρ : List Ent) (b : Int) (post : List Ent → Prop) : Prop := ∀ U σ H R v, GoodE W U σ H ρ b → r.is (vis U H) v →
  (∀ σ' ρ', GoodE W U σ' H ρ' b → wipe σ' vs = wipe σ vs → (∀ (i : Nat) (c : Orp), ρ'[i]? = some (Ent.ow c) → ρ[i]? = some (Ent.ow c) ∧ σ'[i]? = σ[i]?) → post ρ' → R σ' H) → g v σ H R
def EgS (W : Wd) (vs : List Nat) (g : TGs) (rs : List Rp) (ρ : List Ent) (b : Int) (post : List Ent → Prop) : Prop := ∀ U σ H R us, GoodE W U σ H ρ b → Reps (vis U H) us rs →
  (∀ σ' ρ', GoodE W U σ' H ρ' b → wipe σ' vs = wipe σ vs → (∀ (i : Nat) (c : Orp), ρ'[i]? = some (Ent.ow c) → ρ[i]? = some (Ent.ow c) ∧ σ'[i]? = σ[i]?) → post ρ' → R σ' H) → g us σ H R
theorem wipe_set {σ : L2.St} {x : Option V} : ∀ {vs : List Nat} {i : Nat}, i ∈ vs → wipe (σ.set i x) vs = wipe σ vs := by
  intro vs i h
  refine List.ext_getElem? fun j => ?_
  by_cases hj : j ∈ vs
  · have key : ∀ (τ : L2.St), (wipe τ vs)[j]? = if j < τ.length then some none else none := by
      intro τ
      by_cases hl : j < τ.length
      · rw [if_pos hl]
        have hw : j < (wipe τ vs).length := by rw [wipe_length]; exact hl
        cases e : (wipe τ vs)[j]? with
        | none => rw [List.getElem?_eq_none_iff] at e; omega
        | some y =>
          cases y with
          | none => rfl
          | some z => exact absurd hj (wipe_some e).2
      · rw [if_neg hl]
        exact List.getElem?_eq_none (by rw [wipe_length]; omega)
    rw [key, key, List.length_set]
  · rw [wipe_out hj, wipe_out hj, List.getElem?_set_ne (fun e : i = j => hj (e ▸ h))]
section
variable {W : Wd} {ρ : List Ent} {b : Int} {vs : List Nat} {post : List Ent → Prop} {i n : Nat} {r : Rp} {rs : List Rp} {K : PySem.W.Frag}
theorem ge_name (hi : i ∈ vs) (h : post (ρ.set i (.sh r))) : EgE W vs (gName i) r ρ b post := fun U σ H R v g q z =>
  z _ _ (g.set q) (wipe_set hi) (fun j c e => by
    obtain ⟨_, ne⟩ := owns_set ⟨c, e⟩
    rw [List.getElem?_set_ne (fun y => ne y.symm)] at e
    exact ⟨e, List.getElem?_set_ne (fun y => ne y.symm)⟩) h
theorem ge_nil (h : post ρ) : EgS W vs gNil [] ρ b post := fun U σ H R us g q z => by
  cases q
  exact ⟨rfl, z σ ρ g rfl (fun _ _ e => ⟨e, rfl⟩) h⟩
theorem ge_cons {g : TG} {gs : TGs} (h : EgE W vs g r ρ b fun ρ' => EgS W vs gs rs ρ' b post) : EgS W vs (gCons g gs) (r :: rs) ρ b post := fun U σ H R us gd q z => by
  cases q with
  | cons q1 q2 =>
    exact ⟨_, _, rfl, h U σ H _ _ gd q1 fun σ1 ρ1 g1 w1 o1 p1 => p1 U σ1 H _ _ g1 q2 fun σ2 ρ2 g2 w2 o2 p2 => z σ2 ρ2 g2 (w2.trans w1) (fun i c e => ⟨(o1 i c (o2 i c e).1).1, (o2 i c e).2.trans (o1 i c (o2 i c e).1).2⟩) p2⟩
theorem ge_tup {gs : TGs} (hn : rs.length = n) (h : EgS W vs gs rs ρ b post) : EgE W vs (gTup K n gs) (rTup K rs) ρ b post := fun U σ H R v g q z => by
  obtain ⟨a, xs, rfl, sq, rp⟩ := q
  exact ⟨a, xs, rfl, sqT_to sq (fun o e => (vis_of e).1), (Paired.length rp).trans hn, h U σ H R xs g rp z⟩
end

/-! ### what is walked -/
def ItOk (J : It) (G : Hp) (rs : List Rp) : Prop := ∀ H, Same G H → (∀ (i : Nat) (r : Rp), rs[i]? = some r → J.go i H ∧ ∀ x H', J.yld i H x H' → H' = H ∧ r.is G x) ∧ ∀ i, rs.length ≤ i → J.stop i H
def EvI (W : Wd) (wi : TI) (ρ : List Ent) (b : Int) (post : List Rp → Int → Prop) : Prop := ∀ U σ H R, GoodE W U σ H ρ b →
  (∀ J H' rs b', GoodE W U σ H' ρ b' → Stp W U H H' → ItOk J (vis U H') rs → post rs b' → R J H') → wi σ H R
theorem reps_get {G : Hp} : ∀ {xs : List V} {rs : List Rp} {i : Nat} {r : Rp}, Reps G xs rs → rs[i]? = some r → ∃ x, xs[i]? = some x ∧ r.is G x
  | _, _, _, _, .nil, e => by simp at e
  | _, _, 0, _, .cons h _, e => by simp at e; subst e; exact ⟨_, rfl, h⟩
  | _, _, i + 1, _, .cons _ t, e => by
    obtain ⟨x, h1, h2⟩ := reps_get (i := i) t (by simpa using e)
    exact ⟨x, by simpa using h1, h2⟩
theorem it_list {K : PySem.W.Frag} {G : Hp} {a : Addr} {xs : List V} {rs : List Rp} (q : SqL K G a xs) (r : Reps G xs rs) : ItOk (Itl K a) G rs := fun H s => by
  have q' := sqL_to q (s a)
  refine ⟨fun i r' e => ?_, fun i h => ⟨xs, q', by rw [Paired.length r]; exact h⟩⟩
  obtain ⟨x, e1, e2⟩ := reps_get r e
  refine ⟨⟨xs, x, q', e1⟩, fun y H' ⟨e3, e4⟩ => ⟨e3, ?_⟩⟩
  have := e4 xs q'
  rw [e1] at this
  cases this
  exact e2
theorem it_tup {K : PySem.W.Frag} {G : Hp} {a : Addr} {xs : List V} {rs : List Rp} (q : SqT K G a xs) (r : Reps G xs rs) : ItOk (Itt K a) G rs := fun H s => by
  have q' := sqT_to q (s a)
  refine ⟨fun i r' e => ?_, fun i h => ⟨xs, q', by rw [Paired.length r]; exact h⟩⟩
  obtain ⟨x, e1, e2⟩ := reps_get r e
  refine ⟨⟨xs, x, q', e1⟩, fun y H' ⟨e3, e4⟩ => ⟨e3, ?_⟩⟩
  have := e4 xs q'
  rw [e1] at this
  cases this
  exact e2
/-- lo, lo + 1, .. -/
def rInts (lo : Int) (n : Nat) : List Rp := (List.range n).map fun (k : Nat) => rInt (lo + (k : Int))
theorem rInts_len (lo : Int) (n : Nat) : (rInts lo n).length = n := by unfold rInts; simp
theorem rInts_get {lo : Int} {n k : Nat} {r : Rp} (h : (rInts lo n)[k]? = some r) : k < n ∧ r = rInt (lo + k) := by
  unfold rInts at h
  rw [List.getElem?_map] at h
  have hk : k < n := by
    by_cases q : k < n
    · exact q
    · rw [List.getElem?_eq_none (by simp; omega)] at h
      cases h
  rw [List.getElem?_range hk] at h
  exact ⟨hk, (Option.some.inj h).symm⟩
theorem it_range {G : Hp} {lo : Int} {n : Nat} : ItOk (Itr lo n) G (rInts lo n) := fun H _ => by
  refine ⟨fun i r e => ?_, fun i h => by rw [rInts_len] at h; exact h⟩
  obtain ⟨h1, rfl⟩ := rInts_get e
  exact ⟨h1, fun x H' ⟨e1, e2⟩ => ⟨e1, e2⟩⟩
section
variable {W : Wd} {ρ : List Ent} {b : Int} {post : List Rp → Int → Prop} {K : PySem.W.Frag} {tl : TE} {ts : TA}
theorem i_list (h : Ev W tl ρ b fun r b' => ∃ rs, r = rLst K rs ∧ post rs b') : EvI W (iList K tl) ρ b post := fun U σ H R g k =>
  h U σ H _ g fun v H1 r b1 g1 s1 q1 r1 => by
    obtain ⟨rs, rfl, q1⟩ := q1
    obtain ⟨a, xs, rfl, q, rp⟩ := r1
    exact ⟨a, rfl, ⟨xs, sqL_to q (fun o e => (vis_of e).1)⟩, k _ H1 rs b1 g1 s1 (it_list q rp) q1⟩
theorem i_tup (h : Ev W tl ρ b fun r b' => ∃ rs, r = rTup K rs ∧ post rs b') : EvI W (iTup K tl) ρ b post := fun U σ H R g k =>
  h U σ H _ g fun v H1 r b1 g1 s1 q1 r1 => by
    obtain ⟨rs, rfl, q1⟩ := q1
    obtain ⟨a, xs, rfl, q, rp⟩ := r1
    exact ⟨a, rfl, ⟨xs, sqT_to q (fun o e => (vis_of e).1)⟩, k _ H1 rs b1 g1 s1 (it_tup q rp) q1⟩
theorem i_r1 (h : EvA W ts ρ b fun rs b' => ∃ j, rs = [rInt j] ∧ -100000 ≤ j ∧ j ≤ 100000 ∧ post (rInts 0 j.toNat) b') : EvI W (iRng1 ts) ρ b post := fun U σ H R g k =>
  h U σ H _ g fun vs H1 rs b1 g1 s1 q1 r1 => by
    obtain ⟨j, rfl, h1, h2, q1⟩ := q1
    cases r1 with
    | cons z t =>
      cases t
      cases z
      exact ⟨j, rfl, by omega, by omega, k _ H1 _ b1 g1 s1 it_range q1⟩
theorem i_r2 (h : EvA W ts ρ b fun rs b' => ∃ i j, rs = [rInt i, rInt j] ∧ post (rInts i (j - i).toNat) b') : EvI W (iRng ts) ρ b post := fun U σ H R g k =>
  h U σ H _ g fun vs H1 rs b1 g1 s1 q1 r1 => by
    obtain ⟨i, j, rfl, q1⟩ := q1
    cases r1 with
    | cons z t =>
      cases t with
      | cons y t =>
        cases t
        cases z
        cases y
        exact ⟨i, j, rfl, k _ H1 _ b1 g1 s1 it_range q1⟩
end
/-! ### for -/
def Eg (W : Wd) (g : TG) (r : Rp) (ρ : List Ent) (b : Int) (post : List Ent → Prop) : Prop := ∀ U0 H0 f σ H R v, Good W U0 H0 f σ H ρ b → r.is (vis (UU U0 f ρ) H) v →
  (∀ σ' ρ', Good W U0 H0 f σ' H ρ' b → Same (vis (UU U0 f ρ) H) (vis (UU U0 f ρ') H) → post ρ' → R σ' H) → g v σ H R
def Egs (W : Wd) (g : TGs) (rs : List Rp) (ρ : List Ent) (b : Int) (post : List Ent → Prop) : Prop := ∀ U0 H0 f σ H R us, Good W U0 H0 f σ H ρ b → Reps (vis (UU U0 f ρ) H) us rs →
  (∀ σ' ρ', Good W U0 H0 f σ' H ρ' b → Same (vis (UU U0 f ρ) H) (vis (UU U0 f ρ') H) → post ρ' → R σ' H) → g us σ H R
section
variable {W : Wd} {ρ : List Ent} {b : Int} {post : List Ent → Prop} {i n : Nat} {r : Rp} {rs : List Rp} {K : PySem.W.Frag} {k : Ks}
theorem g_name (h : post (ρ.set i (.sh r))) : Eg W (gName i) r ρ b post := fun U0 H0 f σ H R v g q z => by
  obtain ⟨g1, s1⟩ := g.set (i := i) q
  exact z _ _ g1 s1 h
theorem g_nil (h : post ρ) : Egs W gNil [] ρ b post := fun U0 H0 f σ H R us g q z => by
  cases q
  exact ⟨rfl, z σ ρ g (fun _ _ e => e) h⟩
theorem g_cons {g : TG} {gs : TGs} (h : Eg W g r ρ b fun ρ' => Egs W gs rs ρ' b post) : Egs W (gCons g gs) (r :: rs) ρ b post := fun U0 H0 f σ H R us gd q z => by
  cases q with
  | cons q1 q2 => exact ⟨_, _, rfl, h U0 H0 f σ H _ _ gd q1 fun σ1 ρ1 g1 s1 p1 => p1 U0 H0 f σ1 H _ _ g1 (Reps.mono s1 q2) fun σ2 ρ2 g2 s2 p2 => z σ2 ρ2 g2 (s1.trans s2) p2⟩
theorem g_tup {gs : TGs} (hn : rs.length = n) (h : Egs W gs rs ρ b post) : Eg W (gTup K n gs) (rTup K rs) ρ b post := fun U0 H0 f σ H R v g q z => by
  obtain ⟨a, xs, rfl, sq, rp⟩ := q
  exact ⟨a, xs, rfl, sqT_to sq (fun o e => (vis_of e).1), (Paired.length rp).trans hn, h U0 H0 f σ H R xs g rp z⟩
theorem s_asg {te : TE} {g : TG} (h : Ev W te ρ b fun r b' => Eg W g r ρ b' fun ρ' => k.nx ρ' b') : Es W (tAsg te g) ρ b k := fun U0 H0 f σ H D gd e =>
  h _ σ H _ gd.e fun v H1 r b1 g1 s1 q1 r1 => q1 U0 H0 f σ H1 _ v (gd.step s1 g1.j) r1 fun σ' ρ' g2 s2 p2 => e.nx f _ _ _ b1 g2 (s1.same.trans s2) p2
/-- what a loop over rs asks -/
structure ForD (W : Wd) (rs : List Rp) (g : TG) (tb : TS) (ρ : List Ent) (b : Int) (k : Ks) (Pv : Nat → List Ent → Int → Prop) : Prop where
  start : Pv 0 ρ b
  turn : ∀ (j : Nat) (r : Rp) ρ' b', rs[j]? = some r → Pv j ρ' b' → Eg W g r ρ' b' fun ρ2 => Es W tb ρ2 b' { k with nx := Pv (j + 1), ct := Pv (j + 1), bk := k.nx }
  done : ∀ ρ' b', Pv rs.length ρ' b' → k.nx ρ' b'
theorem s_for {wi : TI} {g : TG} {tb : TS} (h : EvI W wi ρ b fun rs b' => ∃ Pv, ForD W rs g tb ρ b' k Pv) : Es W (tFor wi g tb) ρ b k := fun U0 H0 f σ H D gd e =>
  h _ σ H _ gd.e fun J H1 rs b1 g1 s1 it q1 => by
    obtain ⟨Pv, q⟩ := q1
    have gd1 := gd.step s1 g1.j
    refine ⟨fun i m σ' H' => m = rs.length - i ∧ i ≤ rs.length ∧ ∃ f' ρ' b', Good W U0 H0 f' σ' H' ρ' b' ∧ Same (vis (UU U0 f ρ) H1) (vis (UU U0 f' ρ') H') ∧ Pv i ρ' b', ⟨rs.length, by simp, Nat.zero_le _, f, ρ, b1, gd1, fun _ _ z => z, q.start⟩, ?_⟩
    rintro i m σ' H' ⟨rfl, hi, f', ρ', b', gd', s', p⟩
    obtain ⟨go, stop⟩ := it H' (s'.trans vis_le)
    by_cases hlt : i < rs.length
    · have hx := List.getElem?_eq_getElem hlt
      obtain ⟨go1, go2⟩ := go i _ hx
      refine .inr ⟨go1, fun σ2 H2 => i + 1 ≤ rs.length ∧ ∃ f' ρ' b', Good W U0 H0 f' σ2 H2 ρ' b' ∧ Same (vis (UU U0 f ρ) H1) (vis (UU U0 f' ρ') H2) ∧ Pv (i + 1) ρ' b', fun σ2 H2 z => ⟨rs.length - (i + 1), by omega, rfl, z.1, z.2⟩, fun x H2 y => ?_⟩
      obtain ⟨rfl, ix⟩ := go2 x H2 y
      refine q.turn i _ ρ' b' hx p U0 H0 f' σ' H2 _ x gd' ((rs[i]).mono s' ix) fun σ2 ρ2 g2 s2 p2 => ?_
      have e' := e.from (s1.same.trans (s'.trans s2))
      refine p2 U0 H0 f' σ2 H2 _ g2 ⟨fun f3 σ3 H3 ρ3 b3 g3 s3 q3 => ⟨hlt, f3, ρ3, b3, g3, s'.trans (s2.trans s3), q3⟩, e'.rt, fun f3 σ3 H3 ρ3 b3 g3 s3 q3 => e'.nx f3 σ3 H3 ρ3 b3 g3 s3 q3, fun f3 σ3 H3 ρ3 b3 g3 s3 q3 => ⟨hlt, f3, ρ3, b3, g3, s'.trans (s2.trans s3), q3⟩, e'.ex⟩
    · have hie : i = rs.length := by omega
      subst hie
      exact .inl ⟨stop _ (Nat.le_refl _), (e.from (s1.same.trans s')).nx f' σ' H' ρ' b' gd' (fun _ _ z => z) (q.done ρ' b' p)⟩
theorem s_while {c : TT} {tb : TS} (Pv : Nat → List Ent → Int → Prop) (m0 : Nat) (h0 : Pv m0 ρ b)
    (h : ∀ m ρ' b', Pv m ρ' b' → Et W c ρ' b' fun z b2 => if z = true then Es W tb ρ' b2 { k with nx := fun ρ3 b3 => ∃ m', m' < m ∧ Pv m' ρ3 b3, ct := fun ρ3 b3 => ∃ m', m' < m ∧ Pv m' ρ3 b3, bk := k.nx } else k.nx ρ' b2) : Es W (tWhile c tb) ρ b k := fun U0 H0 f σ H D gd e => by
  refine ⟨fun m σ' H' => ∃ f' ρ' b', Good W U0 H0 f' σ' H' ρ' b' ∧ Same (vis (UU U0 f ρ) H) (vis (UU U0 f' ρ') H') ∧ Pv m ρ' b', ⟨m0, f, ρ, b, gd, fun _ _ z => z, h0⟩, ?_⟩
  rintro m σ' H' ⟨f', ρ', b', gd', s', p⟩
  refine h m ρ' b' p _ σ' H' _ gd'.e fun z H1 b1 g1 s1 q1 => ?_
  have gd1 := gd'.step s1 g1.j
  have e' := e.from (s'.trans s1.same)
  cases z
  · exact e'.nx f' σ' H1 ρ' b1 gd1 (fun _ _ z => z) q1
  · refine ⟨fun σ2 H2 => ∃ m', m' < m ∧ ∃ f' ρ' b', Good W U0 H0 f' σ2 H2 ρ' b' ∧ Same (vis (UU U0 f ρ) H) (vis (UU U0 f' ρ') H2) ∧ Pv m' ρ' b', fun σ2 H2 z => z, ?_⟩
    refine q1 U0 H0 f' σ' H1 _ gd1 ⟨fun f3 σ3 H3 ρ3 b3 g3 s3 ⟨m', hm, q3⟩ => ⟨m', hm, f3, ρ3, b3, g3, s'.trans (s1.same.trans s3), q3⟩, e'.rt, fun f3 σ3 H3 ρ3 b3 g3 s3 q3 => e'.nx f3 σ3 H3 ρ3 b3 g3 s3 q3, fun f3 σ3 H3 ρ3 b3 g3 s3 ⟨m', hm, q3⟩ => ⟨m', hm, f3, ρ3, b3, g3, s'.trans (s1.same.trans s3), q3⟩, e'.ex⟩
end
end Dx

set_option Elab.async false
set_option linter.all false
set_option maxRecDepth 100000
set_option maxHeartbeats 4000000
/-! Dz: comprehensions, calls, objects, operations. -/
namespace Dx
open PySem PySem.Spec PyProof.Rows L2 Sw
open Classical
/-! ### comprehensions -/
def wipeE (ρ : List Ent) : List Nat → List Ent
  | [] => ρ
  | v :: vs => (wipeE ρ vs).set v .no
theorem wipeE_len (ρ : List Ent) : ∀ vs, (wipeE ρ vs).length = ρ.length
  | [] => rfl
  | v :: vs => by show ((wipeE ρ vs).set v .no).length = _; rw [List.length_set, wipeE_len ρ vs]
theorem wipeE_get {ρ : List Ent} {i : Nat} {e : Ent} (he : e ≠ .no) : ∀ {vs : List Nat}, (wipeE ρ vs)[i]? = some e → ρ[i]? = some e ∧ i ∉ vs
  | [], h => ⟨h, fun z => nomatch z⟩
  | v :: vs, h => by
    have h : ((wipeE ρ vs).set v .no)[i]? = some e := h
    by_cases z : v = i
    · subst z
      rw [List.getElem?_set_self'] at h
      cases y : (wipeE ρ vs)[v]? with
      | none => rw [y] at h; cases h
      | some x => rw [y] at h; simp at h; exact absurd h.symm he
    · rw [List.getElem?_set_ne z] at h
      obtain ⟨h1, h2⟩ := wipeE_get he h
      exact ⟨h1, fun m => (List.mem_cons.mp m).elim (fun q => z q.symm) h2⟩
theorem GoodE.hide {W : Wd} {U : Addr → Prop} {σ : L2.St} {H H' : Hp} {ρ : List Ent} {b b' : Int} {D : Addr} (vs : List Nat) (g : GoodE W U σ H ρ b) (hD : H D = none) (hs : Same (vis U H) (vis (fun a => U a ∨ a = D) H')) (hk : ∀ a, U a → ¬ W.S a → H' a = H a) (hn : H' D ≠ none) (j : W.J b' H') :
    GoodE W (fun a => U a ∨ a = D) (wipe σ vs) H' (wipeE ρ vs) b' where
  j := j
  su := fun a h => .inl (g.su a h)
  du := fun a h => by
    rcases h with h | rfl
    · by_cases z : W.S a
      · exact W.dom j a z
      · rw [hk a h z]; exact g.du a h
    · exact hn
  len := by rw [wipe_length, wipeE_len]; exact g.len
  sh := fun i r e => by
    obtain ⟨e1, e2⟩ := wipeE_get (by intro z; cases z) e
    obtain ⟨v, h1, h2⟩ := g.sh i r e1
    exact ⟨v, by rw [wipe_out e2]; exact h1, r.mono hs h2⟩
  ow := fun i c e => by
    obtain ⟨e1, e2⟩ := wipeE_get (by intro z; cases z) e
    obtain ⟨p, o, h1, h2, h3, h4, h5⟩ := g.ow i c e1
    exact ⟨p, o, by rw [wipe_out e2]; exact h1, .inl h2, h3, (hk p h2 h3).trans h4, c.mono hs h5⟩
theorem wipe_at {τ : L2.St} {vs : List Nat} {j : Nat} (hj : j ∈ vs) : (wipe τ vs)[j]? = if j < τ.length then some none else none := by
  by_cases hl : j < τ.length
  · rw [if_pos hl]
    have hw : j < (wipe τ vs).length := by rw [wipe_length]; exact hl
    cases e : (wipe τ vs)[j]? with
    | none => rw [List.getElem?_eq_none_iff] at e; omega
    | some y =>
      cases y with
      | none => rfl
      | some z => exact absurd hj (wipe_some e).2
  · rw [if_neg hl]
    exact List.getElem?_eq_none (by rw [wipe_length]; omega)
theorem wipe_idem (σ : L2.St) (vs : List Nat) : wipe (wipe σ vs) vs = wipe σ vs := by
  refine List.ext_getElem? fun j => ?_
  by_cases hj : j ∈ vs
  · rw [wipe_at hj, wipe_at hj, wipe_length]
  · rw [wipe_out hj]
/-- what a comprehension over rs asks -/
structure LcD (W : Wd) (rs : List Rp) (vs : List Nat) (g : TG) (tt : TT) (te : TE) (ρ : List Ent) (b : Int) (done : List Rp → Int → Prop) (Pv : Nat → List Rp → Int → Prop) : Prop where
  start : Pv 0 [] b
  turn : ∀ (j : Nat) (r : Rp) acc b', rs[j]? = some r → acc.length ≤ j → Pv j acc b' → EgE W vs g r (wipeE ρ vs) b' fun ρ2 => Et W tt ρ2 b' fun c b2 => if c = true then Ev W te ρ2 b2 fun y b3 => Pv (j + 1) (acc ++ [y]) b3 else Pv (j + 1) acc b2
  fin : ∀ acc b', acc.length ≤ rs.length → Pv rs.length acc b' → done acc b'
theorem e_lc {W : Wd} {wi : TI} {g : TG} {tt : TT} {te : TE} {vs : List Nat} {ρ : List Ent} {b : Int} {post : Rp → Int → Prop} (K : PySem.W.Frag) (h : EvI W wi ρ b fun rs b' => rs.length ≤ 100000 ∧ ∃ Pv, LcD W rs vs g tt te ρ b' (fun acc b2 => post (rLst K acc) b2) Pv) : Ev W (tLc wi g tt te vs) ρ b post := fun U σ H Q gd k =>
  h U σ H _ gd fun J H1 rs b1 g1 s1 it q1 => by
    obtain ⟨hl, Pv, q⟩ := q1
    intro D hD
    have nD : ¬ U D := fun z => g1.du D z hD
    refine ⟨fun i m H' => m = rs.length - i ∧ i ≤ rs.length ∧ ∃ acc ra b', H' D = some (.lst acc) ∧ Reps (vis (fun a => U a ∨ a = D) H') acc ra ∧ ra.length ≤ i ∧ Same (vis U H1) (vis (fun a => U a ∨ a = D) H') ∧ (∀ a, U a → ¬ W.S a → H' a = H1 a) ∧ W.J b' H' ∧ Pv i ra b',
      ⟨rs.length, by simp, Nat.zero_le _, [], [], b1, upd_same, .nil, Nat.le_refl _, ?_, fun a u _ => upd_ne fun z => nD (z ▸ u), W.loc (fun a z => upd_ne fun y => nD (y ▸ g1.su a z)) g1.j, q.start⟩, ?_⟩
    · intro a o e
      obtain ⟨e1, e2⟩ := vis_of e
      have na := ne_of_none e1 hD
      exact vis_at (by rw [upd_ne na]; exact e1) fun z => z.elim e2 na
    · rintro i m H' ⟨rfl, hi, acc, ra, b', eD, rp, la, sm, kp, jb, p⟩
      have gh := g1.hide vs hD sm kp (by rw [eD]; intro z; cases z) jb
      obtain ⟨go, stop⟩ := it H' (sm.trans vis_le)
      by_cases hlt : i < rs.length
      · have hx := List.getElem?_eq_getElem hlt
        obtain ⟨go1, go2⟩ := go i _ hx
        refine .inr ⟨go1, fun H2 => i + 1 ≤ rs.length ∧ ∃ acc ra b', H2 D = some (.lst acc) ∧ Reps (vis (fun a => U a ∨ a = D) H2) acc ra ∧ ra.length ≤ i + 1 ∧ Same (vis U H1) (vis (fun a => U a ∨ a = D) H2) ∧ (∀ a, U a → ¬ W.S a → H2 a = H1 a) ∧ W.J b' H2 ∧ Pv (i + 1) ra b', fun H2 z => ⟨rs.length - (i + 1), by omega, rfl, z.1, z.2⟩, fun x H2 y => ?_⟩
        obtain ⟨rfl, ix⟩ := go2 x H2 y
        refine q.turn i _ ra b' hx la p _ _ H2 _ x gh ((rs[i]).mono sm ix) fun σ2 ρ2 g2 w2 o2 p2 => ?_
        refine ⟨w2.trans (wipe_idem σ vs), p2 _ σ2 H2 _ g2 fun c H3 b3 g3 s3 q3 => ?_⟩
        have dS : ¬ W.S D := fun z => nD (g1.su D z)
        have eD3 : H3 D = some (.lst acc) := (s3.keep D (.inr rfl) dS).trans eD
        cases c
        · exact ⟨hlt, acc, ra, b3, eD3, rp.mono s3.same, by omega, sm.trans s3.same, fun a u n => (s3.keep a (.inl u) n).trans (kp a u n), g3.j, q3⟩
        · refine q3 _ σ2 H3 _ g3 fun y H4 r4 b4 g4 s4 q4 r4' => ?_
          have eD4 : H4 D = some (.lst acc) := (s4.keep D (.inr rfl) dS).trans eD3
          have ln := Paired.length rp
          have ev : vis (fun a => U a ∨ a = D) (upd H4 D (.lst (acc ++ [y]))) = vis (fun a => U a ∨ a = D) H4 := funext fun a => by
            unfold vis
            by_cases z : U a ∨ a = D
            · rw [if_pos z, if_pos z]
            · rw [if_neg z, if_neg z]; exact upd_ne fun y => z (.inr y)
          refine ⟨acc, eD4, by rw [ln]; exact Nat.lt_of_le_of_lt (Nat.le_trans la (by omega)) (show 100000 < sizeLine by decide), hlt, acc ++ [y], ra ++ [r4], b4, upd_same, ?_, by rw [List.length_append]; exact Nat.add_le_add_right la 1, ?_, fun a u n => ?_, W.loc (fun a z => upd_ne fun y => dS (y ▸ z)) g4.j, q4⟩
          · rw [ev]; exact ((rp.mono s3.same).mono s4.same).snoc r4'
          · rw [ev]; exact sm.trans (s3.same.trans s4.same)
          · rw [upd_ne (fun z : a = D => nD (z ▸ u))]
            exact (s4.keep a (.inl u) n).trans ((s3.keep a (.inl u) n).trans (kp a u n))
      · have hie : i = rs.length := by omega
        subst hie
        have le : Same (vis (fun a => U a ∨ a = D) H') (vis U H') := vis_less fun a z => .inl z
        have sx : Stp W U H1 H' := ⟨sm.trans le, kp⟩
        exact .inl ⟨stop _ (Nat.le_refl _), k (.ref D) H' _ b' (g1.step sx jb) (s1.trans sx) (q.fin ra b' la p) ⟨D, acc, rfl, SqL.of (vis_at eD nD), rp.mono le⟩⟩

theorem paired_app {α β : Type} {F : α → β → Prop} : ∀ {a c : List α} {b d : List β}, Paired F a b → Paired F c d → Paired F (a ++ c) (b ++ d)
  | _, _, _, _, .nil, h => h
  | _, _, _, _, .cons h t, s => .cons h (paired_app t s)
/-! ### operations by values -/
section
variable {W : Wd} {ρ : List Ent} {b : Int} {post : Rp → Int → Prop} {K : PySem.W.Frag} {x y v : V} {i j : Int} {rs qs : List Rp} {r q : Rp}
theorem o_I0 {g : Int → Int → V} (h : post (rV (g i j)) b) : Op2 W (rI0 g) (rV (.int i)) (rV (.int j)) b post := fun U σ H ρ Q u v gd hx hy k => by
  cases hx; cases hy
  exact ⟨i, j, rfl, rfl, k _ H _ b gd .refl h rfl⟩
theorem o_I {g : Int → Int → V} {C : Int → Int → Prop} (c : C i j) (h : post (rV (g i j)) b) : Op2 W (rI C g) (rV (.int i)) (rV (.int j)) b post := fun U σ H ρ Q u v gd hx hy k => by
  cases hx; cases hy
  exact ⟨i, j, rfl, rfl, c, k _ H _ b gd .refl h rfl⟩
theorem o_U {g : Int → V} (h : post (rV (g i)) b) : Op1 W (rU g) (rV (.int i)) b post := fun U σ H ρ Q u gd hx k => by
  cases hx
  exact ⟨i, rfl, k _ H _ b gd .refl h rfl⟩
theorem o_eq (e : scal x y = true) (h : post (rBl (decide (x = y))) b) : Op2 W rEq (rV x) (rV y) b post := fun U σ H ρ Q u v gd hx hy k => by
  cases hx; cases hy
  exact ⟨e, k _ H _ b gd .refl h rfl⟩
theorem o_ne (e : scal x y = true) (h : post (rBl (!decide (x = y))) b) : Op2 W rNe (rV x) (rV y) b post := fun U σ H ρ Q u v gd hx hy k => by
  cases hx; cases hy
  exact ⟨e, k _ H _ b gd .refl h rfl⟩
/-- an object, no None -/
def IsRef (r : Rp) : Prop := ∀ G v, r.is G v → ∃ a, v = .ref a
theorem ref_L : IsRef (rLst K rs) := fun G v ⟨a, _, e, _⟩ => ⟨a, e⟩
theorem ref_T : IsRef (rTup K rs) := fun G v ⟨a, _, e, _⟩ => ⟨a, e⟩
theorem ref_O {C : Addr} {fs : List (Str × Rp)} : IsRef (rObj C fs) := fun G v ⟨a, _, _, e, _⟩ => ⟨a, e⟩
theorem o_isN (h : post (rBl (decide (x = .non))) b) : Op2 W rIsN (rV x) (rV .non) b post := fun U σ H ρ Q u v gd hx hy k => by
  cases hx; cases hy
  exact ⟨rfl, k _ H _ b gd .refl h rfl⟩
theorem o_notN (h : post (rBl (!decide (x = .non))) b) : Op2 W rNotN (rV x) (rV .non) b post := fun U σ H ρ Q u v gd hx hy k => by
  cases hx; cases hy
  exact ⟨rfl, k _ H _ b gd .refl h rfl⟩
theorem o_isNR (e : IsRef r) (h : post (rBl false) b) : Op2 W rIsN r (rV .non) b post := fun U σ H ρ Q u v gd hx hy k => by
  cases hy
  obtain ⟨a, rfl⟩ := e _ _ hx
  exact ⟨rfl, k _ H _ b gd .refl h rfl⟩
theorem o_notNR (e : IsRef r) (h : post (rBl true) b) : Op2 W rNotN r (rV .non) b post := fun U σ H ρ Q u v gd hx hy k => by
  cases hy
  obtain ⟨a, rfl⟩ := e _ _ hx
  exact ⟨rfl, k _ H _ b gd .refl h rfl⟩
theorem reps_atI {G : Hp} {xs : List V} (h : Reps G xs rs) (e : atI rs i = some r) : ∃ x, atI xs i = some x ∧ r.is G x := by
  unfold atI at e ⊢
  rw [Paired.length h]
  cases z : ixN rs.length i with
  | none => rw [z] at e; cases e
  | some j =>
    rw [z] at e
    exact reps_get h e
theorem o_ixL (e : atI rs i = some r) (h : post r b) : Op2 W (rIxL K) (rLst K rs) (rV (.int i)) b post := fun U σ H ρ Q u v gd hx hy k => by
  cases hy
  obtain ⟨a, xs, rfl, sq, rp⟩ := hx
  obtain ⟨x, e1, e2⟩ := reps_atI rp e
  exact ⟨a, xs, i, x, rfl, rfl, sqL_to sq (fun o e => (vis_of e).1), e1, k _ H _ b gd .refl h e2⟩
theorem o_ixT (e : atI rs i = some r) (h : post r b) : Op2 W (rIxT K) (rTup K rs) (rV (.int i)) b post := fun U σ H ρ Q u v gd hx hy k => by
  cases hy
  obtain ⟨a, xs, rfl, sq, rp⟩ := hx
  obtain ⟨x, e1, e2⟩ := reps_atI rp e
  exact ⟨a, xs, i, x, rfl, rfl, sqT_to sq (fun o e => (vis_of e).1), e1, k _ H _ b gd .refl h e2⟩
theorem reps1 {G : Hp} {us : List V} (h : Reps G us [r]) : ∃ u, us = [u] ∧ r.is G u := by
  cases h with
  | cons z t => cases t; exact ⟨_, rfl, z⟩
theorem reps2 {G : Hp} {us : List V} (h : Reps G us [r, q]) : ∃ u v, us = [u, v] ∧ r.is G u ∧ q.is G v := by
  cases h with
  | cons z t =>
    cases t with
    | cons y t => cases t; exact ⟨_, _, rfl, z, y⟩
theorem o_lenL (h : post (rInt rs.length) b) : OpN W (Sw.rLen K) [rLst K rs] b post := fun U σ H ρ Q us gd hx k => by
  obtain ⟨u, rfl, a, xs, rfl, sq, rp⟩ := reps1 hx
  exact ⟨a, xs, rfl, .inl (sqL_to sq (fun o e => (vis_of e).1)), by rw [Paired.length rp]; exact k _ H _ b gd .refl h rfl⟩
theorem o_lenT (h : post (rInt rs.length) b) : OpN W (Sw.rLen K) [rTup K rs] b post := fun U σ H ρ Q us gd hx k => by
  obtain ⟨u, rfl, a, xs, rfl, sq, rp⟩ := reps1 hx
  exact ⟨a, xs, rfl, .inr (sqT_to sq (fun o e => (vis_of e).1)), by rw [Paired.length rp]; exact k _ H _ b gd .refl h rfl⟩
theorem o_int1 (h : post (rInt i) b) : OpN W rInt1 [rV (.int i)] b post := fun U σ H ρ Q us gd hx k => by
  obtain ⟨u, rfl, e⟩ := reps1 hx
  cases e
  exact .inl ⟨i, rfl, k _ H _ b gd .refl h rfl⟩
theorem o_int1b {c : Bool} (h : post (rInt (if c then 1 else 0)) b) : OpN W rInt1 [rV (.bl c)] b post := fun U σ H ρ Q us gd hx k => by
  obtain ⟨u, rfl, e⟩ := reps1 hx
  cases e
  exact .inr ⟨c, rfl, k _ H _ b gd .refl h rfl⟩
theorem o_bool1 (h : post (rBl (i != 0)) b) : OpN W rBool1 [rV (.int i)] b post := fun U σ H ρ Q us gd hx k => by
  obtain ⟨u, rfl, e⟩ := reps1 hx
  cases e
  exact .inl ⟨i, rfl, k _ H _ b gd .refl h rfl⟩
theorem o_bool1b {c : Bool} (h : post (rBl c) b) : OpN W rBool1 [rV (.bl c)] b post := fun U σ H ρ Q us gd hx k => by
  obtain ⟨u, rfl, e⟩ := reps1 hx
  cases e
  exact .inr ⟨c, rfl, k _ H _ b gd .refl h rfl⟩
/-- a new list, a new tuple of what stands -/
theorem new_L {U : Addr → Prop} {σ : L2.St} {H : Hp} {ρ : List Ent} {Q : VK} {xs : List V} (gd : GoodE W U σ H ρ b) (rp : Reps (vis U H) xs rs) (h : post (rLst K rs) b) (k : ∀ v H' r b', GoodE W U σ H' ρ b' → Stp W U H H' → post r b' → r.is (vis U H') v → Q v H') (p : Addr) (hp : H p = none) : Q (.ref p) (upd H p (.lst xs)) := by
  obtain ⟨nu, s2, g2⟩ := gd.new (o := .lst xs) hp
  exact k (.ref p) _ _ b g2 s2 h ⟨p, xs, rfl, SqL.of (vis_at upd_same nu), rp.mono s2.same⟩
theorem new_T {U : Addr → Prop} {σ : L2.St} {H : Hp} {ρ : List Ent} {Q : VK} {xs : List V} (gd : GoodE W U σ H ρ b) (rp : Reps (vis U H) xs rs) (h : post (rTup K rs) b) (k : ∀ v H' r b', GoodE W U σ H' ρ b' → Stp W U H H' → post r b' → r.is (vis U H') v → Q v H') (p : Addr) (hp : H p = none) : Q (.ref p) (upd H p (.tup xs)) := by
  obtain ⟨nu, s2, g2⟩ := gd.new (o := .tup xs) hp
  exact k (.ref p) _ _ b g2 s2 h ⟨p, xs, rfl, SqT.of (vis_at upd_same nu), rp.mono s2.same⟩
theorem o_listL (h : post (rLst K rs) b) : OpN W (rListOf K) [rLst K rs] b post := fun U σ H ρ Q us gd hx k => by
  obtain ⟨u, rfl, a, xs, rfl, sq, rp⟩ := reps1 hx
  exact ⟨a, xs, rfl, .inl (sqL_to sq (fun o e => (vis_of e).1)), new_L gd rp h k⟩
theorem o_listT (h : post (rLst K rs) b) : OpN W (rListOf K) [rTup K rs] b post := fun U σ H ρ Q us gd hx k => by
  obtain ⟨u, rfl, a, xs, rfl, sq, rp⟩ := reps1 hx
  exact ⟨a, xs, rfl, .inr (sqT_to sq (fun o e => (vis_of e).1)), new_L gd rp h k⟩
theorem o_tupL (h : post (rTup K rs) b) : OpN W (rTupOf K) [rLst K rs] b post := fun U σ H ρ Q us gd hx k => by
  obtain ⟨u, rfl, a, xs, rfl, sq, rp⟩ := reps1 hx
  exact ⟨a, xs, rfl, .inl ⟨sqL_to sq (fun o e => (vis_of e).1), new_T gd rp h k⟩⟩
theorem o_tupT (h : post (rTup K rs) b) : OpN W (rTupOf K) [rTup K rs] b post := fun U σ H ρ Q us gd hx k => by
  obtain ⟨u, rfl, a, xs, rfl, sq, rp⟩ := reps1 hx
  exact ⟨a, xs, rfl, .inr ⟨sqT_to sq (fun o e => (vis_of e).1), k _ H _ b gd .refl h ⟨a, xs, rfl, sq, rp⟩⟩⟩
/-! flat things -/
abbrev rVs (vs : List V) : List Rp := vs.map rV
theorem reps_vs {G : Hp} : ∀ {us vs : List V}, Reps G us (rVs vs) → us = vs
  | _, [], .nil => rfl
  | _, v :: vs, .cons h t => by
    cases (show _ = v from h)
    rw [reps_vs (vs := vs) t]
theorem vs_reps {G : Hp} : ∀ vs : List V, Reps G vs (rVs vs)
  | [] => .nil
  | v :: vs => .cons rfl (vs_reps vs)
theorem o_inL {neg : Bool} {vs : List V} (hx : flatV x = true) (ha : vs.all flatV = true) (h : post (rBl (if neg then !inV x vs else inV x vs)) b) : Op2 W (rIn K neg) (rV x) (rLst K (rVs vs)) b post := fun U σ H ρ Q u v gd ex ey k => by
  cases ex
  obtain ⟨a, xs, rfl, sq, rp⟩ := ey
  cases reps_vs rp
  exact ⟨a, _, rfl, .inl (sqL_to sq (fun o e => (vis_of e).1)), hx, ha, k _ H _ b gd .refl h rfl⟩
theorem o_inT {neg : Bool} {vs : List V} (hx : flatV x = true) (ha : vs.all flatV = true) (h : post (rBl (if neg then !inV x vs else inV x vs)) b) : Op2 W (rIn K neg) (rV x) (rTup K (rVs vs)) b post := fun U σ H ρ Q u v gd ex ey k => by
  cases ex
  obtain ⟨a, xs, rfl, sq, rp⟩ := ey
  cases reps_vs rp
  exact ⟨a, _, rfl, .inr (sqT_to sq (fun o e => (vis_of e).1)), hx, ha, k _ H _ b gd .refl h rfl⟩
theorem o_all {cs : List Bool} (h : post (rBl (cs.all id)) b) : OpN W (rAll K) [rLst K (rVs (cs.map V.bl))] b post := fun U σ H ρ Q us gd hx k => by
  obtain ⟨u, rfl, a, xs, rfl, sq, rp⟩ := reps1 hx
  cases reps_vs rp
  exact ⟨a, cs, rfl, sqL_to sq (fun o e => (vis_of e).1), k _ H _ b gd .refl h rfl⟩
theorem o_any {cs : List Bool} (h : post (rBl (cs.any id)) b) : OpN W (rAny K) [rLst K (rVs (cs.map V.bl))] b post := fun U σ H ρ Q us gd hx k => by
  obtain ⟨u, rfl, a, xs, rfl, sq, rp⟩ := reps1 hx
  cases reps_vs rp
  exact ⟨a, cs, rfl, sqL_to sq (fun o e => (vis_of e).1), k _ H _ b gd .refl h rfl⟩
/-! data -/
mutual
theorem dp_mono {G H : Hp} (s : Same G H) : ∀ {v : V} {d : PyData}, Dp K G v d → Dp K H v d
  | _, _, .non => .non
  | _, _, .bl c => .bl c
  | _, _, .int n => .int n
  | _, _, .str z => .str z
  | _, _, .lst q t => .lst (sqL_to q (s _)) (dpAll_mono s t)
  | _, _, .tup q t => .tup (sqT_to q (s _)) (dpAll_mono s t)
theorem dpAll_mono {G H : Hp} (s : Same G H) : ∀ {vs : List V} {ds : List PyData}, DpAll K G vs ds → DpAll K H vs ds
  | _, _, .nil => .nil
  | _, _, .cons h t => .cons (dp_mono s h) (dpAll_mono s t)
end
def IsD (K : PySem.W.Frag) (r : Rp) (d : PyData) : Prop := ∀ G v, r.is G v → Dp K G v d
abbrev IsDs (K : PySem.W.Frag) : List Rp → List PyData → Prop := Paired (IsD K)
theorem isds_all {G : Hp} : ∀ {vs : List V} {rs : List Rp} {ds : List PyData}, Reps G vs rs → IsDs K rs ds → DpAll K G vs ds
  | _, _, _, .nil, .nil => .nil
  | _, _, _, .cons h t, .cons e u => .cons (e _ _ h) (isds_all t u)
theorem d_non : IsD K (rV .non) .none := fun G v e => by cases e; exact .non
theorem d_bl {c : Bool} : IsD K (rV (.bl c)) (.bool c) := fun G v e => by cases e; exact .bl c
theorem d_int : IsD K (rV (.int i)) (.int i) := fun G v e => by cases e; exact .int i
theorem d_str {z : Str} : IsD K (rV (.str z)) (.str z) := fun G v e => by cases e; exact .str z
theorem d_lst {ds : List PyData} (h : IsDs K rs ds) : IsD K (rLst K rs) (.list ds) := fun G v ⟨a, xs, e, sq, rp⟩ => by cases e; exact .lst sq (isds_all rp h)
theorem d_tup {ds : List PyData} (h : IsDs K rs ds) : IsD K (rTup K rs) (.tuple ds) := fun G v ⟨a, xs, e, sq, rp⟩ => by cases e; exact .tup sq (isds_all rp h)
def dO : Option Int → PyData
  | none => .none
  | some n => .int n
theorem d_O {o : Option Int} : IsD K (rV (oV o)) (dO o) := by
  cases o
  · exact d_non
  · exact d_int
theorem d_ints : ∀ ns : List Int, IsDs K (rVs (ns.map V.int)) (ns.map PyData.int)
  | [] => .nil
  | n :: ns => .cons d_int (d_ints ns)
theorem o_eqD {d e : PyData} (hd : IsD K r d) (he : IsD K q e) (sd : SeqAt.shaped d = true) (se : SeqAt.shaped e = true) (h : post (rBl (PyData.eqv d e)) b) : Op2 W (rEqD K) r q b post := fun U σ H ρ Q u v gd hx hy k =>
  ⟨d, e, dp_mono vis_le (hd _ _ hx), dp_mono vis_le (he _ _ hy), sd, se, k _ H _ b gd .refl h rfl⟩
theorem o_neD {d e : PyData} (hd : IsD K r d) (he : IsD K q e) (sd : SeqAt.shaped d = true) (se : SeqAt.shaped e = true) (h : post (rBl (!PyData.eqv d e)) b) : Op2 W (rNeD K) r q b post := fun U σ H ρ Q u v gd hx hy k =>
  ⟨d, e, dp_mono vis_le (hd _ _ hx), dp_mono vis_le (he _ _ hy), sd, se, k _ H _ b gd .refl h rfl⟩
/-! + of lists and tuples, slices -/
theorem o_catT (hl : rs.length + qs.length ≤ 100000) (h : post (rTup K (rs ++ qs)) b) : Op2 W (rCatA K) (rTup K rs) (rTup K qs) b post := fun U σ H ρ Q u v gd hx hy k => by
  obtain ⟨a, xs, rfl, sq, rp⟩ := hx
  obtain ⟨c, ys, rfl, sq2, rp2⟩ := hy
  have rpa := paired_app rp rp2
  refine ⟨a, c, xs, ys, rfl, rfl, sqT_to sq (fun o e => (vis_of e).1), sqT_to sq2 (fun o e => (vis_of e).1), by rw [Paired.length rp, Paired.length rp2]; exact Nat.le_trans hl (by decide), fun e => ?_, fun _ e => ?_, fun _ _ => new_T gd rpa h k⟩
  · subst e
    exact k _ H _ b gd .refl h ⟨c, ys, rfl, sq2, by simpa using rpa⟩
  · subst e
    exact k _ H _ b gd .refl h ⟨a, xs, rfl, sq, by simpa using rpa⟩
end
end Dx

set_option Elab.async false
set_option linter.all false
set_option maxRecDepth 100000
set_option maxHeartbeats 4000000
/-! Dc: calls, objects, defs. -/
namespace Dx
open PySem PySem.Spec PyProof.Rows L2 Sw
open Classical
/-- which written part is meant (found by assumption) -/
structure KIs (K : PySem.W.Frag) : Prop where
  it : True
abbrev SpD := Wd → List Rp → Int → (Rp → Int → Prop) → Prop
/-- a promise about data -/
def lift (sp : SpD) : Sp := fun vs H Q _ => ∃ (W : Wd) (U : Addr → Prop) (rs : List Rp) (b : Int) (post : Rp → Int → Prop), W.J b H ∧ (∀ a, W.S a → U a) ∧ (∀ a, U a → H a ≠ none) ∧ Reps (vis U H) vs rs ∧ sp W rs b post ∧
  ∀ v H' r b', Stp W U H H' → W.J b' H' → post r b' → r.is (vis U H') v → Q v H'
theorem lift_of {W : Wd} {U : Addr → Prop} {σ : L2.St} {H : Hp} {ρ : List Ent} {b : Int} {sp : SpD} {rs : List Rp} {vs : List V} {Q : VK} {E : XK} {post : Rp → Int → Prop} (gd : GoodE W U σ H ρ b) (rp : Reps (vis U H) vs rs) (h : sp W rs b post)
    (k : ∀ v H' r b', GoodE W U σ H' ρ b' → Stp W U H H' → post r b' → r.is (vis U H') v → Q v H') : lift sp vs H Q E :=
  ⟨W, U, rs, b, post, gd.j, gd.su, gd.du, rp, h, fun v H' r b' s j q z => k v H' r b' (gd.step s j) s q z⟩
section
variable {W : Wd} {ρ : List Ent} {b : Int} {post : Rp → Int → Prop} {K : PySem.W.Frag} {ts : TA} {ta tb : TE} {sp : SpD} {E : XK} {C : Addr} {m f : Str} {fs gs : List (Str × Rp)} {r x : Rp} {rs : List Rp}
theorem e_call (h : EvA W ts ρ b fun rs b' => sp W rs b' post) : Ev W (tCR (lift sp) E ts) ρ b post := fun U σ H Q g k =>
  h U σ H _ g fun vs H1 rs b1 g1 s1 q1 r1 => lift_of g1 r1 q1 fun v H2 r b2 g2 s2 q2 r2 => k v H2 r b2 g2 (s1.trans s2) q2 r2
def MethD (W : Wd) (C : Addr) (m : Str) (sp : SpD) (ts : TA) (ρ : List Ent) (post : Rp → Int → Prop) (r : Rp) (b : Int) : Prop := ∃ fs, r = rObj C fs ∧ fs.lookup m = none ∧ EvA W ts ρ b fun rs b2 => sp W (r :: rs) b2 post
theorem e_meth (h : Ev W ta ρ b fun r b1 => MethD W C m sp ts ρ post r b1) : Ev W (tMethR C m (lift sp) E ta ts) ρ b post := fun U σ H Q g k =>
  h U σ H _ g fun v H1 r b1 g1 s1 q1 r1 => by
    obtain ⟨fs, rfl, l, q1⟩ := q1
    obtain ⟨a, dx, gs, rfl, e, fl⟩ := r1
    refine ⟨a, dx, gs, rfl, (vis_of e).1, fl.lookN l, q1 U σ H1 _ g1 fun vs H2 rs b2 g2 s2 q2 r2 => ?_⟩
    exact lift_of g2 (.cons ((rObj C fs).mono s2.same ⟨a, dx, gs, rfl, e, fl⟩) r2) q2 fun v H3 r b3 g3 s3 q3 r3 => k v H3 r b3 g3 ((s1.trans s2).trans s3) q3 r3
theorem methD (l : fs.lookup m = none) (h : EvA W ts ρ b fun rs b2 => sp W (rObj C fs :: rs) b2 post) : MethD W C m sp ts ρ post (rObj C fs) b := ⟨fs, rfl, l, h⟩
def FldD (K : PySem.W.Frag) (f : Str) (post : Rp → Int → Prop) (x : Rp) (b : Int) : Prop := ∃ C fs r, x = rObj C fs ∧ Cls K C ∧ NoAttr K C f ∧ fs.lookup f = some r ∧ post r b
theorem e_fld (h : Ev W ta ρ b (FldD K f post)) : Ev W (tFld K ta f) ρ b post := fun U σ H Q g k =>
  h U σ H _ g fun v H1 r b1 g1 s1 q1 r1 => by
    obtain ⟨C, fs, r', rfl, c, n, l, q⟩ := q1
    obtain ⟨a, dx, gs, rfl, e, fl⟩ := r1
    obtain ⟨v, l2, rv⟩ := fl.look l
    exact ⟨a, C, dx, gs, v, rfl, (vis_of e).1, c, n, l2, k v H1 r' b1 g1 s1 q rv⟩
theorem fldD (c : Cls K C) (n : NoAttr K C f) (l : fs.lookup f = some r) (h : post r b) : FldD K f post (rObj C fs) b := ⟨C, fs, r, rfl, c, n, l, h⟩
theorem o_inOwn {neg : Bool} (h : sp W [rObj C fs, x] b fun r b' => ∃ c, r = rBl c ∧ post (rBl (if neg = true then !c else c)) b') : Op2 W (rInOwn C (lift sp) E neg) x (rObj C fs) b post := fun U σ H ρ Q u v gd hx hy k => by
  obtain ⟨a, dx, gs, rfl, e, fl⟩ := id hy
  refine ⟨a, dx, gs, rfl, (vis_of e).1, lift_of gd (.cons hy (.cons hx .nil)) h fun v H3 r b3 g3 s3 q3 r3 => ?_⟩
  obtain ⟨c, rfl, q3⟩ := q3
  exact ⟨c, r3, k _ H3 _ b3 g3 s3 q3 rfl⟩
theorem o_binOwn (h : sp W [rObj C fs, rObj C gs] b post) : Op2 W (rBinOwn C (lift sp) E) (rObj C fs) (rObj C gs) b post := fun U σ H ρ Q u v gd hx hy k => by
  obtain ⟨a, dx, hs, rfl, e, fl⟩ := id hx
  obtain ⟨a', dx', hs', rfl, e', fl'⟩ := id hy
  exact ⟨a, dx, hs, a', dx', hs', rfl, rfl, (vis_of e).1, (vis_of e').1, lift_of gd (.cons hx (.cons hy .nil)) h k⟩
def TyR (K : PySem.W.Frag) (r : Rp) (t : Value) : Prop := ∀ U H v, r.is (vis U H) v → TyX K H v t
theorem ty_obj (c : Cls K C) (t : ClsTy K C) : TyR K (rObj C fs) (.ref C) := fun U H v ⟨a, dx, gs, e, h, _⟩ => by cases e; exact tyI (vis_of h).1 c t
theorem o_eqOwn {t : Value} (ty : TyR K x t) (nf : PySem.W.notFirst K C t = true) (h : sp W [rObj C fs, x] b post) : Op2 W (rOwnI K C (lift sp) E) (rObj C fs) x b post := fun U σ H ρ Q u v gd hx hy k => by
  obtain ⟨a, dx, gs, rfl, e, fl⟩ := id hx
  exact ⟨a, dx, gs, t, rfl, (vis_of e).1, ty _ _ _ hy, nf, lift_of gd (.cons hx (.cons hy .nil)) h k⟩
theorem o_isi {c : V} {t u : Value} {k : Bool} (hc : ClsV c u) (ht : TyR K r t) (e : PySem.W.kitOne K t u = some k) (h : post (rBl k) b) : OpN W (rIsi K) [r, rV c] b post := fun U σ H ρ Q us gd hx kk => by
  obtain ⟨u1, u2, rfl, h1, h2⟩ := reps2 hx
  cases h2
  exact ⟨u1, c, t, u, k, rfl, hc, ht _ _ _ h1, e, kk _ H _ b gd .refl h rfl⟩
end
/-! ### slices -/
def cutR (rs : List Rp) (lo hi : Option Int) : List Rp := (rs.drop (HT.sIx rs.length 0 lo)).take (HT.sIx rs.length rs.length hi - HT.sIx rs.length 0 lo)
theorem reps_drop {G : Hp} : ∀ {xs : List V} {rs : List Rp} (n : Nat), Reps G xs rs → Reps G (xs.drop n) (rs.drop n)
  | _, _, 0, r => r
  | _, _, _ + 1, .nil => .nil
  | _, _, n + 1, .cons _ t => reps_drop n t
theorem reps_take {G : Hp} : ∀ {xs : List V} {rs : List Rp} (n : Nat), Reps G xs rs → Reps G (xs.take n) (rs.take n)
  | _, _, 0, _ => .nil
  | _, _, _ + 1, .nil => .nil
  | _, _, n + 1, .cons r t => .cons r (reps_take n t)
theorem cut_reps {G : Hp} {xs : List V} {rs : List Rp} {lo hi : Option Int} (h : Reps G xs rs) : Reps G (cutV xs lo hi) (cutR rs lo hi) := by
  unfold cutV cutR
  rw [Paired.length h]
  exact reps_take _ (reps_drop _ h)
/-! ### truth -/
def TruR (K : PySem.W.Frag) (r : Rp) (c : Bool) : Prop := ∀ U H v, r.is (vis U H) v → TruV K v H c
section
variable {W : Wd} {ρ : List Ent} {b : Int} {K : PySem.W.Frag} {ta tb : TE} {r : Rp} {rs : List Rp} {c : Bool} {i : Int}
theorem tr_L : TruR K (rLst K rs) (!rs.isEmpty) := fun U H v ⟨a, xs, e, sq, rp⟩ => by
  cases e
  exact .inl ⟨xs, sqL_to sq (fun o e => (vis_of e).1), by cases rp <;> rfl⟩
theorem tr_T : TruR K (rTup K rs) (!rs.isEmpty) := fun U H v ⟨a, xs, e, sq, rp⟩ => by
  cases e
  exact .inr (.inl ⟨xs, sqT_to sq (fun o e => (vis_of e).1), by cases rp <;> rfl⟩)
theorem tr_N : TruR K (rV .non) false := fun U H v e => by cases e; rfl
theorem tr_B : TruR K (rV (.bl c)) c := fun U H v e => by cases e; rfl
theorem tr_I : TruR K (rV (.int i)) (i != 0) := fun U H v e => by cases e; rfl
theorem e_tru {post : Bool → Int → Prop} (h : Ev W ta ρ b fun r b' => ∃ c, TruR K r c ∧ post c b') : Et W (tTruK K ta) ρ b post := fun U σ H Q g k =>
  h U σ H _ g fun v H1 r b1 g1 s1 q1 r1 => by
    obtain ⟨c, t, q1⟩ := q1
    exact ⟨c, t _ _ _ r1, k c H1 b1 g1 s1 q1⟩
theorem e_orT {post : Rp → Int → Prop} (h : Ev W ta ρ b fun r b' => ∃ c, TruR K r c ∧ if c = true then post r b' else Ev W tb ρ b' post) : Ev W (tOrT K ta tb) ρ b post := fun U σ H Q g k =>
  h U σ H _ g fun v H1 r b1 g1 s1 q1 r1 => by
    obtain ⟨c, t, q1⟩ := q1
    refine ⟨c, t _ _ _ r1, ?_⟩
    cases c
    · exact q1 U σ H1 _ g1 fun v H2 r b2 g2 s2 h2 r2 => k v H2 r b2 g2 (s1.trans s2) h2 r2
    · exact k v H1 r b1 g1 s1 q1 r1
/-- slices -/
theorem e_slL {te : TE} {tl th : TO} {post : Rp → Int → Prop} (lo hi : Option Int) (hl : ∀ σ H Q, Q lo H → tl σ H Q) (hh : ∀ σ H Q, Q hi H → th σ H Q) (h : Ev W te ρ b fun r b' => ∃ rs, r = rLst K rs ∧ post (rLst K (cutR rs lo hi)) b') : Ev W (tSl (rSlL K) te tl th) ρ b post := fun U σ H Q g k =>
  h U σ H _ g fun v H1 r b1 g1 s1 q1 r1 => by
    obtain ⟨rs, rfl, q1⟩ := q1
    obtain ⟨a, xs, rfl, sq, rp⟩ := r1
    refine hl _ _ _ (hh _ _ _ ⟨a, xs, rfl, sqL_to sq (fun o e => (vis_of e).1), ?_⟩)
    exact new_L g1 (cut_reps rp) q1 fun v H2 r b2 g2 s2 h2 r2 => k v H2 r b2 g2 (s1.trans s2) h2 r2
end
/-! ### defs -/
def env0 (n : Nat) (rs : List Rp) : List Ent := rs.map .sh ++ List.replicate (n - rs.length) .no
theorem enter {W : Wd} {U : Addr → Prop} {H : Hp} {Q : VK} {N : List Str} {vs : List V} {rs : List Rp} {b : Int} {post : Rp → Int → Prop} {t : TS} (j : W.J b H) (su : ∀ a, W.S a → U a) (du : ∀ a, U a → H a ≠ none) (rp : Reps (vis U H) vs rs)
    (k : ∀ v H' r b', Stp W U H H' → W.J b' H' → post r b' → r.is (vis U H') v → Q v H') (h : Es W t (env0 N.length rs) b { nx := fun _ b' => post rNon b', rt := post }) : t { nx := fun _ H' => Q .non H', rt := Q } (L2.start N vs) H := by
  have no : ∀ i, ¬ owns (env0 N.length rs) i := by
    rintro i ⟨c, e⟩
    unfold env0 at e
    rw [List.getElem?_append] at e
    split at e
    · rw [List.getElem?_map] at e
      cases z : rs[i]? <;> rw [z] at e <;> cases e
    · rw [List.getElem?_replicate] at e
      split at e <;> cases e
  have eu : UU U (fun _ => 0) (env0 N.length rs) = U := funext fun a => propext ⟨fun z => z.elim id fun ⟨i, h1, _⟩ => absurd h1 (no i), .inl⟩
  have ln := Paired.length rp
  refine h U H (fun _ => 0) (L2.start N vs) H _ ⟨?_, su, du, .refl, fun i z => absurd z (no i), fun i z => absurd z (no i), fun i _ z => absurd z (no i)⟩ ⟨fun f σ H' ρ b' g s q => k .non H' rNon b' g.st g.e.j q rfl, fun v H' r b' s j q z => k v H' r b' s j q z, fun _ _ _ _ _ _ _ z => z.elim, fun _ _ _ _ _ _ _ z => z.elim, fun _ _ _ _ _ _ _ _ _ _ _ _ _ _ z => z.elim⟩
  rw [eu]
  refine ⟨j, su, du, ?_, fun i r e => ?_, fun i c e => absurd ⟨c, e⟩ (no i)⟩
  · unfold L2.start env0
    rw [List.length_append, List.length_append, List.length_map, List.length_map, List.length_replicate, List.length_replicate, ln]
  · unfold env0 at e
    rw [List.getElem?_append] at e
    split at e
    · rename_i hi
      rw [List.length_map] at hi
      rw [List.getElem?_map] at e
      cases z : rs[i]? with
      | none => rw [z] at e; cases e
      | some q =>
        rw [z] at e
        have eq : q = r := by simpa using e
        subst eq
        obtain ⟨v, h1, h2⟩ := reps_get rp z
        refine ⟨v, ?_, h2⟩
        unfold L2.start
        rw [List.getElem?_append_left (by rw [List.length_map, ln]; exact hi), List.getElem?_map, h1]
        rfl
    · rw [List.getElem?_replicate] at e
      split at e <;> cases e
section
variable {P : Program} {w : World} {K : PySem.W.Frag} {mg : Str → Option Value} {base : Heap} {x qual : Str} {st : Stmt} {ps : List Str} {f : Addr}
theorem okD {N : List Str} {k : Nat} {sp : SpD} (D : DefAt K x qual st ps f) (S : FnScope N ps (defScope st)) (len : ∀ W rs b post, sp W rs b post → rs.length = ps.length)
    (hbody : ∀ (cdv : Value) (A : Around) (outer : List Env) (s : Shared) (H : Hp) (E : XK) (W : Wd) (rs : List Rp) (b : Int) (post : Rp → Int → Prop), KIs K → Room k (A.deeper (envOfC qual (defScope st) s.heap.objs.size f cdv)) → sp W rs b post →
      ∃ t, PSs (cxOf CX0 P w K mg base N qual (defScope st) f cdv A outer s H E).nox (defBody st) t ∧ Es W t (env0 N.length rs) b { nx := fun _ b' => post rNon b', rt := post }) : FnR P w K mg base CX0 (k + 1) f (lift sp) := by
  refine D.okR S (fun vs H Q E h => ?_) (fun cdv A outer s H vs Q E hr h => ?_)
  · obtain ⟨W, U, rs, b, post, _, _, _, rp, hs, _⟩ := h
    rw [Paired.length rp]
    exact len W rs b post hs
  · obtain ⟨W, U, rs, b, post, j, su, du, rp, hs, kk⟩ := h
    obtain ⟨t, ht, he⟩ := hbody cdv A outer s H E W rs b post ⟨trivial⟩ hr hs
    exact ⟨t, ht, enter j su du rp kk he⟩
end

theorem enter2 {W : Wd} {H : Hp} {D : Ends} {σ : L2.St} {ρ : List Ent} {b : Int} {k : Ks} {t : TS} (j : W.J b H) (rp : Paired (fun (s : Option V) (e : Ent) => match e with | .no => True | .sh r => ∃ v, s = some v ∧ r.is (vis W.S H) v | .ow _ => False) σ ρ)
    (hn : ∀ f σ H' ρ b', Good W W.S H f σ H' ρ b' → k.nx ρ b' → D.nx σ H') (hr : ∀ v H' r b', k.rt r b' → r.is (vis W.S H') v → D.rt v H') (hb : ∀ ρ b, ¬ k.bk ρ b) (hc : ∀ ρ b, ¬ k.ct ρ b) (h : Es W t ρ b k) (hx : ∀ ρ b C fs, ¬ k.px ρ b C fs := by exact fun _ _ _ _ h => h) : t D σ H := by
  have get : ∀ {σ : L2.St} {ρ : List Ent} {i : Nat} {e : Ent}, Paired (fun (s : Option V) (e : Ent) => match e with | .no => True | .sh r => ∃ v, s = some v ∧ r.is (vis W.S H) v | .ow _ => False) σ ρ → ρ[i]? = some e → ∃ s, σ[i]? = some s ∧ (match e with | .no => True | .sh r => ∃ v, s = some v ∧ r.is (vis W.S H) v | .ow _ => False) := by
    intro σ ρ i e rp
    induction rp generalizing i with
    | nil => intro z; simp at z
    | cons h t ih =>
      intro z
      cases i with
      | zero => simp at z; subst z; exact ⟨_, rfl, h⟩
      | succ n =>
        obtain ⟨s, h1, h2⟩ := ih (i := n) (by simpa using z)
        exact ⟨s, by simpa using h1, h2⟩
  have no : ∀ i, ¬ owns ρ i := by
    rintro i ⟨c, e⟩
    obtain ⟨_, _, z⟩ := get rp e
    exact z
  have eu : UU W.S (fun _ => 0) ρ = W.S := funext fun a => propext ⟨fun z => z.elim id fun ⟨i, h1, _⟩ => absurd h1 (no i), .inl⟩
  refine h W.S H (fun _ => 0) σ H D ⟨?_, fun _ z => z, fun a z => W.dom j a z, .refl, fun i z => absurd z (no i), fun i z => absurd z (no i), fun i _ z => absurd z (no i)⟩ ⟨fun f σ H' ρ b' g s q => hn f σ H' ρ b' g q, fun v H' r b' s j q z => hr v H' r b' q z, fun _ _ _ _ _ _ _ z => absurd z (hb _ _), fun _ _ _ _ _ _ _ z => absurd z (hc _ _), fun _ _ _ _ _ _ _ _ _ _ _ _ _ _ z => absurd z (hx _ _ _ _)⟩
  rw [eu]
  refine ⟨j, fun _ z => z, fun a z => W.dom j a z, Paired.length rp, fun i r e => ?_, fun i c e => absurd ⟨c, e⟩ (no i)⟩
  obtain ⟨s, h1, v, rfl, h2⟩ := get rp e
  exact ⟨v, h1, h2⟩
/-! ### parts of the world -/
/-- the table of a def's code at tp turns -/
structure WTb (W : Wd) (tp : Addr) : Prop where
  s1 : W.S tp
  get : ∀ {b H}, W.J b H → GxR.TabG H tp
  put : ∀ {b H H'}, W.J b H → (∀ a, W.S a → a ≠ tp → H' a = H a) → GxR.TabG H' tp → W.J b H'
theorem WTb.kt {W : Wd} {tp : Addr} {U : Addr → Prop} {b : Int} {H H' : Hp} (w : WTb W tp) (su : ∀ a, W.S a → U a) (du : ∀ a, U a → H a ≠ none) (j : W.J b H) (k : Kt tp H H') : Stp W U H H' ∧ W.J b H' := by
  have key : ∀ a, a ≠ tp → H a ≠ none → H' a = H a := fun a n z => by
    cases e : H a with
    | none => exact absurd e z
    | some o => exact k.1 a o n e
  refine ⟨⟨fun a o e => ?_, fun a u n => key a (fun z => n (z ▸ w.s1)) (du a u)⟩, w.put j (fun a s n => key a n (du a (su a s))) k.2⟩
  obtain ⟨e1, e2⟩ := vis_of e
  exact vis_at (k.1 a o (fun z => e2 (z ▸ su tp w.s1)) e1) e2

/-! ### for the walk -/
section
variable {W : Wd} {ρ : List Ent} {b : Int} {post : Rp → Int → Prop} {K : PySem.W.Frag} {ts : TA} {ta tb : TE} {r : Rp} {rs : List Rp} {k : Ks} {i : Nat}
theorem e_lst' (hK : KIs K) (h : EvA W ts ρ b fun xs b1 => xs.length ≤ 100000 ∧ post (rLst K xs) b1) : Ev W (tLst ts) ρ b post := e_lst K h
theorem e_tup' (hK : KIs K) (h : EvA W ts ρ b fun xs b1 => xs.length ≤ 100000 ∧ post (rTup K xs) b1) : Ev W (tTup ts) ρ b post := e_tup K h
theorem e_lc' {wi : TI} {g : TG} {tt : TT} {te : TE} {vs : List Nat} (hK : KIs K) (h : EvI W wi ρ b fun rs b' => rs.length ≤ 100000 ∧ ∃ Pv, LcD W rs vs g tt te ρ b' (fun acc b2 => post (rLst K acc) b2) Pv) : Ev W (tLc wi g tt te vs) ρ b post := e_lc K h
theorem lenOk {xs : List Rp} {p : Prop} (h1 : xs.length ≤ 100000) (h2 : p) : xs.length ≤ 100000 ∧ p := ⟨h1, h2⟩
theorem s_own0 (hi : i < ρ.length) (h : k.nx (ρ.set i (.ow (oL []))) b) : Es W (tAsg (tLst tNil) (gName i)) ρ b k := s_own hi (e_nil ⟨Nat.zero_le _, h⟩)
theorem isList {p : List Rp → Prop} (h : p rs) : ∃ qs, rLst K rs = rLst K qs ∧ p qs := ⟨rs, rfl, h⟩
theorem isTup {p : List Rp → Prop} (h : p rs) : ∃ qs, rTup K rs = rTup K qs ∧ p qs := ⟨rs, rfl, h⟩
theorem yes_t {post : Bool → Int → Prop} (h : post true b) : Et W tYes ρ b post := fun U σ H Q g kk => kk true H b g .refl h
end
/-- a comprehension without draws: source xs by f, test pb, elements e -/
theorem lc_map {α : Type} {W : Wd} {vs : List Nat} {g : TG} {tt : TT} {te : TE} {ρ : List Ent} {b : Int} {done : List Rp → Int → Prop} (xs : List α) (f : α → Rp) (pb : α → Bool) (e : α → Rp)
    (ht : ∀ x ∈ xs, EgE W vs g (f x) (wipeE ρ vs) b fun ρ2 => Et W tt ρ2 b fun c b2 => c = pb x ∧ b2 = b ∧ (c = true → Ev W te ρ2 b fun y b3 => y = e x ∧ b3 = b)) (hd : done ((xs.filter pb).map e) b) :
    ∃ Pv, LcD W (xs.map f) vs g tt te ρ b done Pv := by
  refine ⟨fun j acc b' => b' = b ∧ acc = ((xs.take j).filter pb).map e, ⟨rfl, by simp⟩, ?_, ?_⟩
  · rintro j r acc b' hr _ ⟨rfl, rfl⟩
    rw [List.getElem?_map] at hr
    cases hx : xs[j]? with
    | none => rw [hx] at hr; cases hr
    | some x =>
      rw [hx] at hr
      cases hr
      obtain ⟨hlt, hxe⟩ := List.getElem?_eq_some_iff.mp hx
      have mem : x ∈ xs := by rw [← hxe]; exact List.getElem_mem hlt
      have tk : xs.take (j + 1) = xs.take j ++ [x] := by rw [List.take_succ_eq_append_getElem hlt, hxe]
      intro U σ H R v gd rv z
      refine ht x mem U σ H R v gd rv fun σ' ρ' g' w' o' p' => z σ' ρ' g' w' o' fun U2 σ2 H2 Q2 gd2 k2 => ?_
      refine p' U2 σ2 H2 Q2 gd2 fun c H3 b3 g3 s3 ⟨hc, hb, q3⟩ => k2 c H3 b3 g3 s3 ?_
      subst hc
      subst hb
      cases hp : pb x with
      | true =>
        refine Sw.ite_tt fun U4 σ4 H4 Q4 gd4 k4 => q3 hp U4 σ4 H4 Q4 gd4 fun v5 H5 r5 b5 g5 s5 ⟨e5, hb5⟩ rv5 => k4 v5 H5 r5 b5 g5 s5 ⟨hb5, ?_⟩ rv5
        rw [tk, List.filter_append, List.map_append, e5]; simp [hp]
      | false =>
        refine Sw.ite_ff ⟨rfl, ?_⟩
        rw [tk, List.filter_append, List.map_append]; simp [hp]
  · rintro acc b' _ ⟨rfl, rfl⟩
    rw [List.length_map, List.take_length]
    exact hd

/-! ### None or a number -/
theorem iteO {o : Option Int} {A B : Prop} (h1 : o = none → A) (h2 : ∀ n, o = some n → B) : if decide (oV o = V.non) = true then A else B := by
  cases o with
  | none => rw [if_pos (by simp [oV])]; exact h1 rfl
  | some n => rw [if_neg (by simp [oV])]; exact h2 n rfl
theorem iteON {o : Option Int} {A B : Prop} (h1 : o = none → B) (h2 : ∀ n, o = some n → A) : if (!decide (oV o = V.non)) = true then A else B := by
  cases o with
  | none => rw [if_neg (by simp [oV])]; exact h1 rfl
  | some n => rw [if_pos (by simp [oV])]; exact h2 n rfl

theorem op2_l {W : Wd} {b : Int} {post : Rp → Int → Prop} {r : R2} {y : Rp} {o : Option Int} {n : Int} (e : o = some n) (h : Op2 W r (rInt n) y b post) : Op2 W r (rV (oV o)) y b post := by rw [e]; exact h
theorem op2_r {W : Wd} {b : Int} {post : Rp → Int → Prop} {r : R2} {x : Rp} {o : Option Int} {n : Int} (e : o = some n) (h : Op2 W r x (rInt n) b post) : Op2 W r x (rV (oV o)) b post := by rw [e]; exact h
abbrev rIs (ns : List Int) : List Rp := rVs (ns.map V.int)
theorem rIs_map (ns : List Int) : rIs ns = ns.map rInt := by
  show (ns.map V.int).map rV = _
  rw [List.map_map]; rfl
theorem rIs_len (ns : List Int) : (rIs ns).length = ns.length := by simp [rIs, rVs]
theorem lc_ints {W : Wd} {vs : List Nat} {g : TG} {tt : TT} {te : TE} {ρ : List Ent} {b : Int} {done : List Rp → Int → Prop} {ns : List Int} (pb : Int → Bool) (e : Int → Rp)
    (ht : ∀ x ∈ ns, EgE W vs g (rInt x) (wipeE ρ vs) b fun ρ2 => Et W tt ρ2 b fun c b2 => c = pb x ∧ b2 = b ∧ (c = true → Ev W te ρ2 b fun y b3 => y = e x ∧ b3 = b)) (hd : done ((ns.filter pb).map e) b) :
    ∃ Pv, LcD W (rIs ns) vs g tt te ρ b done Pv := by
  rw [rIs_map]
  exact lc_map ns rInt pb e ht hd
theorem map_bls {α : Type} (xs : List α) (f : α → Bool) : xs.map (fun x => rBl (f x)) = rVs ((xs.map f).map V.bl) := by
  show _ = ((xs.map f).map V.bl).map rV
  rw [List.map_map, List.map_map]; rfl
theorem map_ints {α : Type} (xs : List α) (f : α → Int) : xs.map (fun x => rInt (f x)) = rIs (xs.map f) := by
  rw [rIs_map, List.map_map]; rfl
theorem map_id_ints (xs : List Int) : xs.map rInt = rIs xs := (rIs_map xs).symm
theorem filter_yes {α : Type} (xs : List α) : xs.filter (fun _ => true) = xs := List.filter_eq_self.mpr fun _ _ => rfl

/-! ### data of any shape -/
def Shp (d : PyData) (n : Nat) : Prop := PyData.canLay0 d = true ∧ PyData.depth d ≤ n
def ShpAll (ds : List PyData) (n : Nat) : Prop := PyData.canLayAll0 ds = true ∧ PyData.depthAll ds ≤ n
theorem shp_all {n : Nat} : ∀ {ds : List PyData}, (∀ d ∈ ds, Shp d n) → ShpAll ds n
  | [], _ => ⟨by simp [PyData.canLayAll0], by simp [PyData.depthAll]⟩
  | d :: ds, h => by
    obtain ⟨h1, h2⟩ := h d (List.mem_cons_self ..)
    obtain ⟨h3, h4⟩ := shp_all (ds := ds) fun e he => h e (List.mem_cons_of_mem _ he)
    refine ⟨by simp [PyData.canLayAll0, h1, h3], ?_⟩
    rw [PyData.depthAll]
    omega
theorem shp_int {i : Int} {n : Nat} : Shp (.int i) n := ⟨by simp [PyData.canLay0], by simp [PyData.depth]⟩
theorem shp_none {n : Nat} : Shp .none n := ⟨by simp [PyData.canLay0], by simp [PyData.depth]⟩
theorem shp_bool {c : Bool} {n : Nat} : Shp (.bool c) n := ⟨by simp [PyData.canLay0], by simp [PyData.depth]⟩
theorem shp_O {o : Option Int} {n : Nat} : Shp (dO o) n := by
  cases o
  · exact shp_none
  · exact shp_int
theorem shp_list {ds : List PyData} {n : Nat} (h : ∀ d ∈ ds, Shp d n) : Shp (.list ds) (n + 1) := by
  obtain ⟨h1, h2⟩ := shp_all h
  refine ⟨by rw [PyData.canLay0]; exact h1, ?_⟩
  rw [PyData.depth]
  omega
theorem shp_tup {ds : List PyData} {n : Nat} (h : ∀ d ∈ ds, Shp d n) : Shp (.tuple ds) (n + 1) := by
  obtain ⟨h1, h2⟩ := shp_all h
  refine ⟨by rw [PyData.canLay0]; exact h1, ?_⟩
  rw [PyData.depth]
  omega
theorem Shp.ok {d : PyData} {n : Nat} (h : Shp d n) (hn : n ≤ 64) : SeqAt.shaped d = true := by
  unfold SeqAt.shaped
  rw [h.1, decide_eq_true (Nat.le_trans h.2 hn)]
  rfl
theorem shp_ints {ns : List Int} {n : Nat} : ∀ d ∈ ns.map PyData.int, Shp d n := fun d hd => by
  obtain ⟨i, _, rfl⟩ := List.mem_map.mp hd
  exact shp_int
theorem all_nil {P : PyData → Prop} : ∀ d ∈ ([] : List PyData), P d := fun _ h => nomatch h
theorem all_cons {P : PyData → Prop} {d : PyData} {ds : List PyData} (h : P d) (t : ∀ e ∈ ds, P e) : ∀ e ∈ d :: ds, P e := fun e he => (List.mem_cons.mp he).elim (fun z => z ▸ h) (t e)
theorem paired_map {α β γ : Type} {F : β → γ → Prop} {f : α → β} {g : α → γ} : ∀ {xs : List α}, (∀ x ∈ xs, F (f x) (g x)) → Paired F (xs.map f) (xs.map g)
  | [], _ => .nil
  | x :: xs, h => .cons (h x (List.mem_cons_self ..)) (paired_map fun y hy => h y (List.mem_cons_of_mem _ hy))
theorem eqv_nilL (xs : List PyData) : PyData.eqv (.list xs) (.list []) = xs.isEmpty := by cases xs <;> simp [PyData.eqv, PyData.eqvAll]
/-- xs == [] -/
theorem o_nilL {W : Wd} {b : Int} {post : Rp → Int → Prop} {K : PySem.W.Frag} {rs : List Rp} {ds : List PyData} {n : Nat} (hd : IsDs K rs ds) (hs : ∀ d ∈ ds, Shp d n) (hn : n ≤ 60) (h : post (rBl rs.isEmpty) b) : Op2 W (rEqD K) (rLst K rs) (rLst K []) b post := by
  refine o_eqD (d_lst hd) (d_lst .nil) ((shp_list hs).ok (by omega)) ((shp_list (n := 0) all_nil).ok (by omega)) ?_
  rw [eqv_nilL]
  cases hd <;> exact h
theorem e_chain {W : Wd} {ρ : List Ent} {b : Int} {post : Rp → Int → Prop} {r r' : R2} {ta tb tc : TE} (h : Ev W ta ρ b fun x b1 => Ev W tb ρ b1 fun y b2 => Op2 W r x y b2 fun z b3 => ∃ k, z = rBl k ∧ if k = true then Ev W tc ρ b3 fun w b4 => Op2 W r' y w b4 post else post (rBl false) b3) :
    Ev W (tChain r r' ta tb tc) ρ b post := fun U σ H Q g kk =>
  h U σ H _ g fun u H1 x b1 g1 s1 h1 r1 => h1 U σ H1 _ g1 fun v H2 y b2 g2 s2 h2 r2 => h2 U σ H2 ρ _ u v g2 (x.mono s2.same r1) r2 fun z H3 q b3 g3 s3 h3 r3 => by
    obtain ⟨c, rfl, h3⟩ := h3
    refine ⟨c, r3, ?_⟩
    cases c
    · exact kk (.bl false) H3 _ b3 g3 ((s1.trans s2).trans s3) h3 rfl
    · exact h3 U σ H3 _ g3 fun w H4 y4 b4 g4 s4 h4 r4 => h4 U σ H4 ρ Q v w g4 (y.mono s4.same (y.mono s3.same r2)) r4 fun z5 H5 r5 b5 g5 s5 q5 rr5 => kk z5 H5 r5 b5 g5 ((((s1.trans s2).trans s3).trans s4).trans s5) q5 rr5

/-! ### isinstance of plain things -/
section
variable {K : PySem.W.Frag} {rs : List Rp}
theorem ty_tup : TyR K (rTup K rs) (.type "tuple") := fun U H v ⟨a, xs, e, q, _⟩ => by
  cases e
  rcases q with (q | ⟨o, q⟩) | ⟨o, its, n, q, c, _⟩
  · exact .base (.tup (vis_of q).1)
  · exact .fTuple (vis_of q).1
  · exact .kTuple q c
theorem ty_lst : TyR K (rLst K rs) (.type "list") := fun U H v ⟨a, xs, e, q, _⟩ => by
  cases e
  rcases q with (q | ⟨o, q⟩) | ⟨o, its, n, q, c, _⟩
  · exact .base (.lst (vis_of q).1)
  · exact .base (.frz (vis_of q).1)
  · exact .kList q c
theorem ty_int {i : Int} : TyR K (rV (.int i)) (.type "int") := fun U H v e => by cases e; exact .base (.int i)
theorem ty_bool {c : Bool} : TyR K (rV (.bl c)) (.type "bool") := fun U H v e => by cases e; exact .base (.bl c)
theorem ty_non : TyR K (rV .non) (.type "NoneType") := fun U H v e => by cases e; exact .base .non
theorem ty_str {z : Str} : TyR K (rV (.str z)) (.type "str") := fun U H v e => by cases e; exact .base (.str z)
end

theorem ite_nt {A B : Prop} (h : B) : if (!true) = true then A else B := by rw [if_neg (by decide)]; exact h
theorem ite_nf {A B : Prop} (h : A) : if (!false) = true then A else B := by rw [if_pos (by decide)]; exact h

/-! ### != by an own __eq__, bool by an own __bool__ -/
section
variable {W : Wd} {b : Int} {post : Rp → Int → Prop} {K : PySem.W.Frag} {sp : SpD} {E : XK} {C : Addr} {fs : List (Str × Rp)} {x : Rp}
theorem o_neOwn {t : Value} (ty : TyR K x t) (nf : PySem.W.notFirst K C t = true) (h : sp W [rObj C fs, x] b fun r b' => ∃ c, r = rBl c ∧ post (rBl (!c)) b') : Op2 W (rNeOwn K C (lift sp) E) (rObj C fs) x b post := fun U σ H ρ Q u v gd hx hy k => by
  obtain ⟨a, dx, gs, rfl, e, fl⟩ := id hx
  refine ⟨a, dx, gs, t, rfl, (vis_of e).1, ty _ _ _ hy, nf, lift_of gd (.cons hx (.cons hy .nil)) h fun v H3 r b3 g3 s3 q3 r3 => ?_⟩
  obtain ⟨c, rfl, q3⟩ := q3
  exact ⟨c, r3, k _ H3 _ b3 g3 s3 q3 rfl⟩
theorem o_boolOwn (h : sp W [rObj C fs] b fun r b' => ∃ c, r = rBl c ∧ post (rBl c) b') : OpN W (rBoolOwn C (lift sp) E) [rObj C fs] b post := fun U σ H ρ Q us gd hx k => by
  obtain ⟨u, rfl, hu⟩ := reps1 hx
  obtain ⟨a, dx, gs, rfl, e, fl⟩ := id hu
  refine ⟨a, dx, gs, rfl, (vis_of e).1, lift_of gd (.cons hu .nil) h fun v H3 r b3 g3 s3 q3 r3 => ?_⟩
  obtain ⟨c, rfl, q3⟩ := q3
  exact ⟨c, r3, k _ H3 _ b3 g3 s3 q3 rfl⟩
end
/-! ### lists that a slot alone holds, made by calls -/
section
variable {W : Wd} {ρ : List Ent} {b : Int} {k : Ks} {K : PySem.W.Frag} {te ta tb : TE} {ts : TA} {i : Nat} {rs qs : List Rp}
/-- te makes a new list -/
def EvF (W : Wd) (te : TE) (ρ : List Ent) (b : Int) (post : List Rp → Int → Prop) : Prop := ∀ U σ H Q, GoodE W U σ H ρ b →
  (∀ xs rs H' b', GoodE W U σ H' ρ b' → Stp W U H H' → Reps (vis U H') xs rs → post rs b' → ∀ p, H' p = none → Q (.ref p) (upd H' p (.lst xs))) → te σ H Q
theorem s_ownF (hi : i < ρ.length) (h : EvF W te ρ b fun rs b' => k.nx (ρ.set i (.ow (oL rs))) b') : Es W (tAsg te (gName i)) ρ b k := fun U0 H0 f σ H D g e =>
  h _ σ H _ g.e fun xs rs H1 b1 g1 s1 r1 q1 p hp => by
    obtain ⟨g2, s2⟩ := (g.step s1 g1.j).own (i := i) (c := oL rs) (o := .lst xs) hi hp ⟨xs, rfl, r1⟩
    exact e.nx _ _ _ _ b1 g2 (s1.same.trans s2) q1
theorem f_list {post : List Rp → Int → Prop} (h : Ev W te ρ b fun r b' => ∃ rs, (r = rLst K rs ∨ r = rTup K rs) ∧ post rs b') : EvF W (tCB (rListOf K) (tCons te tNil)) ρ b post := fun U σ H Q g kk =>
  h U σ H _ g fun v H1 r b1 g1 s1 q1 r1 => by
    obtain ⟨rs, hr, q1⟩ := q1
    rcases hr with rfl | rfl
    · obtain ⟨a, xs, rfl, sq, rp⟩ := r1
      exact ⟨a, xs, rfl, .inl (sqL_to sq (fun o e => (vis_of e).1)), fun p hp => kk xs rs H1 b1 g1 s1 rp q1 p hp⟩
    · obtain ⟨a, xs, rfl, sq, rp⟩ := r1
      exact ⟨a, xs, rfl, .inr (sqT_to sq (fun o e => (vis_of e).1)), fun p hp => kk xs rs H1 b1 g1 s1 rp q1 p hp⟩
theorem f_lst {post : List Rp → Int → Prop} (h : EvA W ts ρ b fun rs b' => rs.length ≤ 100000 ∧ post rs b') : EvF W (tLst ts) ρ b post := fun U σ H Q g kk =>
  h U σ H _ g fun vs H1 rs b1 g1 s1 q1 r1 => ⟨by rw [Paired.length r1]; exact Nat.le_trans q1.1 (by decide), fun p hp => kk vs rs H1 b1 g1 s1 r1 q1.2 p hp⟩
/-- x = x + ..: x's own list, read once more -/
theorem f_catOwn {post : List Rp → Int → Prop} (e : ρ[i]? = some (.ow (oL rs))) (h : EvF W tb ρ b fun qs b' => rs.length + qs.length ≤ 100000 ∧ post (rs ++ qs) b') : EvF W (tOp rCat (tVar i) tb) ρ b post := fun U σ H Q g kk => by
  obtain ⟨p, o, h1, h2, h3, h4, xs, rfl, h5⟩ := g.ow i _ e
  refine ⟨_, h1, h U σ H _ g fun ys qs H1 b1 g1 s1 r1 q1 q hq => ?_⟩
  have e1 : H1 p = some (.lst xs) := (s1.keep p h2 h3).trans h4
  obtain ⟨nu, s2, g2⟩ := g1.new (o := .lst ys) hq
  have e2 : upd H1 q (.lst ys) p = some (.lst xs) := by rw [upd_ne (ne_of_none e1 hq)]; exact e1
  refine ⟨p, q, xs, ys, rfl, rfl, e2, upd_same, ?_, fun z hz => ?_⟩
  · rw [Paired.length h5, Paired.length r1]; exact Nat.le_trans q1.1 (by decide)
  · exact kk (xs ++ ys) (rs ++ qs) _ b1 g2 (s1.trans s2) (paired_app ((h5.mono s1.same).mono s2.same) (r1.mono s2.same)) q1.2 z hz
theorem s_reverse (e : ρ[i]? = some (.ow (oL rs))) (h : k.nx (ρ.set i (.ow (oL rs.reverse))) b) : Es W (tDrop (tBM0 K "list" rReverse (tVar i))) ρ b k := fun U0 H0 f σ H D g en => by
  obtain ⟨p, o, h1, h2, h3, h4, xs, rfl, h5⟩ := g.e.ow i _ e
  have hp := g.pl i ⟨_, e⟩
  rw [h1] at hp
  cases hp
  have rev : ∀ {xs : List V} {rs : List Rp} {G : Hp}, Reps G xs rs → Reps G xs.reverse rs.reverse := by
    intro xs rs G h
    induction h with
    | nil => exact .nil
    | cons a t ih => rw [List.reverse_cons, List.reverse_cons]; exact ih.snoc a
  obtain ⟨g2, s2⟩ := g.turn (c' := oL rs.reverse) (o' := .lst xs.reverse) e ⟨_, rfl, rev h5⟩
  exact ⟨_, h1, .inl ⟨rfl, xs, SqL.of h4⟩, f i, xs, rfl, rfl, h4, en.nx _ _ _ _ b g2 s2 h⟩
end

section
variable {W : Wd} {ρ : List Ent} {b : Int} {k : Ks} {K : PySem.W.Frag} {te ti : TE} {ts : TA} {i : Nat} {rs : List Rp} {post : Rp → Int → Prop}
/-- x[j], x's own list -/
def IxOwnD (rs : List Rp) (post : Rp → Int → Prop) (x : Rp) (b : Int) : Prop := ∃ j r, x = rInt j ∧ atI rs j = some r ∧ post r b
theorem e_ixOwn (e : ρ[i]? = some (.ow (oL rs))) (h : Ev W ti ρ b (IxOwnD rs post)) : Ev W (tOp (rIxL K) (tVar i) ti) ρ b post := fun U σ H Q g kk => by
  obtain ⟨p, o, h1, h2, h3, h4, xs, rfl, h5⟩ := g.ow i _ e
  refine ⟨_, h1, h U σ H _ g fun v H1 r b1 g1 s1 q1 r1 => ?_⟩
  obtain ⟨j, r', rfl, ej, q1⟩ := q1
  cases r1
  have e1 : H1 p = some (.lst xs) := (s1.keep p h2 h3).trans h4
  obtain ⟨x, e2, e3⟩ := reps_atI (h5.mono s1.same) ej
  exact ⟨p, xs, j, x, rfl, rfl, SqL.of e1, e2, kk x H1 r' b1 g1 s1 q1 e3⟩
theorem ixOwnD {j : Int} {r : Rp} (e : atI rs j = some r) (h : post r b) : IxOwnD rs post (rV (.int j)) b := ⟨j, r, rfl, e, h⟩
theorem reps_set {G : Hp} {r : Rp} {v : V} (hv : r.is G v) : ∀ {xs : List V} {rs : List Rp} (n : Nat), Reps G xs rs → Reps G (xs.set n v) (rs.set n r)
  | _, _, _, .nil => .nil
  | _, _, 0, .cons _ t => .cons hv t
  | _, _, n + 1, .cons a t => .cons a (reps_set hv n t)
/-- x[j] = e, x's own list -/
def SetOwnD (ρ : List Ent) (i : Nat) (rs : List Rp) (r : Rp) (nx : List Ent → Int → Prop) (x : Rp) (b : Int) : Prop := ∃ j n, x = rInt j ∧ ixN rs.length j = some n ∧ nx (ρ.set i (.ow (oL (rs.set n r)))) b
theorem s_setOwn (e : ρ[i]? = some (.ow (oL rs))) (h : Ev W te ρ b fun r b1 => Ev W ti ρ b1 (SetOwnD ρ i rs r k.nx)) : Es W (tAsg te (gSub (tVar i) ti rSetL)) ρ b k := fun U0 H0 f σ H D g en =>
  h _ σ H _ g.e fun v H1 r b1 g1 s1 q1 r1 => by
    have gs := g.step s1 g1.j
    obtain ⟨p, o, h1, h2, h3, h4, xs, rfl, h5⟩ := gs.e.ow i _ e
    have hp := gs.pl i ⟨_, e⟩
    rw [h1] at hp
    cases hp
    refine ⟨_, h1, q1 _ σ H1 _ gs.e fun u H2 x b2 g2 s2 q2 r2 => ?_⟩
    obtain ⟨j, n, rfl, ej, q2⟩ := q2
    cases r2
    have gs2 := gs.step s2 g2.j
    have e1 : H2 (f i) = some (.lst xs) := (s2.keep _ h2 h3).trans h4
    obtain ⟨g3, s3⟩ := gs2.turn (c' := oL (rs.set n r)) (o' := .lst (xs.set n v)) e ⟨_, rfl, reps_set (r.mono s2.same r1) n (h5.mono s2.same)⟩
    exact ⟨f i, xs, j, n, rfl, rfl, e1, by rw [Paired.length h5]; exact ej, en.nx _ _ _ _ b2 g3 (s1.same.trans (s2.same.trans s3)) q2⟩
theorem setOwnD {j : Int} {n : Nat} {r : Rp} {nx : List Ent → Int → Prop} (e : ixN rs.length j = some n) (h : nx (ρ.set i (.ow (oL (rs.set n r)))) b) : SetOwnD ρ i rs r nx (rV (.int j)) b := ⟨j, n, rfl, e, h⟩
/-- return x, x's own list -/
theorem s_retOwn (hK : KIs K) (e : ρ[i]? = some (.ow (oL rs))) (h : k.rt (rLst K rs) b) : Es W (tRet (tVar i)) ρ b k := fun U0 H0 f σ H D g en => by
  obtain ⟨g1, s1⟩ := g.free (r := rLst K rs) e free_L
  obtain ⟨v, h1, h2⟩ := g1.e.sh i _ (by rw [List.getElem?_set_self (List.getElem?_eq_some_iff.mp e).1])
  exact ⟨v, h1, en.rt v H _ b g.st g.e.j h ((rLst K rs).mono vis_uu h2)⟩
end

theorem iteDt {p A B : Prop} [Decidable p] (h : p) (x : A) : if decide p = true then A else B := by rw [if_pos (decide_eq_true h)]; exact x
theorem iteDf {p A B : Prop} [Decidable p] (h : ¬ p) (x : B) : if decide p = true then A else B := by rw [if_neg (by rw [decide_eq_false h]; decide)]; exact x
theorem iteNt {p A B : Prop} [Decidable p] (h : p) (x : B) : if (!decide p) = true then A else B := by rw [if_neg (by rw [decide_eq_true h]; decide)]; exact x
theorem iteNf {p A B : Prop} [Decidable p] (h : ¬ p) (x : A) : if (!decide p) = true then A else B := by rw [if_pos (by rw [decide_eq_false h]; decide)]; exact x

theorem o_catL {W : Wd} {b : Int} {post : Rp → Int → Prop} {K : PySem.W.Frag} {rs qs : List Rp} (hl : rs.length + qs.length ≤ 100000) (h : post (rLst K (rs ++ qs)) b) : Op2 W (rCatL K) (rLst K rs) (rLst K qs) b post := fun U σ H ρ Q u v gd hx hy k => by
  obtain ⟨a, xs, rfl, sq, rp⟩ := hx
  obtain ⟨c, ys, rfl, sq2, rp2⟩ := hy
  exact ⟨a, c, xs, ys, rfl, rfl, sqL_to sq (fun o e => (vis_of e).1), sqL_to sq2 (fun o e => (vis_of e).1), by rw [Paired.length rp, Paired.length rp2]; exact Nat.le_trans hl (by decide), new_L gd (paired_app rp rp2) h k⟩
theorem rIs_app (xs ys : List Int) : rIs xs ++ rIs ys = rIs (xs ++ ys) := by simp [rIs, rVs]
theorem rIs_rev (xs : List Int) : (rIs xs).reverse = rIs xs.reverse := by simp [rIs, rVs]

/-- a and b, b quiet: one way -/
theorem ite_and {W : Wd} {te : TE} {ρ : List Ent} {b : Int} {post : Rp → Int → Prop} {c d : Bool} (hd : c = true → ∀ p : Rp → Int → Prop, p (rBl d) b → Ev W te ρ b p) (h : post (rBl (c && d)) b) : if c = true then Ev W te ρ b post else post (rBl false) b := by
  cases c
  · exact Sw.ite_ff h
  · exact Sw.ite_tt (hd rfl post h)
theorem ite_or {W : Wd} {te : TE} {ρ : List Ent} {b : Int} {post : Rp → Int → Prop} {c d : Bool} (hd : c = false → ∀ p : Rp → Int → Prop, p (rBl d) b → Ev W te ρ b p) (h : post (rBl (c || d)) b) : if c = true then post (rBl true) b else Ev W te ρ b post := by
  cases c
  · exact Sw.ite_ff (hd rfl post h)
  · exact Sw.ite_tt h

/-- x != e, x's own list -/
theorem e_neDOwn {W : Wd} {ρ : List Ent} {b : Int} {post : Rp → Int → Prop} {K : PySem.W.Frag} {i : Nat} {rs : List Rp} {ds : List PyData} {tb : TE} (e : ρ[i]? = some (.ow (oL rs))) (hd : IsDs K rs ds) (sd : SeqAt.shaped (.list ds) = true)
    (h : Ev W tb ρ b fun y b' => ∃ d, IsD K y d ∧ SeqAt.shaped d = true ∧ post (rBl (!PyData.eqv (.list ds) d)) b') : Ev W (tOp (rNeD K) (tVar i) tb) ρ b post := fun U σ H Q g kk => by
  obtain ⟨p, o, h1, h2, h3, h4, xs, rfl, h5⟩ := g.ow i _ e
  refine ⟨_, h1, h U σ H _ g fun v H1 r b1 g1 s1 q1 r1 => ?_⟩
  obtain ⟨d, hd2, sd2, q1⟩ := q1
  have e1 : H1 p = some (.lst xs) := (s1.keep p h2 h3).trans h4
  exact ⟨.list ds, d, .lst (SqL.of e1) (dpAll_mono vis_le (isds_all (h5.mono s1.same) hd)), dp_mono vis_le (hd2 _ _ r1), sd, sd2, kk _ H1 _ b1 g1 s1 q1 rfl⟩

theorem oneIt {r : Rp} {p : Rp → Prop} (h : p r) : ∃ x, [r] = [x] ∧ p x := ⟨r, rfl, h⟩
end Dx

set_option Elab.async false
set_option linter.all false
set_option maxRecDepth 100000
set_option maxHeartbeats 4000000
/-! De: errors in the calculus. -/
namespace Dx
open PySem PySem.Spec PyProof.Rows L2 Sw
open Classical
/-- what a def promises, with the errors that it may throw: the class, the fields -/
abbrev PX := Addr → List (Str × Rp) → Int → Prop
abbrev SpX := Wd → List Rp → Int → (Rp → Int → Prop) → PX → Prop
abbrev noX : PX := fun _ _ _ => False
def liftX (sp : SpX) : Sp := fun vs H Q E => ∃ (W : Wd) (U : Addr → Prop) (rs : List Rp) (b : Int) (post : Rp → Int → Prop) (px : PX), W.J b H ∧ (∀ a, W.S a → U a) ∧ (∀ a, U a → H a ≠ none) ∧ Reps (vis U H) vs rs ∧ sp W rs b post px ∧
  (∀ v H' r b', Stp W U H H' → W.J b' H' → post r b' → r.is (vis U H') v → Q v H') ∧
  ∀ C d gs fs H' b', Stp W U H H' → W.J b' H' → H' d = some (.xd gs) → ¬ U d → Flds (vis U H') gs fs → px C fs b' → E (.ref C) (some d) H'
/-- an expression that may throw -/
def EvX (W : Wd) (te : TE) (ρ : List Ent) (b : Int) (post : Rp → Int → Prop) (wx : WX) (px : PX) : Prop := ∀ U σ H Q, GoodE W U σ H ρ b →
  (∀ v H' r b', GoodE W U σ H' ρ b' → Stp W U H H' → post r b' → r.is (vis U H') v → Q v H') →
  (∀ C d gs fs H' b', GoodE W U σ H' ρ b' → Stp W U H H' → H' d = some (.xd gs) → ¬ U d → Flds (vis U H') gs fs → px C fs b' → wx (.ref C) (some d) σ H') → te σ H Q
/-- an expression that makes an error -/
def EvM (W : Wd) (t : L2.St → Hp → XK → Prop) (ρ : List Ent) (b : Int) (px : PX) : Prop := ∀ U σ H Q, GoodE W U σ H ρ b →
  (∀ C d gs fs H' b', GoodE W U σ H' ρ b' → Stp W U H H' → H' d = some (.xd gs) → ¬ U d → Flds (vis U H') gs fs → px C fs b' → Q (.ref C) (some d) H') → t σ H Q
section
variable {W : Wd} {U : Addr → Prop} {σ : L2.St} {H : Hp} {ρ : List Ent} {b : Int} {sp : SpX} {rs : List Rp} {vs : List V} {Q : VK} {E : XK} {post : Rp → Int → Prop} {px : PX} {ts : TA} {te : TE} {wx : WX} {k : Ks} {i : Nat} {K : PySem.W.Frag}
theorem liftX_of (gd : GoodE W U σ H ρ b) (rp : Reps (vis U H) vs rs) (h : sp W rs b post px) (kk : ∀ v H' r b', GoodE W U σ H' ρ b' → Stp W U H H' → post r b' → r.is (vis U H') v → Q v H')
    (kx : ∀ C d gs fs H' b', GoodE W U σ H' ρ b' → Stp W U H H' → H' d = some (.xd gs) → ¬ U d → Flds (vis U H') gs fs → px C fs b' → E (.ref C) (some d) H') : liftX sp vs H Q E :=
  ⟨W, U, rs, b, post, px, gd.j, gd.su, gd.du, rp, h, fun v H' r b' s j => kk v H' r b' (gd.step s j) s, fun C d gs fs H' b' s j => kx C d gs fs H' b' (gd.step s j) s⟩
/-- a call that throws nothing here -/
theorem e_callN (h : EvA W ts ρ b fun rs b' => sp W rs b' post noX) : Ev W (tCR (liftX sp) E ts) ρ b post := fun U σ H Q g k =>
  h U σ H _ g fun vs H1 rs b1 g1 s1 q1 r1 => liftX_of g1 r1 q1 (fun v H2 r b2 g2 s2 q2 r2 => k v H2 r b2 g2 (s1.trans s2) q2 r2) fun _ _ _ _ _ _ _ _ _ _ _ z => z.elim
theorem x_call (h : EvA W ts ρ b fun rs b' => sp W rs b' post px) : EvX W (tCRS (liftX sp) (WE wx) ts) ρ b post wx px := fun U σ H Q g k kx =>
  h U σ H _ g fun vs H1 rs b1 g1 s1 q1 r1 => liftX_of g1 r1 q1 (fun v H2 r b2 g2 s2 q2 r2 => k v H2 r b2 g2 (s1.trans s2) q2 r2) fun C d gs fs H2 b2 g2 s2 => kx C d gs fs H2 b2 g2 (s1.trans s2)
theorem x_of (h : Ev W te ρ b post) : EvX W te ρ b post wx px := fun U σ H Q g k _ => h U σ H Q g k
theorem s_setX (h : EvX W te ρ b (fun r b' => k.nx (ρ.set i (.sh r)) b') k.wx fun C fs b' => k.px ρ b' C fs) : Es W (tAsg te (gName i)) ρ b k := fun U0 H0 f σ H D g e =>
  h _ σ H _ g.e (fun v H1 r b1 g1 s1 q1 r1 => by
    obtain ⟨g2, s2⟩ := (g.step s1 g1.j).set (i := i) r1
    exact e.nx f _ _ _ b1 g2 (s1.same.trans s2) q1) fun C d gs fs H1 b1 g1 s1 hd nu fl p => e.ex f σ H1 ρ b1 C d gs fs (g.step s1 g1.j) s1.same hd nu fl p
theorem s_retX (h : EvX W te ρ b k.rt k.wx fun C fs b' => k.px ρ b' C fs) : Es W (tRet te) ρ b k := fun U0 H0 f σ H D g e =>
  h _ σ H _ g.e (fun v H1 r b1 g1 s1 q1 r1 => e.rt v H1 r b1 (g.step s1 g1.j).st g1.j q1 (r.mono vis_uu r1)) fun C d gs fs H1 b1 g1 s1 hd nu fl p => e.ex f σ H1 ρ b1 C d gs fs (g.step s1 g1.j) s1.same hd nu fl p
theorem s_dropX (h : EvX W te ρ b (fun _ b' => k.nx ρ b') k.wx fun C fs b' => k.px ρ b' C fs) : Es W (tDrop te) ρ b k := fun U0 H0 f σ H D g e =>
  h _ σ H _ g.e (fun v H1 r b1 g1 s1 q1 r1 => e.nx f σ H1 ρ b1 (g.step s1 g1.j) s1.same q1) fun C d gs fs H1 b1 g1 s1 hd nu fl p => e.ex f σ H1 ρ b1 C d gs fs (g.step s1 g1.j) s1.same hd nu fl p
def tRaise (wx : WX) (t : L2.St → Hp → XK → Prop) : TS := fun _ σ H => t σ H fun cls d H' => wx cls d σ H'
theorem s_raise {t : L2.St → Hp → XK → Prop} (hk : k.wx = wx) (h : EvM W t ρ b fun C fs b' => k.px ρ b' C fs) : Es W (tRaise wx t) ρ b k := hk ▸ fun U0 H0 f σ H D g e =>
  h _ σ H _ g.e fun C d gs fs H1 b1 g1 s1 hd nu fl p => e.ex f σ H1 ρ b1 C d gs fs (g.step s1 g1.j) s1.same hd nu fl p
theorem reps_flds {G : Hp} : ∀ {ns : List Str} {vs : List V} {rs : List Rp}, Reps G vs rs → ns.length = vs.length → Flds G (ns.zip vs) (ns.zip rs)
  | [], _, _, _, _ => by simp; exact .nil
  | n :: ns, _, _, .nil, e => by simp at e
  | n :: ns, _, _, .cons h t, e => .cons ⟨rfl, h⟩ (reps_flds t (by simpa using e))
theorem flds_rev {G : Hp} : ∀ {gs : List (Str × V)} {fs : List (Str × Rp)}, Flds G gs fs → Flds G gs.reverse fs.reverse := by
  intro gs fs h
  induction h with
  | nil => exact .nil
  | cons h t ih => rw [List.reverse_cons, List.reverse_cons]; exact ih.snoc h
/-- C(..), an error of the package -/
theorem m_err {C : Addr} {ns : List Str} (h : EvA W ts ρ b fun rs b' => rs.length = ns.length ∧ rs.length ≤ 1000 ∧ px C (ns.zip rs).reverse b') : EvM W (tMkO C (spErr C ns) [] ts) ρ b px := fun U σ H Q g k =>
  h U σ H _ g fun vs H1 rs b1 g1 s1 q1 r1 => by
    have ln := Paired.length r1
    refine ⟨by rw [ln]; exact q1.2.1, fun a ha => ?_⟩
    refine ⟨a, vs, by rw [List.append_nil], by rw [ln]; exact q1.1, upd_same, fun d H2 hd nd ea ed keep => ⟨rfl, d, _, ea, ed, ?_, ?_⟩⟩
    · rw [upd_ne nd] at hd
      exact hd
    · rw [upd_ne nd] at hd
      have na : ¬ U a := fun u => g1.du a u ha
      have nud : ¬ U d := fun u => g1.du d u hd
      have sm : Same (vis U H1) (vis U (upd (del H2 a) d (.xd (ns.zip vs).reverse))) := fun c o e => by
        obtain ⟨e1, e2⟩ := vis_of e
        refine vis_at ?_ e2
        have ca : c ≠ a := ne_of_none e1 ha
        rw [upd_ne (ne_of_none e1 hd), del_ne ca, keep c ca (ne_of_none e1 hd), upd_ne ca]
        exact e1
      have s2 : Stp W U H1 (upd (del H2 a) d (.xd (ns.zip vs).reverse)) := ⟨sm, fun c u _ => by
        have ca : c ≠ a := fun z => na (z ▸ u)
        have cd : c ≠ d := fun z => nud (z ▸ u)
        rw [upd_ne cd, del_ne ca, keep c ca cd, upd_ne ca]⟩
      have j2 : W.J b1 (upd (del H2 a) d (.xd (ns.zip vs).reverse)) := W.loc (fun c hc => by
        have u := g1.su c hc
        have ca : c ≠ a := fun z => na (z ▸ u)
        have cd : c ≠ d := fun z => nud (z ▸ u)
        rw [upd_ne cd, del_ne ca, keep c ca cd, upd_ne ca]) g1.j
      exact k C d _ _ _ b1 (g1.step s2 j2) (s1.trans s2) upd_same nud (flds_rev (reps_flds (r1.mono sm) (by rw [ln]; exact q1.1.symm))) q1.2.2
/-! ### the caught error -/
def rX (a d : Addr) (fs : List (Str × Rp)) : Rp := ⟨fun G v => v = .ref a ∧ ∃ gs, G d = some (.xd gs) ∧ Flds G gs fs, fun s ⟨e, gs, q, r⟩ => ⟨e, gs, s _ _ q, Flds.mono s r⟩⟩
theorem e_xf {a d C : Addr} {f : Str} (h : Ev W te ρ b fun r b' => ∃ fs r', r = rX a d fs ∧ fs.lookup f = some r' ∧ post r' b') : Ev W (tXf a (.ref C) (some d) C f te) ρ b post := fun U σ H Q g k =>
  h U σ H _ g fun v H1 r b1 g1 s1 q1 r1 => by
    obtain ⟨fs, r', rfl, l, q⟩ := q1
    obtain ⟨rfl, gs, hd, fl⟩ := r1
    obtain ⟨v, l2, rv⟩ := fl.look l
    exact ⟨rfl, rfl, d, gs, v, rfl, (vis_of hd).1, l2, k v H1 r' b1 g1 s1 q rv⟩
theorem o_isX {a d D : Addr} {fs : List (Str × Rp)} {c : V} {cv : Value} {m : Bool} (T : ExcC K D) (hc : ∀ u, RelV c u → u = cv) (e : PySem.W.kitOne K (.ref D) cv = some m) (h : post (rBl m) b) : OpN W (rIsX K a (.ref D) (some d)) [rX a d fs, rV c] b post := fun U σ H ρ Q us gd hx kk => by
  cases hx with
  | cons h1 t =>
    cases t with
    | cons h2 t =>
      cases t
      cases h2
      obtain ⟨rfl, gs, hd, _⟩ := h1
      exact ⟨D, d, gs, c, cv, m, rfl, rfl, T, (vis_of hd).1, rfl, hc, e, kk _ H _ b gd .refl h rfl⟩
end
/-! ### try -/
section
variable {W : Wd} {U0 : Addr → Prop} {H0 H : Hp} {f : Nat → Addr} {σ : L2.St} {ρ : List Ent} {b : Int} {k : Ks} {i : Nat} {K : PySem.W.Frag} {c : Value}
theorem Good.clear (g : Good W U0 H0 f σ H ρ b) : Good W U0 H0 f (σ.set i none) H (ρ.set i .no) b ∧ Same (vis (UU U0 f ρ) H) (vis (UU U0 f (ρ.set i .no)) H) := by
  have le : ∀ a, UU U0 f (ρ.set i .no) a → UU U0 f ρ a := fun a z => z.imp id fun ⟨j, h1, h2⟩ => ⟨j, (owns_no h1).1, h2⟩
  refine ⟨⟨⟨g.e.j, fun a z => .inl (g.s0 a z), fun a z => g.e.du a (le a z), by rw [List.length_set, List.length_set]; exact g.e.len, fun j r e => ?_, fun j q e => ?_⟩, g.s0, g.d0, g.st, fun j hj => g.fr j (owns_no hj).1, fun j hj => ?_, fun j k hj hk => g.inj j k (owns_no hj).1 (owns_no hk).1⟩, vis_less le⟩
  · by_cases z : i = j
    · subst z
      rw [List.getElem?_set_self'] at e
      cases y : ρ[i]? <;> rw [y] at e <;> simp at e
    · rw [List.getElem?_set_ne z] at e
      obtain ⟨v, h1, h2⟩ := g.e.sh j r e
      exact ⟨v, by rw [List.getElem?_set_ne z]; exact h1, r.mono (vis_less le) h2⟩
  · obtain ⟨y1, y2⟩ := owns_no ⟨q, e⟩
    have e' := e
    rw [List.getElem?_set_ne (fun w => y2 w.symm)] at e
    obtain ⟨p, o, z1, z2, z3, z4, z5⟩ := g.e.ow j q e
    have := g.pl j y1
    rw [z1] at this
    cases this
    exact ⟨_, o, by rw [List.getElem?_set_ne (fun w => y2 w.symm)]; exact z1, .inr ⟨j, ⟨q, e'⟩, rfl⟩, z3, z4, q.mono (vis_less le) z5⟩
  · obtain ⟨y1, y2⟩ := owns_no hj
    rw [List.getElem?_set_ne (fun w => y2 w.symm)]
    exact g.pl j y1
/-- what a clause asks of an error (the name at slot i) -/
def AsD (W : Wd) (K : PySem.W.Frag) (c : Value) (i : Nat) (ts : Addr → Value → Option Addr → TS) (k : Ks) (ρ : List Ent) (b : Int) (C : Addr) (fs : List (Str × Rp)) : Prop :=
  ∃ m, PySem.W.exmOne K (.ref C) c = some m ∧ if m = true then (∀ a d, Es W (ts a (.ref C) (some d)) (ρ.set i (.sh (rX a d fs))) b { nx := fun ρ' b' => k.nx (ρ'.set i .no) b', rt := k.rt, bk := fun ρ' b' => k.bk (ρ'.set i .no) b', ct := fun ρ' b' => k.ct (ρ'.set i .no) b' }) else k.px ρ b C fs
theorem s_tryAs {tb : WX → TS} {ts : Addr → Value → Option Addr → TS} (px : List Ent → Int → Addr → List (Str × Rp) → Prop) (hb : ∀ wx, Es W (tb wx) ρ b { k with wx := wx, px := px }) (hs : ∀ ρ' b' C fs, px ρ' b' C fs → AsD W K c i ts k ρ' b' C fs) :
    Es W (fun D σ H => tb (wAs K c i ts k.wx D) D σ H) ρ b k := fun U0 H0 f σ H D g e =>
  hb (wAs K c i ts k.wx D) U0 H0 f σ H D g ⟨e.nx, e.rt, e.bk, e.ct, fun f' σ' H' ρ' b' C d gs fs g' s' hd nu fl p => by
    obtain ⟨m, hm, q⟩ := hs ρ' b' C fs p
    refine ⟨m, hm, fun mt a na => ?_, fun mf => ?_⟩
    · rw [if_pos mt] at q
      obtain ⟨g2, s2⟩ := g'.set (i := i) (v := .ref a) (r := rX a d fs) ⟨rfl, gs, vis_at hd nu, fl⟩
      have e2 := e.from (s'.trans s2)
      refine q a d U0 H0 f' _ H' _ g2 ⟨fun f3 σ3 H3 ρ3 b3 g3 s3 q3 => ?_, e2.rt, fun f3 σ3 H3 ρ3 b3 g3 s3 q3 => ?_, fun f3 σ3 H3 ρ3 b3 g3 s3 q3 => ?_, fun _ _ _ _ _ _ _ _ _ _ _ _ _ _ z => z.elim⟩
      · obtain ⟨g4, s4⟩ := g3.clear (i := i)
        exact e2.nx f3 _ H3 _ b3 g4 (s3.trans s4) q3
      · obtain ⟨g4, s4⟩ := g3.clear (i := i)
        exact e2.bk f3 _ H3 _ b3 g4 (s3.trans s4) q3
      · obtain ⟨g4, s4⟩ := g3.clear (i := i)
        exact e2.ct f3 _ H3 _ b3 g4 (s3.trans s4) q3
    · rw [mf, if_neg Bool.false_ne_true] at q
      exact e.ex f' σ' H' ρ' b' C d gs fs g' s' hd nu fl q⟩
/-- .. without a name -/
def OnlyD (W : Wd) (K : PySem.W.Frag) (c : Value) (ts : Addr → Value → Option Addr → TS) (k : Ks) (ρ : List Ent) (b : Int) (C : Addr) (fs : List (Str × Rp)) : Prop :=
  ∃ m, PySem.W.exmOne K (.ref C) c = some m ∧ if m = true then (∀ a d, Es W (ts a (.ref C) (some d)) ρ b { nx := k.nx, rt := k.rt, bk := k.bk, ct := k.ct }) else k.px ρ b C fs
theorem s_tryOnly {tb : WX → TS} {ts : Addr → Value → Option Addr → TS} (px : List Ent → Int → Addr → List (Str × Rp) → Prop) (hb : ∀ wx, Es W (tb wx) ρ b { k with wx := wx, px := px }) (hs : ∀ ρ' b' C fs, px ρ' b' C fs → OnlyD W K c ts k ρ' b' C fs) :
    Es W (fun D σ H => tb (wOnly K c ts k.wx D) D σ H) ρ b k := fun U0 H0 f σ H D g e =>
  hb (wOnly K c ts k.wx D) U0 H0 f σ H D g ⟨e.nx, e.rt, e.bk, e.ct, fun f' σ' H' ρ' b' C d gs fs g' s' hd nu fl p => by
    obtain ⟨m, hm, q⟩ := hs ρ' b' C fs p
    refine ⟨m, hm, fun mt a na => ?_, fun mf => ?_⟩
    · rw [if_pos mt] at q
      have e2 := e.from s'
      exact q a d U0 H0 f' σ' H' D g' ⟨e2.nx, e2.rt, e2.bk, e2.ct, fun _ _ _ _ _ _ _ _ _ _ _ _ _ _ z => z.elim⟩
    · rw [mf, if_neg Bool.false_ne_true] at q
      exact e.ex f' σ' H' ρ' b' C d gs fs g' s' hd nu fl q⟩
end
/-! ### the rules, with named readings -/
def tTryAs (K : PySem.W.Frag) (c : Value) (i : Nat) (tb : WX → TS) (ts : Addr → Value → Option Addr → TS) (Wout : WX) : TS := fun D σ H => tb (wAs K c i ts Wout D) D σ H
def tTryOnly (K : PySem.W.Frag) (c : Value) (tb : WX → TS) (ts : Addr → Value → Option Addr → TS) (Wout : WX) : TS := fun D σ H => tb (wOnly K c ts Wout D) D σ H
section
variable {X : Cx} {x n : Str} {c : Value} {i : Nat} {body suite : List Stmt} {b₀ : Stmt} {np pos pos' : Pos} {tb : WX → TS} {ts : Addr → Value → Option Addr → TS} {Wout : WX}
theorem ps_tryAs (K : PySem.W.Frag) (hK : X.K = K) (hs : X.stack = X.env :: X.outer) (hf : X.env.frame = some X.env.locals) (hN : X.N.Nodup) (hi : X.N[i]? = some n) (hl : X.env.kindOf n = some .local) (hc : Names X x c) (tk : Takes X Wout)
    (hb : ∀ (wx : WX) (pn : List (Addr × Obj)) (xe : Value → Shared → Prop), Takes (X.tr pn xe) wx → PassesOwn (model X.prog X.w) X.A X.env xe → PSs (X.tr pn xe) body (tb wx))
    (hu : ∀ (a : Addr) (oe : Obj) (cls : Value) (d : Option Addr) (pn : List (Addr × Obj)), Zc cls d oe → (∃ vs, oe.data = .fields vs) → PSs (X.suite a ((a, oe) :: pn)) (b₀ :: suite) (ts a cls d)) :
    PS X (.Try body [.ExceptHandler (some (.Name x np)) (some n) (b₀ :: suite) pos'] [] [] pos) (tTryAs K c i tb ts Wout) := hK ▸ ps_try_as hs hf hN hi hl hc tk hb hu
theorem ps_tryOnly (K : PySem.W.Frag) (hK : X.K = K) (hs : X.stack = X.env :: X.outer) (hf : X.env.frame = some X.env.locals) (hc : Names X x c) (tk : Takes X Wout)
    (hb : ∀ (wx : WX) (pn : List (Addr × Obj)) (xe : Value → Shared → Prop), Takes (X.tr pn xe) wx → PassesOwn (model X.prog X.w) X.A X.env xe → PSs (X.tr pn xe) body (tb wx))
    (hu : ∀ (a : Addr) (oe : Obj) (cls : Value) (d : Option Addr) (pn : List (Addr × Obj)), Zc cls d oe → (∃ vs, oe.data = .fields vs) → PSs (X.suite a ((a, oe) :: pn)) (b₀ :: suite) (ts a cls d)) :
    PS X (.Try body [.ExceptHandler (some (.Name x np)) none (b₀ :: suite) pos'] [] [] pos) (tTryOnly K c tb ts Wout) := hK ▸ ps_try_only hs hf hc tk hb hu
theorem ps_raiseT {wx : WX} {e : Expr} {t : L2.St → Hp → XK → Prop} (hc : X.calm = true) (tk : Takes X wx) (he : PMk X e t) : PS X (.Raise (some e) none pos) (tRaise wx t) := ps_raise hc tk he
theorem cr_isXK (K : PySem.W.Frag) {a : Addr} {cls : Value} {d : Option Addr} {oe : Obj} {pn : List (Addr × Obj)} (hz : Zc cls d oe) (hf : ∃ vs, oe.data = .fields vs) (hK : X.K = K := by rfl) : CallR (X.suite a ((a, oe) :: pn)) (.builtin "isinstance") (rIsX K a cls d) := hK ▸ cr_isX hz hf
end
section
variable {W : Wd} {ρ : List Ent} {b : Int} {k : Ks} {i : Nat} {K : PySem.W.Frag} {c : Value} {tb : WX → TS} {ts : Addr → Value → Option Addr → TS}
theorem s_tryA {wx0 : WX} (hk : k.wx = wx0) (px : List Ent → Int → Addr → List (Str × Rp) → Prop) (hb : ∀ wx, Es W (tb wx) ρ b { k with wx := wx, px := px }) (hs : ∀ ρ' b' C fs, px ρ' b' C fs → AsD W K c i ts k ρ' b' C fs) : Es W (tTryAs K c i tb ts wx0) ρ b k := hk ▸ s_tryAs px hb hs
theorem s_tryO {wx0 : WX} (hk : k.wx = wx0) (px : List Ent → Int → Addr → List (Str × Rp) → Prop) (hb : ∀ wx, Es W (tb wx) ρ b { k with wx := wx, px := px }) (hs : ∀ ρ' b' C fs, px ρ' b' C fs → OnlyD W K c ts k ρ' b' C fs) : Es W (tTryOnly K c tb ts wx0) ρ b k := hk ▸ s_tryOnly px hb hs
/-- a try around which nothing is let out -/
theorem s_tryA0 (px : List Ent → Int → Addr → List (Str × Rp) → Prop) (hb : ∀ wx, Es W (tb wx) ρ b { nx := k.nx, rt := k.rt, bk := k.bk, ct := k.ct, wx := wx, px := px }) (hs : ∀ ρ' b' C fs, px ρ' b' C fs → AsD W K c i ts { nx := k.nx, rt := k.rt, bk := k.bk, ct := k.ct, wx := fun _ _ _ _ => False } ρ' b' C fs) : Es W (tTryAs K c i tb ts fun _ _ _ _ => False) ρ b k := fun U0 H0 f σ H D g e =>
  s_tryAs (k := { nx := k.nx, rt := k.rt, bk := k.bk, ct := k.ct, wx := fun _ _ _ _ => False }) px hb hs U0 H0 f σ H D g ⟨e.nx, e.rt, e.bk, e.ct, fun _ _ _ _ _ _ _ _ _ _ _ _ _ _ z => z.elim⟩
theorem s_tryO0 (px : List Ent → Int → Addr → List (Str × Rp) → Prop) (hb : ∀ wx, Es W (tb wx) ρ b { nx := k.nx, rt := k.rt, bk := k.bk, ct := k.ct, wx := wx, px := px }) (hs : ∀ ρ' b' C fs, px ρ' b' C fs → OnlyD W K c ts { nx := k.nx, rt := k.rt, bk := k.bk, ct := k.ct, wx := fun _ _ _ _ => False } ρ' b' C fs) : Es W (tTryOnly K c tb ts fun _ _ _ _ => False) ρ b k := fun U0 H0 f σ H D g e =>
  s_tryOnly (k := { nx := k.nx, rt := k.rt, bk := k.bk, ct := k.ct, wx := fun _ _ _ _ => False }) px hb hs U0 H0 f σ H D g ⟨e.nx, e.rt, e.bk, e.ct, fun _ _ _ _ _ _ _ _ _ _ _ _ _ _ z => z.elim⟩
end
/-! ### defs -/
theorem enterX {W : Wd} {U : Addr → Prop} {H : Hp} {Q : VK} {E : XK} {N : List Str} {vs : List V} {rs : List Rp} {b : Int} {post : Rp → Int → Prop} {px : PX} {t : TS} (j : W.J b H) (su : ∀ a, W.S a → U a) (du : ∀ a, U a → H a ≠ none) (rp : Reps (vis U H) vs rs)
    (k : ∀ v H' r b', Stp W U H H' → W.J b' H' → post r b' → r.is (vis U H') v → Q v H') (kx : ∀ C d gs fs H' b', Stp W U H H' → W.J b' H' → H' d = some (.xd gs) → ¬ U d → Flds (vis U H') gs fs → px C fs b' → E (.ref C) (some d) H')
    (h : Es W t (env0 N.length rs) b { nx := fun _ b' => post rNon b', rt := post, wx := fun cls d _ H' => E cls d H', px := fun _ b' C fs => px C fs b' }) : t { nx := fun _ H' => Q .non H', rt := Q } (L2.start N vs) H := by
  have no : ∀ i, ¬ owns (env0 N.length rs) i := by
    rintro i ⟨c, e⟩
    unfold env0 at e
    rw [List.getElem?_append] at e
    split at e
    · rw [List.getElem?_map] at e
      cases z : rs[i]? <;> rw [z] at e <;> cases e
    · rw [List.getElem?_replicate] at e
      split at e <;> cases e
  have eu : UU U (fun _ => 0) (env0 N.length rs) = U := funext fun a => propext ⟨fun z => z.elim id fun ⟨i, h1, _⟩ => absurd h1 (no i), .inl⟩
  have ln := Paired.length rp
  refine h U H (fun _ => 0) (L2.start N vs) H _ ⟨?_, su, du, .refl, fun i z => absurd z (no i), fun i z => absurd z (no i), fun i _ z => absurd z (no i)⟩ ⟨fun f σ H' ρ b' g s q => k .non H' rNon b' g.st g.e.j q rfl, fun v H' r b' s j q z => k v H' r b' s j q z, fun _ _ _ _ _ _ _ z => z.elim, fun _ _ _ _ _ _ _ z => z.elim, fun f' σ' H' ρ' b' C d gs fs g' s' hd nu fl p => kx C d gs fs H' b' g'.st g'.e.j hd (fun z => nu (.inl z)) (Flds.mono vis_uu fl) p⟩
  rw [eu]
  refine ⟨j, su, du, ?_, fun i r e => ?_, fun i c e => absurd ⟨c, e⟩ (no i)⟩
  · unfold L2.start env0
    rw [List.length_append, List.length_append, List.length_map, List.length_map, List.length_replicate, List.length_replicate, ln]
  · unfold env0 at e
    rw [List.getElem?_append] at e
    split at e
    · rename_i hi
      rw [List.length_map] at hi
      rw [List.getElem?_map] at e
      cases z : rs[i]? with
      | none => rw [z] at e; cases e
      | some q =>
        rw [z] at e
        have eq : q = r := by simpa using e
        subst eq
        obtain ⟨v, h1, h2⟩ := reps_get rp z
        refine ⟨v, ?_, h2⟩
        unfold L2.start
        rw [List.getElem?_append_left (by rw [List.length_map, ln]; exact hi), List.getElem?_map, h1]
        rfl
    · rw [List.getElem?_replicate] at e
      split at e <;> cases e
section
variable {P : Program} {w : World} {K : PySem.W.Frag} {mg : Str → Option Value} {base : Heap} {x qual : Str} {st : Stmt} {ps : List Str} {f : Addr}
/-- the def's context -/
theorem okXD {N : List Str} {k : Nat} {sp : SpX} (D : DefAt K x qual st ps f) (S : FnScope N ps (defScope st)) (len : ∀ W rs b post px, sp W rs b post px → rs.length = ps.length)
    (hbody : ∀ (cdv : Value) (A : Around) (outer : List Env) (s : Shared) (H : Hp) (E : XK) (W : Wd) (rs : List Rp) (b : Int) (post : Rp → Int → Prop) (px : PX), KIs K → Room k (A.deeper (envOfC qual (defScope st) s.heap.objs.size f cdv)) → sp W rs b post px →
      ∃ t, PSs (cxOf (L2.CX P w) P w K mg base N qual (defScope st) f cdv A outer s H E) (defBody st) t ∧ Es W t (env0 N.length rs) b { nx := fun _ b' => post rNon b', rt := post, wx := fun cls d _ H' => E cls d H', px := fun _ b' C fs => px C fs b' }) : FnR P w K mg base (L2.CX P w) (k + 1) f (liftX sp) := by
  refine D.okX S (fun vs H Q E h => ?_) (fun cdv A outer s H vs Q E hr h => ?_)
  · obtain ⟨W, U, rs, b, post, px, _, _, _, rp, hs, _⟩ := h
    rw [Paired.length rp]
    exact len W rs b post px hs
  · obtain ⟨W, U, rs, b, post, px, j, su, du, rp, hs, kk, kx⟩ := h
    obtain ⟨t, ht, he⟩ := hbody cdv A outer s H E W rs b post px ⟨trivial⟩ hr hs
    exact ⟨t, ht, enterX j su du rp kk kx he⟩
end
end Dx

set_option Elab.async false
set_option linter.all false
set_option maxRecDepth 100000
set_option maxHeartbeats 4000000
/-! Ds: texts in the calculus. -/
namespace Dx
open PySem PySem.Spec PyProof.Rows L2 Sw
open Classical
def rAddS : R2 := fun x y H Q => ∃ i j, x = .str i ∧ y = .str j ∧ i.length + j.length ≤ sizeLine ∧ Q (.str (i ++ j)) H
theorem op_addS {X : Cx} : OpR X (binaryOp .Add) rAddS := op_add_str
def rJoin (K : PySem.W.Frag) : V → List V → Hp → VK → Prop := fun x xs H Q => ∃ a p, ∃ ys : List Str, x = .str a ∧ xs = [.ref p] ∧ (SqL K H p (ys.map V.str) ∨ SqT K H p (ys.map V.str)) ∧ (ys.map (·.length)).sum + ys.length * a.length ≤ 16777216 ∧ Q (.str (Txt.join a ys)) H
theorem mt_joinK {X : Cx} (K : PySem.W.Frag) (hK : X.K = K := by rfl) : MtR X "str.join" (rJoin K) := hK ▸ mt_join
section
variable {W : Wd} {b : Int} {post : Rp → Int → Prop} {K : PySem.W.Frag} {x y : Str} {i : Int} {c : Nat}
theorem o_addS (hl : x.length + y.length ≤ 100000) (h : post (rStr (x ++ y)) b) : Op2 W rAddS (rV (.str x)) (rV (.str y)) b post := fun U σ H ρ Q u v gd hx hy k => by
  cases hx; cases hy
  exact ⟨x, y, rfl, rfl, Nat.le_trans hl (by decide), k _ H _ b gd .refl h rfl⟩
theorem o_ixS (hl : x.length ≤ 100000) (e : atI x.cps.toList i = some c) (h : post (rStr ⟨#[c]⟩) b) : Op2 W rIxS (rV (.str x)) (rV (.int i)) b post := fun U σ H ρ Q u v gd hx hy k => by
  cases hx; cases hy
  exact ⟨x, i, c, rfl, rfl, Nat.le_trans hl (by decide), e, k _ H _ b gd .refl h rfl⟩
theorem e_join {ρ : List Ent} {ta : TE} {ts : TA} (h : Ev W ta ρ b fun r b1 => ∃ z : Str, r = rStr z ∧ EvA W ts ρ b1 fun rs b2 => ∃ ys : List Str, rs = [rLst K (rVs (ys.map V.str))] ∧ (ys.map (·.length)).sum + ys.length * z.length ≤ 16777216 ∧ post (rStr (Txt.join z ys)) b2) : Ev W (tBM K "str" (rJoin K) ta ts) ρ b post := fun U σ H Q g k =>
  h U σ H _ g fun v H1 r b1 g1 s1 q1 r1 => by
    obtain ⟨z, rfl, q1⟩ := q1
    cases r1
    refine ⟨rfl, q1 U σ H1 _ g1 fun vs H2 rs b2 g2 s2 q2 r2 => ?_⟩
    obtain ⟨ys, rfl, hl, q2⟩ := q2
    cases r2 with
    | cons h1 t =>
      cases t
      obtain ⟨p, xs, rfl, sq, rp⟩ := h1
      cases reps_vs rp
      exact ⟨z, p, ys, rfl, rfl, .inl (sqL_to sq fun o e => (vis_of e).1), hl, k _ H2 _ b2 g2 (s1.trans s2) q2 rfl⟩
end
end Dx

set_option Elab.async false
set_option linter.all false
set_option maxRecDepth 100000
set_option maxHeartbeats 4000000

namespace K04
open PySem L2 Sw Dx
local macro_rules | `(tactic| walk_at "go") => `(tactic| repeat (first
  | with_reducible refine c_seq ?_
  | with_reducible refine c_asgv ?_
  | with_reducible refine c_asg ?_
  | with_reducible refine c_op ?_
  | ((with_reducible refine' c_var ?h1 ?_); (case h1 => exact rfl))
  | with_reducible refine c_c ?_
  | with_reducible refine c_I0 ?_
  | with_reducible refine c_un ?_
  | with_reducible refine c_rU ?_
  | with_reducible refine c_if ?_
  | with_reducible refine c_ret ?_
  | with_reducible refine c_retN ?_
  | with_reducible refine c_drop ?_
  | with_reducible refine c_next ?_
  | with_reducible refine c_test ?_
  | with_reducible refine c_B ?_
  | with_reducible refine c_bl ?_
  | with_reducible refine c_and ?_
  | with_reducible refine c_or ?_
  | with_reducible refine c_not ?_
  | with_reducible refine c_ifE ?_
  | with_reducible refine c_CB ?_
  | with_reducible refine c_CR ?_
  | with_reducible refine c_cons ?_
  | with_reducible refine c_nil ?_
  | with_reducible refine c_lst ?_
  | with_reducible refine c_tup ?_
  | with_reducible refine c_sub ?_
  | with_reducible refine c_fld ?_
  | with_reducible refine c_sfld ?_
  | with_reducible refine c_name ?_
  | with_reducible refine c_bm ?_
  | with_reducible refine c_make ?_
  | with_reducible refine c_andV ?_
  | with_reducible refine c_orV ?_
  | with_reducible refine c_notV ?_
  | with_reducible refine c_notB ?_
  | with_reducible refine c_tru ?_
  | with_reducible refine c_orT ?_
  | ((with_reducible refine c_eq ?h1 ?_); (case h1 => exact rfl))
  | ((with_reducible refine c_ne ?h1 ?_); (case h1 => exact rfl))
  | with_reducible refine c_lc ?_
  | with_reducible refine c_iR1 ?_
  | with_reducible refine c_iR2 ?_
  | with_reducible refine c_iL ?_
  | with_reducible refine c_iT ?_
  | with_reducible refine c_for ?_
  | with_reducible refine c_turn1 ?_
  | with_reducible refine c_turn ?_
  | ((with_reducible refine' c_ixL ?h1 ?h2 ?_); (case h1 => assumption); (case h2 => exact rfl))
  | ((with_reducible refine' c_ixT ?h1 ?h2 ?_); (case h1 => assumption); (case h2 => exact rfl))
  | ((with_reducible refine' c_I ?h1 ?_); (case h1 => first | assumption | decide | exact ⟨by decide, by decide⟩ | exact ⟨by decide, by decide, by decide⟩ | exact .inr ⟨by decide, by decide⟩ | exact .inl ⟨by decide, by decide⟩))
  | with_reducible refine c_int1 ?_
  | with_reducible refine c_int1b ?_
  | with_reducible refine c_bool1 ?_
  | with_reducible refine c_bool1b ?_
  | with_reducible refine ite_nn ?_
  | with_reducible refine ite_ni ?_
  | with_reducible refine ite_in ?_
  | with_reducible refine ite_ii ?_
  | with_reducible refine ite_tt ?_
  | with_reducible refine ite_ff ?_
  | with_reducible refine c_gcons ?_
  | with_reducible refine c_gnil ?_
  | with_reducible refine c_methR ?_
  | with_reducible refine c_tupG ?_
  | with_reducible refine c_din ?_
  | with_reducible refine c_dnotin ?_
  | with_reducible refine c_par ?_
  | with_reducible refine c_par2 ?_
  | with_reducible refine c_iR ?_
  | with_reducible refine c_isN ?_
  | with_reducible refine c_notN ?_
  | ((with_reducible refine' c_lenL ?h1 ?_); (case h1 => assumption))
  | ((with_reducible refine' c_lenT ?h1 ?_); (case h1 => assumption))))

local macro_rules | `(tactic| walk_at "d1") => `(tactic| (first
  | with_reducible refine s_seq ?_
  | ((with_reducible refine' s_own0 ?h1 ?_); (case h1 => exact Nat.le_of_ble_eq_true rfl))
  | ((with_reducible refine' s_setOwn ?h1 ?_); (case h1 => exact rfl))
  | ((with_reducible refine' s_retOwn ?h0 ?h1 ?_); (case h0 => assumption); (case h1 => exact rfl))
  | ((with_reducible refine' e_ixOwn ?h1 ?_); (case h1 => exact rfl))
  | with_reducible refine s_set ?_
  | with_reducible refine s_asg ?_
  | ((with_reducible refine' ixOwnD ?h1 ?_); (case h1 => exact rfl))
  | ((with_reducible refine' setOwnD ?h1 ?_); (case h1 => exact rfl))
  | with_reducible refine e_op ?_
  | ((with_reducible refine' e_var ?h1 ?_); (case h1 => exact rfl))
  | with_reducible refine e_c ?_
  | with_reducible refine o_I0 ?_
  | with_reducible refine e_un ?_
  | with_reducible refine o_U ?_
  | with_reducible refine s_if ?_
  | with_reducible refine s_ret ?_
  | with_reducible refine s_retN ?_
  | ((with_reducible refine' s_append ?h1 ?h2 ?_); (case h1 => exact rfl); (case h2 => first | exact Nat.le_of_ble_eq_true rfl | (rw [rIs_len]; omega) | assumption | (simp only [List.length_append, rIs_len, List.length_cons, List.length_nil]; omega)))
  | ((with_reducible refine' s_reverse ?h1 ?_); (case h1 => exact rfl))
  | with_reducible refine s_drop ?_
  | with_reducible refine s_next ?_
  | with_reducible refine s_cont ?_
  | with_reducible refine s_brk ?_
  | with_reducible refine e_test ?_
  | with_reducible refine e_B ?_
  | with_reducible refine e_bl ?_
  | with_reducible refine e_and ?_
  | with_reducible refine e_or ?_
  | with_reducible refine e_not ?_
  | with_reducible refine e_ifE ?_
  | with_reducible refine e_chain ?_
  | with_reducible refine e_andV ?_
  | with_reducible refine e_orV ?_
  | with_reducible refine e_notV ?_
  | with_reducible refine e_CB ?_
  | with_reducible refine e_call ?_
  | with_reducible refine e_cons ?_
  | with_reducible refine e_nil ?_
  | ((with_reducible refine' e_lst' ?h1 ?_); (case h1 => assumption))
  | ((with_reducible refine' e_tup' ?h1 ?_); (case h1 => assumption))
  | ((with_reducible refine' e_lc' ?h1 ?_); (case h1 => assumption))
  | ((with_reducible refine' lenOk ?h1 ?_); (case h1 => first | exact Nat.le_of_ble_eq_true rfl | assumption))
  | with_reducible refine e_fld ?_
  | with_reducible refine e_meth ?_
  | with_reducible refine e_tru ?_
  | with_reducible refine e_orT ?_
  | ((with_reducible refine' o_eq ?h1 ?_); (case h1 => exact rfl))
  | ((with_reducible refine' o_ne ?h1 ?_); (case h1 => exact rfl))
  | with_reducible refine o_isN ?_
  | with_reducible refine o_notN ?_
  | with_reducible refine o_isNR ref_L ?_
  | with_reducible refine o_isNR ref_T ?_
  | with_reducible refine o_isNR ref_O ?_
  | with_reducible refine o_notNR ref_L ?_
  | with_reducible refine o_notNR ref_T ?_
  | with_reducible refine o_notNR ref_O ?_
  | ((with_reducible refine' o_ixL ?h1 ?_); (case h1 => exact rfl))
  | ((with_reducible refine' o_ixT ?h1 ?_); (case h1 => exact rfl))
  | with_reducible refine o_lenL ?_
  | with_reducible refine o_lenT ?_
  | with_reducible refine o_int1 ?_
  | with_reducible refine o_int1b ?_
  | with_reducible refine o_bool1 ?_
  | with_reducible refine o_bool1b ?_
  | with_reducible refine o_listL ?_
  | with_reducible refine o_listT ?_
  | with_reducible refine o_tupL ?_
  | with_reducible refine o_tupT ?_
  | with_reducible refine o_all ?_
  | with_reducible refine o_any ?_
  | with_reducible refine s_for ?_
  | with_reducible refine i_list ?_
  | with_reducible refine i_tup ?_
  | with_reducible refine i_r1 ?_
  | with_reducible refine i_r2 ?_
  | with_reducible refine isList ?_
  | with_reducible refine oneIt ?_
  | with_reducible refine isTup ?_
  | with_reducible refine yes_t ?_
  | with_reducible refine g_name ?_
  | with_reducible refine g_cons ?_
  | with_reducible refine g_nil ?_
  | ((with_reducible refine' ge_name ?h1 ?_); (case h1 => decide))
  | with_reducible refine ge_cons ?_
  | with_reducible refine ge_nil ?_
  | with_reducible refine ite_nn ?_
  | with_reducible refine ite_ni ?_
  | with_reducible refine ite_in ?_
  | with_reducible refine ite_ii ?_
  | with_reducible refine ite_tt ?_
  | with_reducible refine ite_nt ?_
  | with_reducible refine ite_nf ?_
  | with_reducible refine ite_ff ?_
  | ((with_reducible refine' op2_l ?h1 ?_); (case h1 => assumption))
  | ((with_reducible refine' op2_r ?h1 ?_); (case h1 => assumption))
  | ((with_reducible refine iteDt ?h1 ?_); (case h1 => decide))
  | ((with_reducible refine iteDf ?h1 ?_); (case h1 => decide))
  | ((with_reducible refine iteNt ?h1 ?_); (case h1 => decide))
  | ((with_reducible refine iteNf ?h1 ?_); (case h1 => decide))
  | ((with_reducible refine' o_I ?h1 ?_); (case h1 => first | assumption | decide | exact ⟨by decide, by decide⟩ | exact ⟨by decide, by decide, by decide⟩ | exact .inr ⟨by decide, by decide⟩ | exact .inl ⟨by decide, by decide⟩))))
local macro_rules | `(tactic| walk_at "d") => `(tactic| repeat (walk_at "d1"))

local macro_rules | `(tactic| walk_at "d1") => `(tactic| (first
  | with_reducible refine s_setX (x_call ?_)
  | with_reducible refine s_retX (x_call ?_)
  | with_reducible refine s_dropX (x_call ?_)
  | ((with_reducible refine' s_raise ?h1 ?_); (case h1 => exact rfl))
  | with_reducible refine m_err ?_
  | with_reducible refine e_callN ?_
  | with_reducible refine e_xf ?_
  | with_reducible refine e_join ?_
  | ((with_reducible refine' o_addS ?h1 ?_); (case h1 => first | exact Nat.le_of_ble_eq_true rfl | assumption))))

def top (i : Nat) : Stmt := PySem.Challenge.pw_shownwrites_k04_region_of_sign.main.body.getD i (.Pass ⟨0, 0, 0, 0⟩)
abbrev s_least_member : Stmt := top 6
abbrev N_least_member : List Str := ["low", "holes"]
theorem sc_least_member : FnScope N_least_member ["low", "holes"] (defScope s_least_member) := ⟨rfl, rfl, rfl, by decide +kernel, rfl, by decide +kernel, by decide +kernel⟩
abbrev s_greatest_member : Stmt := top 7
abbrev N_greatest_member : List Str := ["high", "holes"]
theorem sc_greatest_member : FnScope N_greatest_member ["high", "holes"] (defScope s_greatest_member) := ⟨rfl, rfl, rfl, by decide +kernel, rfl, by decide +kernel, by decide +kernel⟩
abbrev s_inner_holes : Stmt := top 8
abbrev N_inner_holes : List Str := ["low", "high", "holes"]
theorem sc_inner_holes : FnScope N_inner_holes ["low", "high", "holes"] (defScope s_inner_holes) := ⟨rfl, rfl, rfl, by decide +kernel, rfl, by decide +kernel, by decide +kernel⟩
abbrev s_Region_init : Stmt := inClass (top 9) 0
abbrev N_Region_init : List Str := ["self", "low", "high", "without", "holes", "hole"]
theorem sc_Region_init : FnScope N_Region_init ["self", "low", "high", "without"] (defScope s_Region_init) := ⟨rfl, rfl, rfl, by decide +kernel, rfl, by decide +kernel, by decide +kernel⟩
abbrev s_Region_of : Stmt := inClass (top 9) 1
abbrev N_Region_of : List Str := ["sign", "number"]
theorem sc_Region_of : FnScope N_Region_of ["sign", "number"] (defScope s_Region_of) := ⟨rfl, rfl, rfl, by decide +kernel, rfl, by decide +kernel, by decide +kernel⟩
abbrev s_Region_contains : Stmt := inClass (top 9) 2
abbrev N_Region_contains : List Str := ["self", "number"]
theorem sc_Region_contains : FnScope N_Region_contains ["self", "number"] (defScope s_Region_contains) := ⟨rfl, rfl, rfl, by decide +kernel, rfl, by decide +kernel, by decide +kernel⟩
abbrev s_BadSign_init : Stmt := inClass (top 3) 0
abbrev N_BadSign_init : List Str := ["self", "sign"]
theorem sc_BadSign_init : FnScope N_BadSign_init ["self", "sign"] (defScope s_BadSign_init) := ⟨rfl, rfl, rfl, by decide +kernel, rfl, by decide +kernel, by decide +kernel⟩
abbrev s_start : Stmt := top 11
abbrev N_start : List Str := ["_law_script", "_law_first"]
theorem sc_start : FnScope N_start ["_law_script"] (defScope s_start) := ⟨rfl, rfl, rfl, by decide +kernel, rfl, by decide +kernel, by decide +kernel⟩
abbrev s_draw : Stmt := top 12
abbrev N_draw : List Str := ["_law_state", "_law_many", "_law_drawn", "_law_seed", "_law_mixed"]
theorem sc_draw : FnScope N_draw ["_law_state", "_law_many"] (defScope s_draw) := ⟨rfl, rfl, rfl, by decide +kernel, rfl, by decide +kernel, by decide +kernel⟩
abbrev s_number : Stmt := top 13
abbrev N_number : List Str := ["_law_state", "_law_number_here", "_law_k"]
theorem sc_number : FnScope N_number ["_law_state"] (defScope s_number) := ⟨rfl, rfl, rfl, by decide +kernel, rfl, by decide +kernel, by decide +kernel⟩
abbrev s_stands : Stmt := top 14
abbrev N_stands : List Str := ["_law_value", "_law_sign", "_law_number_here"]
theorem sc_stands : FnScope N_stands ["_law_value", "_law_sign", "_law_number_here"] (defScope s_stands) := ⟨rfl, rfl, rfl, by decide +kernel, rfl, by decide +kernel, by decide +kernel⟩
abbrev s_ends : Stmt := top 15
abbrev N_ends : List Str := ["_law_sign", "_law_number_here"]
theorem sc_ends : FnScope N_ends ["_law_sign", "_law_number_here"] (defScope s_ends) := ⟨rfl, rfl, rfl, by decide +kernel, rfl, by decide +kernel, by decide +kernel⟩
abbrev s_other : Stmt := top 16
abbrev N_other : List Str := ["_law_state", "_law_signs", "_law_kind", "_law_sign", "_law_text", "_law_k"]
theorem sc_other : FnScope N_other ["_law_state", "_law_signs"] (defScope s_other) := ⟨rfl, rfl, rfl, by decide +kernel, rfl, by decide +kernel, by decide +kernel⟩
abbrev s_refused : Stmt := top 17
abbrev N_refused : List Str := ["_law_sign", "_law_number_here", "_law_caught", "e"]
theorem sc_refused : FnScope N_refused ["_law_sign", "_law_number_here"] (defScope s_refused) := ⟨rfl, rfl, rfl, by decide +kernel, rfl, by decide +kernel, by decide +kernel⟩
abbrev s_refused_base : Stmt := top 18
abbrev N_refused_base : List Str := ["_law_sign", "_law_number_here", "_law_caught", "e"]
theorem sc_refused_base : FnScope N_refused_base ["_law_sign", "_law_number_here"] (defScope s_refused_base) := ⟨rfl, rfl, rfl, by decide +kernel, rfl, by decide +kernel, by decide +kernel⟩
abbrev s_law : Stmt := top 19
abbrev N_law : List Str := ["_law_script", "_law_state", "_law_signs", "_law_number_here", "_law_far", "_law_sign", "_law_region", "_law_value", "_law_k", "_law_wrong"]
theorem sc_law : FnScope N_law ["_law_script"] (defScope s_law) := ⟨rfl, rfl, rfl, by decide +kernel, rfl, by decide +kernel, by decide +kernel⟩
structure Ad where
  least_member : Addr
  greatest_member : Addr
  inner_holes : Addr
  Region_init : Addr
  Region_of : Addr
  Region_contains : Addr
  BadSign_init : Addr
  start : Addr
  draw : Addr
  number : Addr
  stands : Addr
  ends : Addr
  other : Addr
  refused : Addr
  refused_base : Addr
  law : Addr
  CRegion : Addr
  CShownError : Addr
  CTooFew : Addr
  CBadSign : Addr
  cd_inner_holes : Addr
  tp_inner_holes : Addr
  cv_Region_init : Value
  e0_Region_init : Addr
structure Txt (K : PySem.W.Frag) (mg : Str → Option Value) (a : Ad) : Prop where
  D_least_member : DefAt K "least_member" "least_member" s_least_member ["low", "holes"] a.least_member
  g_least_member : mg "least_member" = some (.ref a.least_member)
  D_greatest_member : DefAt K "greatest_member" "greatest_member" s_greatest_member ["high", "holes"] a.greatest_member
  g_greatest_member : mg "greatest_member" = some (.ref a.greatest_member)
  D_inner_holes : DefN K "inner_holes" "inner_holes" s_inner_holes ["low", "high", "holes"] a.inner_holes (.ref a.cd_inner_holes) [[]]
  g_inner_holes : mg "inner_holes" = some (.ref a.inner_holes)
  D_Region_init : DefN K "__init__" "Region.__init__" s_Region_init ["self", "low", "high", "without"] a.Region_init a.cv_Region_init ([0, 2, 3].map fun j => List.drop j [.non, .non, .ref a.e0_Region_init])
  E_Region_init : ∀ H, SqT K H a.e0_Region_init []
  D_Region_of : DefAt K "of" "Region.of" s_Region_of ["sign", "number"] a.Region_of
  D_Region_contains : DefAt K "__contains__" "Region.__contains__" s_Region_contains ["self", "number"] a.Region_contains
  D_BadSign_init : DefAt K "__init__" "BadSign.__init__" s_BadSign_init ["self", "sign"] a.BadSign_init
  D_start : DefAt K "_law_start" "_law_start" s_start ["_law_script"] a.start
  g_start : mg "_law_start" = some (.ref a.start)
  D_draw : DefAt K "_law_draw" "_law_draw" s_draw ["_law_state", "_law_many"] a.draw
  g_draw : mg "_law_draw" = some (.ref a.draw)
  D_number : DefAt K "_law_number" "_law_number" s_number ["_law_state"] a.number
  g_number : mg "_law_number" = some (.ref a.number)
  D_stands : DefAt K "_law_stands" "_law_stands" s_stands ["_law_value", "_law_sign", "_law_number_here"] a.stands
  g_stands : mg "_law_stands" = some (.ref a.stands)
  D_ends : DefAt K "_law_ends" "_law_ends" s_ends ["_law_sign", "_law_number_here"] a.ends
  g_ends : mg "_law_ends" = some (.ref a.ends)
  D_other : DefAt K "_law_other" "_law_other" s_other ["_law_state", "_law_signs"] a.other
  g_other : mg "_law_other" = some (.ref a.other)
  D_refused : DefAt K "_law_refused" "_law_refused" s_refused ["_law_sign", "_law_number_here"] a.refused
  g_refused : mg "_law_refused" = some (.ref a.refused)
  D_refused_base : DefAt K "_law_refused_base" "_law_refused_base" s_refused_base ["_law_sign", "_law_number_here"] a.refused_base
  g_refused_base : mg "_law_refused_base" = some (.ref a.refused_base)
  D_law : DefAt K "law" "law" s_law ["_law_script"] a.law
  g_law : mg "law" = some (.ref a.law)
  g_Region : mg "Region" = some (.ref a.CRegion)
  cl_Region : Cls K a.CRegion
  ty_Region : ClsTy K a.CRegion
  M_Region : Mk K a.CRegion a.Region_init
  na_Region_low : NoAttr K a.CRegion "low"
  na_Region_high : NoAttr K a.CRegion "high"
  na_Region_without : NoAttr K a.CRegion "without"
  na_Region_size : NoAttr K a.CRegion "size"
  na_Region_value : NoAttr K a.CRegion "value"
  c_Region_of : CFn K a.CRegion "of" a.Region_of
  ct_Region : PySem.W.findIn K (.ref a.CRegion) "__contains__" = some (some (.ref a.Region_contains))
  fc_Region : PySem.W.isFn K (.ref a.Region_contains) = true
  g_ShownError : mg "ShownError" = some (.ref a.CShownError)
  vi_ShownError : VeI K a.CShownError
  g_TooFew : mg "TooFew" = some (.ref a.CTooFew)
  g_BadSign : mg "BadSign" = some (.ref a.CBadSign)
  er_BadSign : ErrC K a.CBadSign a.BadSign_init
  na_BadSign_sign : NoAttr K a.CBadSign "sign"
  ec_BadSign : ExcC K a.CBadSign
  xf_BadSign : XfC K a.CBadSign
  xm_BB : PySem.W.exmOne K (.ref a.CBadSign) (.ref a.CBadSign) = some true
  xm_BS : PySem.W.exmOne K (.ref a.CBadSign) (.ref a.CShownError) = some true
  ki_BV : PySem.W.kitOne K (.ref a.CBadSign) (.type "ValueError") = some true
  ki_BT : PySem.W.kitOne K (.ref a.CBadSign) (.ref a.CTooFew) = some false
  ki_BB : PySem.W.kitOne K (.ref a.CBadSign) (.ref a.CBadSign) = some true
  n_len : mg "len" = none
  n_int : mg "int" = none
  n_tuple : mg "tuple" = none
  n_list : mg "list" = none
  n_range : mg "range" = none
  n_isinstance : mg "isinstance" = none
  n_sorted : mg "sorted" = none
  n_set : mg "set" = none
  n_ValueError : mg "ValueError" = none
section
variable {P : Program} {w : World} {K : PySem.W.Frag} {mg : Str → Option Value} {base : Heap} {a : Ad}
theorem none_same {H H' : Hp} {p : Addr} (s : Same H H') (e : H' p = none) : H p = none := by
  cases z : H p with
  | none => rfl
  | some o => rw [s _ _ z] at e; cases e
/-! ### least_member, greatest_member -/
def sp_least : Sp := fun vs H Q _ => ∃ (n : Int) (D : Addr) (kvs : List (Key × V)) (ks : List Int), vs = [.int n, .ref D] ∧ H D = some (.dK kvs) ∧ (∀ k : Int, (valV kvs (.inl k)).isSome = decide (k ∈ ks)) ∧
  ∀ m, n ≤ m → (∀ j, n ≤ j → j < m → j ∈ ks) → m ∉ ks → Q (.int m) H
theorem ok_least_member (T : Txt K mg a) : FnR P w K mg base CX0 1 a.least_member sp_least := by
  refine T.D_least_member.okR sc_least_member (by rintro _ _ _ _ ⟨_, _, _, _, rfl, _⟩; rfl) (fun cdv A outer s H vs Q E hr h => ?_)
  obtain ⟨n, D, kvs, ks, rfl, hD, hk, k⟩ := h
  refine ⟨_, (pss_cons (ps_while PassesOwn.never (pt_cmp (pc_din (room1 hr) (pv 0) (pv 1)))
      (pss_one (ps_set (i := 0) sc_least_member.nd rfl (Or.inl rfl) (pe_op op_add (pv 0) (pe_int)))))
      (pss_one (ps_ret (pv 0)))), ?_⟩
  walk_at "go"
  obtain ⟨top, htop, hlt⟩ := Rg.above ks n
  refine c_while (fun mz σ H' => H' = H ∧ ∃ m, σ = start N_least_member [.int m, .ref D] ∧ n ≤ m ∧ m ≤ top ∧ mz = (top - m).toNat ∧ ∀ j, n ≤ j → j < m → j ∈ ks) _ ⟨rfl, n, rfl, Int.le_refl _, htop, rfl, fun j h1 h2 => absurd h1 (by omega)⟩ ?_
  rintro mz σ _ ⟨rfl, m, rfl, h1, h1t, rfl, h2⟩
  walk_at "go"
  refine c_dinI hD ?_
  rw [hk]
  walk_at "go"
  refine iteD (fun hin => c_again ?_) fun hout => ?_
  · walk_at "go"
    have := hlt m hin
    refine ⟨_, ?_, rfl, m + 1, rfl, by omega, by omega, rfl, fun j j1 j2 => ?_⟩
    · omega
    · by_cases e : j = m
      · exact e ▸ hin
      · exact h2 j j1 (by omega)
  · walk_at "go"
    exact k m h1 h2 hout
def sp_greatest : Sp := fun vs H Q _ => ∃ (n : Int) (D : Addr) (kvs : List (Key × V)) (ks : List Int), vs = [.int n, .ref D] ∧ H D = some (.dK kvs) ∧ (∀ k : Int, (valV kvs (.inl k)).isSome = decide (k ∈ ks)) ∧
  ∀ m, m ≤ n → (∀ j, m < j → j ≤ n → j ∈ ks) → m ∉ ks → Q (.int m) H
theorem ok_greatest_member (T : Txt K mg a) : FnR P w K mg base CX0 1 a.greatest_member sp_greatest := by
  refine T.D_greatest_member.okR sc_greatest_member (by rintro _ _ _ _ ⟨_, _, _, _, rfl, _⟩; rfl) (fun cdv A outer s H vs Q E hr h => ?_)
  obtain ⟨n, D, kvs, ks, rfl, hD, hk, k⟩ := h
  refine ⟨_, (pss_cons (ps_while PassesOwn.never (pt_cmp (pc_din (room1 hr) (pv 0) (pv 1)))
      (pss_one (ps_set (i := 0) sc_greatest_member.nd rfl (Or.inl rfl) (pe_op op_sub (pv 0) (pe_int)))))
      (pss_one (ps_ret (pv 0)))), ?_⟩
  walk_at "go"
  obtain ⟨top, htop, hlt⟩ := Rg.below ks n
  refine c_while (fun mz σ H' => H' = H ∧ ∃ m, σ = start N_greatest_member [.int m, .ref D] ∧ m ≤ n ∧ top ≤ m ∧ mz = (m - top).toNat ∧ ∀ j, m < j → j ≤ n → j ∈ ks) _ ⟨rfl, n, rfl, Int.le_refl _, htop, rfl, fun j h1 h2 => absurd h1 (by omega)⟩ ?_
  rintro mz σ _ ⟨rfl, m, rfl, h1, h1t, rfl, h2⟩
  walk_at "go"
  refine c_dinI hD ?_
  rw [hk]
  walk_at "go"
  refine iteD (fun hin => c_again ?_) fun hout => ?_
  · walk_at "go"
    have := hlt m hin
    refine ⟨_, ?_, rfl, m - 1, rfl, by omega, by omega, rfl, fun j j1 j2 => ?_⟩
    · omega
    · by_cases e : j = m
      · exact e ▸ hin
      · exact h2 j (by omega) j2
  · walk_at "go"
    exact k m h1 h2 hout

/-! ### inner_holes -/
def sp_inner (K : PySem.W.Frag) (tp : Addr) : Sp := fun vs H Q _ => ∃ (lo hi : Option Int) (p : Addr) (ns : List Int), vs = [oV lo, oV hi, .ref p] ∧ SqL K H p (ns.map V.int) ∧ ns.length ≤ 63 ∧ GxR.TabG H tp ∧
  ∀ (H' : Hp) (q : Addr) (ws : List Int), Kt tp H H' → H q = none → H' q = some (.tup (ws.map V.int)) → ws.Pairwise (· < ·) → (∀ k, k ∈ ws ↔ k ∈ ns ∧ (∀ l, lo = some l → l < k) ∧ ∀ h, hi = some h → k < h) → ws.length ≤ ns.length → Q (.ref q) H'
def inB (lo hi : Option Int) (v : V) : Bool := match v with
  | .int k => (decide (oV lo = .non) || decide (lo.getD 0 < k)) && (decide (oV hi = .non) || decide (k < hi.getD 0))
  | _ => false
theorem ok_inner_holes (T : Txt K mg a) (TB : GxR.TabB base mg a.cd_inner_holes a.tp_inner_holes) : FnR P w K mg base CX0 2 a.inner_holes (sp_inner K a.tp_inner_holes) := by
  refine (T.D_inner_holes.okR (k := 1) (sp := sp_inner K a.tp_inner_holes) sc_inner_holes (by rintro _ _ _ _ ⟨_, _, _, _, rfl, _⟩; rfl) (fun A outer s H vs Q E hr h => ?_)).imp fun vs H Q E h => ⟨[], List.mem_singleton.mpr rfl, by rw [List.append_nil]; exact h⟩
  obtain ⟨lo, hi, p, ns, rfl, hp, hn, tg, k⟩ := h
  refine ⟨_, (pss_one (ps_ret (pe_tupG (tp := a.tp_inner_holes) hr TB rfl (genS_by rfl rfl rfl rfl rfl) (by rfl) T.n_tuple (pe_callB (cr_sortedSet rfl) (by rfl) T.n_sorted (by decide +kernel) (pa_cons (pe_callTy (cr_setL rfl) (by rfl) T.n_set (by decide +kernel) (pa_cons (pv 2) pa_nil)) pa_nil))))), ?_⟩
  walk_at "go"
  refine c_setOf hp (by omega) fun q c H1 _ s1 h1 hc => ?_
  walk_at "go"
  refine c_sortedSet h1 (by omega) fun r H2 ms hr2 s2 h2 hs hm hl => ?_
  have lox : ∀ {l : Int}, lo = some l → oV lo = .int l := fun e => by rw [e]; rfl
  have hix : ∀ {l : Int}, hi = some l → oV hi = .int l := fun e => by rw [e]; rfl
  refine c_genL (inB lo hi) id (SqL.of h2) ?_ (TabG_to (TabG_to tg s1) s2) (by rw [List.length_map]; omega) fun q3 H3 kt h3 n3 => ?_
  · intro pins s' I ce h0 hsc hcl hk v iv hv rv
    obtain ⟨j, hj, rfl⟩ := List.mem_map.mp hv
    obtain ⟨cl, u, e1, e2, e3⟩ := cell_of (y := "low") (i := 0) I rfl rfl rfl rfl hcl (fun c hc => by rw [← hc]; rfl) hk
    obtain ⟨cl', u', e1', e2', e3'⟩ := cell_of (y := "high") (i := 1) I rfl rfl rfl rfl hcl (fun c hc => by rw [← hc]; rfl) hk
    have hk1 : ce.scope.kind = .function := by rw [hsc]
    have nl : ce.scope.names.lookup ("low" : Str) = some .free := by rw [hsc]; rfl
    have nh : ce.scope.names.lookup ("high" : Str) = some .free := by rw [hsc]; rfl
    have nx : ce.scope.names.lookup ("hole" : Str) = some .local := by rw [hsc]; rfl
    have Ql := fun (R : Value → Prop) (hR : R u) (pp : Pos) => qe_imp (R' := R) (qe_free (pr := P) (wd := w) (p := pp) (x := "hole") (iv := iv) hk1 nl e1 e2) (fun z e => e ▸ hR)
    have Qh := fun (R : Value → Prop) (hR : R u') (pp : Pos) => qe_imp (R' := R) (qe_free (pr := P) (wd := w) (p := pp) (x := "hole") (iv := iv) hk1 nh e1' e2') (fun z e => e ▸ hR)
    have Qx := fun (pp : Pos) => qe_imp (R' := RelV (.int j)) (qe_x (pr := P) (wd := w) (h0 := h0) (p := pp) (iv := iv) hk1 nx) (fun z e => e ▸ rv)
    refine ⟨?_, fun _ => Qx _⟩
    refine (qw_and (qw_or (qt_isN (Ql _ e3 _)) fun hf => qw_or1 (qt_gt (k := lo.getD 0) (Qx _) (Ql _ ?_ _))).qt fun _ => qw_and1 (qw_or (qt_isN (Qh _ e3' _)) fun hf => qw_or1 (qt_lt (k := hi.getD 0) (Qx _) (Qh _ ?_ _))).qt).qt
    · cases lo with
      | none => exact absurd hf (by simp [oV])
      | some l => exact e3
    · cases hi with
      | none => exact absurd hf (by simp [oV])
      | some l => exact e3'
  · have ef : ((ms.map V.int).filter (inB lo hi)).map id = (ms.filter fun j => inB lo hi (.int j)).map V.int := by rw [List.map_id, List.filter_map]; rfl
    rw [ef] at h3
    refine k H3 q3 _ ((Kt.same tg (s1.trans s2)).trans kt) (none_same (s1.trans s2) n3) h3 (hs.filter _) (fun j => ?_) (Nat.le_trans (List.length_filter_le _ _) (by omega))
    rw [List.mem_filter, hm, decide_eq_true_iff]
    refine and_congr_right fun _ => ?_
    unfold inB
    cases lo <;> cases hi <;> simp [oV]

/-! ### Region(..) -/
def flds (r : Rg.Reg) (wt : Addr) : List (Str × V) := [("low", oV r.low), ("high", oV r.high), ("without", .ref wt), ("size", oV r.size), ("value", oV r.value)]
def RegAt (C : Addr) (H : Hp) (p : Addr) (r : Rg.Reg) : Prop := ∃ dx wt, H p = some (.ins C dx (flds r wt)) ∧ H wt = some (.tup (r.without.map V.int))
def RegNew (C : Addr) (H H' : Hp) (p : Addr) (r : Rg.Reg) : Prop := ∃ dx wt, H wt = none ∧ H' p = some (.ins C dx (flds r wt)) ∧ H' wt = some (.tup (r.without.map V.int))
def sp_init4 (K : PySem.W.Frag) (C tp : Addr) : Sp := fun vs H Q _ => ∃ (p dx q : Addr) (lo hi : Option Int) (hs : List Int), vs = [.ref p, oV lo, oV hi, .ref q] ∧ H p = some (.ins C dx []) ∧ SqE K H q (hs.map V.int) ∧ hs.length ≤ 63 ∧ GxR.TabG H tp ∧
  ∀ (H' : Hp) (r : Rg.Reg), (∀ b o, b ≠ tp → b ≠ p → H b = some o → H' b = some o) → GxR.TabG H' tp → RegNew C H H' p r → r.Canon → (∀ n, r.mem n = Rg.inI lo hi hs n) → r.without.length ≤ hs.length → Q .non H'
def sp_init (K : PySem.W.Frag) (C tp e0 : Addr) : Sp := fun vs H Q E => ∃ dvs ∈ ([0, 2, 3].map fun j => List.drop j [.non, .non, .ref e0]), sp_init4 K C tp (vs ++ dvs) H Q E
def St (p q D : Addr) (lo hi : Option Int) : L2.St := [some (.ref p), some (oV lo), some (oV hi), some (.ref q), some (.ref D), none]
theorem body_Region_init (T : Txt K mg a) (TB : GxR.TabB base mg a.cd_inner_holes a.tp_inner_holes) (A : Around) (outer : List Env) (s : Shared) (H : Hp) (vs : List V) (Q : VK) (E : XK) (hr : Room 2 (A.deeper (PyProof.Rows.envOfC "Region.__init__" (defScope s_Region_init) s.heap.objs.size a.Region_init a.cv_Region_init))) (h : sp_init4 K a.CRegion a.tp_inner_holes vs H Q E) :
    ∃ t, PSs (cxOf CX0 P w K mg base N_Region_init "Region.__init__" (defScope s_Region_init) a.Region_init a.cv_Region_init A outer s H E).nox (defBody s_Region_init) t ∧ t { nx := fun _ H' => Q .non H', rt := Q } (L2.start N_Region_init vs) H := by
  have G_least_member := ok_least_member (P := P) (w := w) (base := base) T
  have G_greatest_member := ok_greatest_member (P := P) (w := w) (base := base) T
  have G_inner_holes := ok_inner_holes (P := P) (w := w) T TB
  obtain ⟨p, dx, q, lo, hi, hs, rfl, hp, hq, hn, tg, k⟩ := h
  refine ⟨_, (pss_cons (ps_setDc (i := 4) (own := [("hole", 5)]) (g := gName 5) (by rfl) sc_Region_init.nd rfl rfl (dswap_true rfl rfl rfl (by decide +kernel)) (pi_seqK K (pv 3)) (blkOk_by (own := [("hole", 5)]) (N := N_Region_init) (sc := defScope s_Region_init) (by decide +kernel)) (fun _ _ _ _ _ => (pg_name (i := 5) sc_Region_init.nd rfl (Or.inl rfl))) (fun _ _ _ _ _ => pts_nil) (fun _ _ _ _ _ => (pv 5)) (fun _ _ _ _ _ => (pe_bl)))
      (Evl.pss_cut (ps_if (PW.pt (pw_and (pt_cmpR op_notN1 (pv 1) (pe_non) (nomark _)) (pw_and (pt_cmpR op_notN1 (pv 2) (pe_non) (nomark _)) (pw_and1 (pt_cmpR op_gt (pv 1) (pv 2) (nomark _))))))
      (pss_one (ps_asg (pe_tup (pa_cons (pe_int) (pa_cons (pe_int) pa_nil))) (pg_tupK K rfl (pgs_cons (pg_name (i := 1) sc_Region_init.nd rfl (Or.inl rfl)) (pgs_cons (pg_name (i := 2) sc_Region_init.nd rfl (Or.inl rfl)) pgs_nil)))))
      pss_nil)
      (Evl.pss_cut (ps_if (PW.pt (pw_and (pt_cmpR op_notN1 (pv 1) (pe_non) (nomark _)) (pw_and1 (PW.pt (pw_or (pt_cmpR op_isN1 (pv 2) (pe_non) (nomark _)) (pw_or1 (pt_cmpR op_le (pv 1) (pv 2) (nomark _))))))))
      (pss_one (ps_set (i := 1) sc_Region_init.nd rfl (Or.inl rfl) (pe_cR G_least_member (hr.mono (by decide)) (by rfl) T.g_least_member T.D_least_member.kp pass0 (pa_cons (pv 1) (pa_cons (pv 4) pa_nil)))))
      pss_nil)
      (Evl.pss_cut (ps_if (PW.pt (pw_and (pt_cmpR op_notN1 (pv 2) (pe_non) (nomark _)) (pw_and1 (PW.pt (pw_or (pt_cmpR op_isN1 (pv 1) (pe_non) (nomark _)) (pw_or1 (pt_cmpR op_le (pv 1) (pv 2) (nomark _))))))))
      (pss_one (ps_set (i := 2) sc_Region_init.nd rfl (Or.inl rfl) (pe_cR G_greatest_member (hr.mono (by decide)) (by rfl) T.g_greatest_member T.D_greatest_member.kp pass0 (pa_cons (pv 2) (pa_cons (pv 4) pa_nil)))))
      pss_nil)
      (Evl.pss_cut (ps_if (PW.pt (pw_and (pt_cmpR op_notN1 (pv 1) (pe_non) (nomark _)) (pw_and (pt_cmpR op_notN1 (pv 2) (pe_non) (nomark _)) (pw_and1 (pt_cmpR op_gt (pv 1) (pv 2) (nomark _))))))
      (pss_one (ps_asg (pe_tup (pa_cons (pe_int) (pa_cons (pe_int) pa_nil))) (pg_tupK K rfl (pgs_cons (pg_name (i := 1) sc_Region_init.nd rfl (Or.inl rfl)) (pgs_cons (pg_name (i := 2) sc_Region_init.nd rfl (Or.inl rfl)) pgs_nil)))))
      pss_nil)
      (pss_cons (ps_fldK K (pv 0) (pv 1) rfl)
      (pss_cons (ps_fldK K (pv 0) (pv 2) rfl)
      (pss_cons (ps_fldK K (pv 0) (pe_cR G_inner_holes (hr.mono (by decide)) (by rfl) T.g_inner_holes T.D_inner_holes.kp pass0 (pa_cons (pv 1) (pa_cons (pv 2) (pa_cons (pe_callTy (call_list_dK rfl) (by rfl) T.n_list (by decide +kernel) (pa_cons (pv 4) pa_nil)) pa_nil)))) rfl)
      (pss_cons (ps_fldK K (pv 0) (pe_non) rfl)
      (pss_cons (ps_fldK K (pv 0) (pe_non) rfl)
      (Evl.pss_cut (ps_if (PW.pt (pw_and (pt_cmpR op_notN1 (pv 1) (pe_non) (nomark _)) (pw_and1 (pt_cmpR op_notN1 (pv 2) (pe_non) (nomark _)))))
      (pss_one (ps_fldK K (pv 0) (pe_op op_sub (pe_op op_add (pe_op op_sub (pv 2) (pv 1)) (pe_int)) (pe_callB (cr_lenK K) (by rfl) T.n_len (by decide +kernel) (pa_cons (pe_fldK K (pv 0) rfl) pa_nil))) rfl))
      pss_nil)
      (pss_one (ps_if (pt_cmpR op_eq (pe_fldK K (pv 0) rfl) (pe_int) (nomark _))
      (pss_one (ps_fldK K (pv 0) (pv 1) rfl))
      pss_nil))))))))))))), ?_⟩
  walk_at "go"
  refine c_dcI rfl (by show (5 : Nat) < 6; decide) hq (by omega) fun D H1 kvs hD s1 h1 hk => ?_
  have hp1 : H1 p = some (.ins a.CRegion dx []) := s1 _ _ hp
  -- an end below an end is none
  refine c_cut (fun σ' H' => Same H1 H' ∧ ∃ lo1 hi1, σ' = St p q D lo1 hi1 ∧ ∀ n, Rg.inI lo1 hi1 hs n = Rg.inI lo hi hs n) ?_ ?_
  · rcases lo with _ | l <;> rcases hi with _ | h <;> simp only [oV] <;> walk_at "go"
    · exact ⟨Same.refl _, none, none, rfl, fun _ => rfl⟩
    · exact ⟨Same.refl _, none, some h, rfl, fun _ => rfl⟩
    · exact ⟨Same.refl _, some l, none, rfl, fun _ => rfl⟩
    · refine iteD (fun z => ?_) fun z => ?_
      · walk_at "go"
        refine c_newT (by decide) fun pz H1' _ sz hz => c_gtup hz rfl ?_
        walk_at "go"
        exact ⟨sz, some 1, some 0, rfl, fun n => by rw [Rg.inI_out (by omega), Rg.inI_out (by omega)]⟩
      · walk_at "go"
        exact ⟨Same.refl _, some l, some h, rfl, fun _ => rfl⟩
  rintro _ H2 ⟨s2, lo1, hi1, rfl, m1⟩
  -- the low end
  refine c_cut (fun σ' H' => Same H1 H' ∧ ∃ lo2, σ' = St p q D lo2 hi1 ∧ (∀ n, Rg.inI lo2 hi1 hs n = Rg.inI lo hi hs n) ∧ ∀ l, lo2 = some l → l ∉ hs ∨ ∃ h, hi1 = some h ∧ h < l) ?_ ?_
  · have hd2 := s2 _ _ h1
    rcases lo1 with _ | l <;> rcases hi1 with _ | h <;> simp only [oV, St] <;> walk_at "go"
    · exact ⟨s2, none, rfl, m1, fun l e => (nomatch e)⟩
    · exact ⟨s2, none, rfl, m1, fun l e => (nomatch e)⟩
    · refine ⟨l, D, kvs, hs, rfl, hd2, hk.1, fun m z1 z2 z3 => ?_⟩
      walk_at "go"
      exact ⟨s2, some m, rfl, fun n => by rw [Rg.inI_low z1 z2, m1], fun l e => by cases e; exact .inl z3⟩
    · refine iteD (fun z => ?_) fun z => ?_
      · walk_at "go"
        refine ⟨l, D, kvs, hs, rfl, hd2, hk.1, fun m z1 z2 z3 => ?_⟩
        walk_at "go"
        exact ⟨s2, some m, rfl, fun n => by rw [Rg.inI_low z1 z2, m1], fun l e => by cases e; exact .inl z3⟩
      · walk_at "go"
        exact ⟨s2, some l, rfl, m1, fun k e => by cases e; exact .inr ⟨h, rfl, by omega⟩⟩
  clear s2 H2 m1
  rintro _ H2 ⟨s2, lo2, rfl, m1, w2⟩
  -- the high end
  refine c_cut (fun σ' H' => Same H1 H' ∧ ∃ hi2, σ' = St p q D lo2 hi2 ∧ (∀ n, Rg.inI lo2 hi2 hs n = Rg.inI lo hi hs n) ∧ (∀ l, lo2 = some l → l ∉ hs ∨ ∃ h, hi2 = some h ∧ h < l) ∧ ∀ h, hi2 = some h → h ∉ hs ∨ ∃ l, lo2 = some l ∧ h < l) ?_ ?_
  · have hd2 := s2 _ _ h1
    rcases lo2 with _ | l <;> rcases hi1 with _ | h <;> simp only [oV, St] <;> walk_at "go"
    · exact ⟨s2, none, rfl, m1, w2, fun h e => (nomatch e)⟩
    · refine ⟨h, D, kvs, hs, rfl, hd2, hk.1, fun m z1 z2 z3 => ?_⟩
      walk_at "go"
      exact ⟨s2, some m, rfl, fun n => by rw [Rg.inI_high z1 z2, m1], fun l e => (nomatch e), fun h e => by cases e; exact .inl z3⟩
    · exact ⟨s2, none, rfl, m1, w2, fun h e => (nomatch e)⟩
    · refine iteD (fun z => ?_) fun z => ?_
      · walk_at "go"
        refine ⟨h, D, kvs, hs, rfl, hd2, hk.1, fun m z1 z2 z3 => ?_⟩
        walk_at "go"
        refine ⟨s2, some m, rfl, fun n => by rw [Rg.inI_high z1 z2, m1], fun k e => ?_, fun h e => by cases e; exact .inl z3⟩
        cases e
        rcases w2 l rfl with y | ⟨h', e', y⟩
        · exact .inl y
        · cases e'; omega
      · walk_at "go"
        exact ⟨s2, some h, rfl, m1, w2, fun k e => by cases e; exact .inr ⟨l, rfl, by omega⟩⟩
  clear s2 H2 m1 w2
  rintro _ H2 ⟨s2, hi2, rfl, m1, w1, w2⟩
  -- none at all
  refine c_cut (fun σ' H' => Same H1 H' ∧ ∃ lo3 hi3, σ' = St p q D lo3 hi3 ∧ (∀ n, Rg.inI lo3 hi3 hs n = Rg.inI lo hi hs n) ∧ Rg.Fin lo3 hi3 hs) ?_ ?_
  · rcases lo2 with _ | l <;> rcases hi2 with _ | h <;> simp only [oV, St] <;> walk_at "go"
    · exact ⟨s2, none, none, rfl, m1, .inr ⟨fun l e => (nomatch e), fun l e => (nomatch e), fun l h e => (nomatch e)⟩⟩
    · refine ⟨s2, none, some h, rfl, m1, .inr ⟨fun l e => (nomatch e), fun k e => (w2 k e).elim id fun ⟨_, z, _⟩ => (nomatch z), fun l h e => (nomatch e)⟩⟩
    · refine ⟨s2, some l, none, rfl, m1, .inr ⟨fun k e => (w1 k e).elim id fun ⟨_, z, _⟩ => (nomatch z), fun l e => (nomatch e), fun l h _ e => (nomatch e)⟩⟩
    · refine iteD (fun z => ?_) fun z => ?_
      · walk_at "go"
        refine c_newT (by decide) fun pz H1' _ sz hz => c_gtup hz rfl ?_
        walk_at "go"
        exact ⟨s2.trans sz, some 1, some 0, rfl, fun n => by rw [← m1, Rg.inI_out (by omega), Rg.inI_out (by omega)], .inl ⟨rfl, rfl⟩⟩
      · walk_at "go"
        refine ⟨s2, some l, some h, rfl, m1, .inr ⟨fun k e => (w1 k e).elim id fun ⟨h', e1, z1⟩ => ?_, fun k e => (w2 k e).elim id fun ⟨h', e1, z1⟩ => ?_, fun k j e1 e2 => ?_⟩⟩
        · cases e; cases e1; omega
        · cases e; cases e1; omega
        · cases e1; cases e2; omega
  clear s2 H2 m1 w1 w2
  rintro _ H2 ⟨s2, lo3, hi3, rfl, m1, fin⟩
  have hp2 := s2 _ _ hp1
  have tg1 : GxR.TabG H2 a.tp_inner_holes := TabG_to tg (s1.trans s2)
  have pt : p ≠ a.tp_inner_holes := tab_ne tg hp fun ps z => (nomatch z)
  have s12 : Same H H2 := s1.trans s2
  simp only [St]
  walk_at "go"
  refine c_sfldv hp2 T.cl_Region T.na_Region_low (by decide) fun H3 e3 h3 => ?_
  walk_at "go"
  refine c_sfldv h3 T.cl_Region T.na_Region_high (by show (1 : Nat) < 1000; decide) fun H4 e4 h4 => ?_
  have hD4 : H4 D = some (.dK kvs) := by
    have nD : D ≠ p := (ne_of_none hp hD).symm
    rw [e4 D nD, e3 D nD]
    exact s2 _ _ h1
  have tg4 : GxR.TabG H4 a.tp_inner_holes := by
    obtain ⟨ps, y1, y2⟩ := tg1
    exact ⟨ps, by rw [e4 _ pt.symm, e3 _ pt.symm]; exact y1, y2⟩
  walk_at "go"
  refine c_listD hD4 fun lk H5 _ s5 h5 => ?_
  obtain ⟨_, ks, ek, lks, mks⟩ := id hk
  rw [ek] at h5
  walk_at "go"
  refine ⟨lo3, hi3, lk, ks, rfl, SqL.of h5, by omega, TabG_to tg4 s5, fun H6 wt ws kt n6 h6 hsort hmem hlen => ?_⟩
  have hp6 : H6 p = some (.ins a.CRegion dx [("low", oV lo3), ("high", oV hi3)]) := kt.1 p _ pt (s5 _ _ h4)
  have nw : wt ≠ p := fun z => by rw [z, hp6] at h6; cases h6
  have nwt : wt ≠ a.tp_inner_holes := tab_ne kt.2 h6 fun ps z => (nomatch z)
  walk_at "go"
  refine c_sfldv hp6 T.cl_Region T.na_Region_without (by show (2 : Nat) < 1000; decide) fun H7 e7 h7 => ?_
  walk_at "go"
  refine c_sfldv h7 T.cl_Region T.na_Region_size (by show (3 : Nat) < 1000; decide) fun H8 e8 h8 => ?_
  walk_at "go"
  refine c_sfldv h8 T.cl_Region T.na_Region_value (by show (4 : Nat) < 1000; decide) fun H9 e9 h9 => ?_
  have h9' : H9 p = some (.ins a.CRegion dx [("low", oV lo3), ("high", oV hi3), ("without", .ref wt), ("size", .non), ("value", .non)]) := h9
  have hw9 : H9 wt = some (.tup (ws.map V.int)) := by rw [e9 _ nw, e8 _ nw, e7 _ nw]; exact h6
  have k9 : ∀ b o, b ≠ a.tp_inner_holes → b ≠ p → H b = some o → H9 b = some o := fun b o n1 n2 e => by
    rw [e9 _ n2, e8 _ n2, e7 _ n2]
    refine kt.1 b o n1 (s5 _ _ ?_)
    rw [e4 _ n2, e3 _ n2]
    exact s12 _ _ e
  have t9 : GxR.TabG H9 a.tp_inner_holes := by
    obtain ⟨ps, y1, y2⟩ := kt.2
    exact ⟨ps, by rw [e9 _ pt.symm, e8 _ pt.symm, e7 _ pt.symm]; exact y1, y2⟩
  have nH : H wt = none := by
    cases z : H wt with
    | none => rfl
    | some o =>
      have e5 : H5 wt = some o := s5 _ _ (by rw [e4 _ nw, e3 _ nw]; exact s12 _ _ z)
      rw [n6] at e5; cases e5
  have inn : Rg.Inner lo3 hi3 hs ws := fun k => by rw [hmem, mks]
  have last : ∀ H' : Hp, (∀ b, b ≠ p → H' b = H9 b) → RegNew a.CRegion H H' p (Rg.mk lo3 hi3 ws) → Q .non H' := fun H' e r => by
    refine k H' _ (fun b o n1 n2 z => by rw [e _ n2]; exact k9 b o n1 n2 z) ?_ r (Rg.canon_mk fin inn hsort) (fun n => by rw [Rg.mem_mk fin inn, m1]) (Nat.le_trans hlen lks)
    obtain ⟨ps, y1, y2⟩ := t9
    exact ⟨ps, by rw [e _ pt.symm]; exact y1, y2⟩
  clear kt hmem hsort hlen k9 t9 inn e9 e8 e7 h9 h8 h7 hp6 h5 s5 e4 e3 h4 h3 m1 fin
  refine c_cut (fun σ' H' => σ' = St p q D lo3 hi3 ∧ (∀ b, b ≠ p → H' b = H9 b) ∧ H' p = some (.ins a.CRegion dx [("low", oV lo3), ("high", oV hi3), ("without", .ref wt), ("size", oV (Rg.sizeOf lo3 hi3 ws)), ("value", .non)])) ?_ ?_
  · rcases lo3 with _ | l <;> rcases hi3 with _ | h <;> simp only [oV] <;> walk_at "go"
    · exact ⟨rfl, fun _ _ => rfl, h9'⟩
    · exact ⟨rfl, fun _ _ => rfl, h9'⟩
    · exact ⟨rfl, fun _ _ => rfl, h9'⟩
    · refine c_fldv h9' T.cl_Region T.na_Region_without rfl ?_
      walk_at "go"
      refine c_sfldv h9' T.cl_Region T.na_Region_size (by show (5 : Nat) < 1000; decide) fun H10 e10 h10 => ?_
      walk_at "go"
      rw [List.length_map] at h10
      exact ⟨rfl, e10, h10⟩
  · rintro _ H10 ⟨rfl, e10, h10⟩
    walk_at "go"
    refine c_fldv h10 T.cl_Region T.na_Region_size rfl ?_
    walk_at "go"
    cases hsz : Rg.sizeOf lo3 hi3 ws with
    | none =>
      rw [hsz] at h10
      simp only [oV]
      walk_at "go"
      refine iteD (fun z => nomatch z) fun _ => ?_
      walk_at "go"
      refine last H10 e10 ⟨dx, wt, nH, ?_, by rw [e10 _ nw]; exact hw9⟩
      rw [h10]
      simp only [flds, Rg.mk, hsz]
      rfl
    | some n =>
      rw [hsz] at h10
      simp only [oV]
      walk_at "go"
      refine iteD (fun z => ?_) fun z => ?_
      · walk_at "go"
        refine c_sfldv h10 T.cl_Region T.na_Region_value (by show (5 : Nat) < 1000; decide) fun H11 e11 h11 => ?_
        walk_at "go"
        refine last H11 (fun b hb => (e11 b hb).trans (e10 b hb)) ⟨dx, wt, nH, ?_, by rw [e11 _ nw, e10 _ nw]; exact hw9⟩
        rw [h11]
        cases z
        simp only [flds, Rg.mk, hsz]
        rfl
      · walk_at "go"
        refine last H10 e10 ⟨dx, wt, nH, ?_, by rw [e10 _ nw]; exact hw9⟩
        rw [h10]
        have z' : n ≠ 1 := fun y => z (by rw [y])
        simp only [flds, Rg.mk, hsz]
        rw [if_neg (by intro y; exact z' (Option.some.inj y))]
        rfl
theorem ok_Region_init (T : Txt K mg a) (TB : GxR.TabB base mg a.cd_inner_holes a.tp_inner_holes) : FnR P w K mg base CX0 3 a.Region_init (sp_init K a.CRegion a.tp_inner_holes a.e0_Region_init) :=
  T.D_Region_init.okR (k := 2) (sp := sp_init4 K a.CRegion a.tp_inner_holes) sc_Region_init (by rintro _ _ _ _ ⟨_, _, _, _, _, _, rfl, _⟩; rfl) (body_Region_init T TB)
end

/-! ### regions, as data -/
abbrev rReg (K : PySem.W.Frag) (C : Addr) (r : Rg.Reg) : Rp := rObj C [("low", rO r.low), ("high", rO r.high), ("without", rTup K (rIs r.without)), ("size", rO r.size), ("value", rO r.value)]
section
variable {P : Program} {w : World} {K : PySem.W.Frag} {mg : Str → Option Value} {base : Heap} {a : Ad} {W : Wd} {ρ : List Ent} {b : Int} {post : Rp → Int → Prop} {fs : List (Str × Rp)} {r : Rp}
theorem fl_low (T : Txt K mg a) (l : fs.lookup ("low" : Str) = some r) (h : post r b) : FldD K "low" post (rObj a.CRegion fs) b := fldD T.cl_Region T.na_Region_low l h
theorem fl_high (T : Txt K mg a) (l : fs.lookup ("high" : Str) = some r) (h : post r b) : FldD K "high" post (rObj a.CRegion fs) b := fldD T.cl_Region T.na_Region_high l h
theorem fl_without (T : Txt K mg a) (l : fs.lookup ("without" : Str) = some r) (h : post r b) : FldD K "without" post (rObj a.CRegion fs) b := fldD T.cl_Region T.na_Region_without l h
theorem fl_size (T : Txt K mg a) (l : fs.lookup ("size" : Str) = some r) (h : post r b) : FldD K "size" post (rObj a.CRegion fs) b := fldD T.cl_Region T.na_Region_size l h
theorem fl_value (T : Txt K mg a) (l : fs.lookup ("value" : Str) = some r) (h : post r b) : FldD K "value" post (rObj a.CRegion fs) b := fldD T.cl_Region T.na_Region_value l h
end
local macro_rules | `(tactic| walk_at "f") => `(tactic| repeat (first
  | walk_at "d1"
  | ((with_reducible refine' fl_low ?h1 ?h2 ?_); (case h1 => assumption); (case h2 => exact rfl))
  | ((with_reducible refine' fl_high ?h1 ?h2 ?_); (case h1 => assumption); (case h2 => exact rfl))
  | ((with_reducible refine' fl_without ?h1 ?h2 ?_); (case h1 => assumption); (case h2 => exact rfl))
  | ((with_reducible refine' fl_size ?h1 ?h2 ?_); (case h1 => assumption); (case h2 => exact rfl))
  | ((with_reducible refine' fl_value ?h1 ?h2 ?_); (case h1 => assumption); (case h2 => exact rfl))))
section
variable {P : Program} {w : World} {K : PySem.W.Frag} {mg : Str → Option Value} {base : Heap} {a : Ad} {W : Wd} {ρ : List Ent} {b : Int} {post : Rp → Int → Prop} {fs : List (Str × Rp)} {r : Rp}
theorem inV_ints (n : Int) (hs : List Int) : inV (.int n) (hs.map V.int) = hs.contains n := by
  induction hs with
  | nil => rfl
  | cons k r ih =>
    have e : inV (.int n) ((k :: r).map V.int) = ((k == n) || inV (.int n) (r.map V.int)) := rfl
    rw [e, ih, List.contains_cons]
    have : (k == n) = (n == k) := by rw [Bool.eq_iff_iff, beq_iff_eq, beq_iff_eq]; exact ⟨Eq.symm, Eq.symm⟩
    rw [this]
theorem flat_ints (hs : List Int) : (hs.map V.int).all flatV = true := by simp [flatV]
theorem d_inL {n : Int} {hs : List Int} {neg : Bool} (h : post (rBl (if neg then !hs.contains n else hs.contains n)) b) : Op2 W (rIn K neg) (rV (.int n)) (rLst K (rIs hs)) b post := o_inL rfl (flat_ints hs) (by rw [inV_ints]; exact h)
theorem d_inT {n : Int} {hs : List Int} {neg : Bool} (h : post (rBl (if neg then !hs.contains n else hs.contains n)) b) : Op2 W (rIn K neg) (rV (.int n)) (rTup K (rIs hs)) b post := o_inT rfl (flat_ints hs) (by rw [inV_ints]; exact h)
/-! Region(..) -/
def RegMk (K : PySem.W.Frag) (C : Addr) (post : Rp → Int → Prop) (rs : List Rp) (b : Int) : Prop := ∃ (lo hi : Option Int) (hs : List Int), (rs = [rO lo, rO hi, rLst K (rIs hs)] ∨ rs = [rO lo, rO hi, rTup K (rIs hs)] ∨ (rs = [rO lo, rO hi] ∧ hs = []) ∨ (rs = [] ∧ lo = none ∧ hi = none ∧ hs = [])) ∧ hs.length ≤ 63 ∧
  ∀ r : Rg.Reg, r.Canon → (∀ n, r.mem n = Rg.inI lo hi hs n) → r.without.length ≤ hs.length → post (rReg K C r) b
theorem reg_is {C : Addr} {U : Addr → Prop} {H : Hp} {p : Addr} {r : Rg.Reg} (h : RegAt C H p r) (h1 : ¬ U p) (h2 : ∀ wt, H wt = some (.tup (r.without.map V.int)) → ¬ U wt) : (rReg K C r).is (vis U H) (.ref p) := by
  obtain ⟨dx, wt, e1, e2⟩ := h
  exact ⟨p, dx, _, rfl, vis_at e1 h1, .cons ⟨rfl, rfl⟩ (.cons ⟨rfl, rfl⟩ (.cons ⟨rfl, wt, _, rfl, SqT.of (vis_at e2 (h2 wt e2)), vs_reps _⟩ (.cons ⟨rfl, rfl⟩ (.cons ⟨rfl, rfl⟩ .nil))))⟩
end

section
variable {P : Program} {w : World} {K : PySem.W.Frag} {mg : Str → Option Value} {base : Heap} {a : Ad} {W : Wd} {ρ : List Ent} {b : Int} {post : Rp → Int → Prop} {fs : List (Str × Rp)} {r : Rp}
theorem e_region {C tp e0 : Addr} {E : XK} {ts : TA} (hw : WTb W tp) (h0 : ∀ H, SqT K H e0 []) (h : EvA W ts ρ b (RegMk K C post)) : Ev W (StX.tMakeR C (sp_init K C tp e0) E ts) ρ b post := fun U σ H Q g k =>
  h U σ H _ g fun vs H1 rs b1 g1 s1 q1 r1 => by
    obtain ⟨lo, hi, hs, ha, hn, hr⟩ := q1
    obtain ⟨dvs, hd, q, ev, sq⟩ : ∃ dvs ∈ ([0, 2, 3].map fun j => List.drop j [V.non, .non, .ref e0]), ∃ q, vs ++ dvs = [oV lo, oV hi, .ref q] ∧ SqE K H1 q (hs.map V.int) := by
      rcases ha with rfl | rfl | ⟨rfl, rfl⟩ | ⟨rfl, rfl, rfl, rfl⟩
      · cases r1 with
        | cons z1 t =>
          obtain ⟨x, y, rfl, z2, q, xs, rfl, sq, rp⟩ := reps2 t
          cases z1; cases z2
          cases reps_vs rp
          exact ⟨[], by simp, q, rfl, .inl (sqL_to sq fun o e => (vis_of e).1)⟩
      · cases r1 with
        | cons z1 t =>
          obtain ⟨x, y, rfl, z2, q, xs, rfl, sq, rp⟩ := reps2 t
          cases z1; cases z2
          cases reps_vs rp
          exact ⟨[], by simp, q, rfl, .inr (sqT_to sq fun o e => (vis_of e).1)⟩
      · obtain ⟨x, y, rfl, z1, z2⟩ := reps2 r1
        cases z1; cases z2
        exact ⟨[.ref e0], by simp, e0, rfl, .inr (h0 _)⟩
      · cases r1
        exact ⟨[.non, .non, .ref e0], by simp, e0, rfl, .inr (h0 _)⟩
    refine c_mk fun x dx H2 hx s2 h2 => ⟨dvs, hd, x, dx, q, lo, hi, hs, by rw [List.cons_append, ev], h2, sq.imp (fun z => sqL_to z (s2 q)) (fun z => sqT_to z (s2 q)), hn, TabG_to (hw.get g1.j) s2, fun H' r k1 k2 k3 k4 k5 k6 => ⟨rfl, ?_⟩⟩
    have kt : Kt tp H1 H' := ⟨fun c o nb e => k1 c o nb (ne_of_none e hx) (s2 _ _ e), k2⟩
    obtain ⟨st, j⟩ := hw.kt g1.su g1.du g1.j kt
    obtain ⟨dy, wt, w0, w1, w2⟩ := k3
    have nx : ¬ U x := fun z => g1.du x z hx
    have nw : ¬ U wt := fun z => g1.du wt z (none_same s2 w0)
    exact k (.ref x) H' _ b1 (g1.step st j) (s1.trans st) (hr r k4 k5 k6) ⟨x, dy, _, rfl, vis_at w1 nx, .cons ⟨rfl, rfl⟩ (.cons ⟨rfl, rfl⟩ (.cons ⟨rfl, wt, _, rfl, SqT.of (vis_at w2 nw), vs_reps _⟩ (.cons ⟨rfl, rfl⟩ (.cons ⟨rfl, rfl⟩ .nil))))⟩
def spD_contains (K : PySem.W.Frag) (C : Addr) : SpD := fun W rs b post => ∃ (r : Rg.Reg) (n : Int), rs = [rReg K C r, rInt n] ∧ post (rBl (r.mem n)) b
theorem ok_Region_contains (T : Txt K mg a) : FnR P w K mg base CX0 1 a.Region_contains (lift (spD_contains K a.CRegion)) := by
  refine okD T.D_Region_contains sc_Region_contains (by rintro _ _ _ _ ⟨_, _, rfl, _⟩; rfl) (fun cdv A outer s H E W rs b post hK hr h => ?_)
  obtain ⟨⟨lo, hi, ws, sz, vl⟩, n, rfl, k⟩ := h
  refine ⟨_, (pss_cons (ps_if (PW.pt (pw_and (pt_cmpR op_notN1 (pe_fldK K (pv 0) rfl) (pe_non) (nomark _)) (pw_and1 (pt_cmpR op_lt (pv 1) (pe_fldK K (pv 0) rfl) (nomark _)))))
      (pss_one (ps_ret (pe_bl)))
      pss_nil)
      (pss_cons (ps_if (PW.pt (pw_and (pt_cmpR op_notN1 (pe_fldK K (pv 0) rfl) (pe_non) (nomark _)) (pw_and1 (pt_cmpR op_gt (pv 1) (pe_fldK K (pv 0) rfl) (nomark _)))))
      (pss_one (ps_ret (pe_bl)))
      pss_nil)
      (pss_one (ps_ret (pe_cmpR (op_notInK K) (pv 1) (pe_fldK K (pv 0) rfl) (by rfl)))))), ?_⟩
  unfold Rg.Reg.mem Rg.inI at k
  simp only at k
  rcases lo with _ | lo <;> rcases hi with _ | hi <;> simp only [rReg, rO, oV] <;> walk_at "f"
  · exact d_inT k
  · refine iteD (fun z => ?_) fun z => ?_ <;> walk_at "f"
    · rw [show Rg.le (some hi) n = false from decide_eq_false (by omega), Bool.and_false] at k; exact k
    · rw [show Rg.le (some hi) n = true from decide_eq_true (by omega)] at k; exact d_inT k
  · refine iteD (fun z => ?_) fun z => ?_ <;> walk_at "f"
    · rw [show Rg.ge (some lo) n = false from decide_eq_false (by omega)] at k; exact k
    · rw [show Rg.ge (some lo) n = true from decide_eq_true (by omega)] at k; exact d_inT k
  · refine iteD (fun z => ?_) fun z => ?_ <;> walk_at "f"
    · rw [show Rg.ge (some lo) n = false from decide_eq_false (by omega)] at k; exact k
    · rw [show Rg.ge (some lo) n = true from decide_eq_true (by omega)] at k
      refine iteD (fun z => ?_) fun z => ?_ <;> walk_at "f"
      · rw [show Rg.le (some hi) n = false from decide_eq_false (by omega)] at k; exact k
      · rw [show Rg.le (some hi) n = true from decide_eq_true (by omega)] at k; exact d_inT k
end

section
variable {P : Program} {w : World} {K : PySem.W.Frag} {mg : Str → Option Value} {base : Heap} {a : Ad} {W : Wd} {ρ : List Ent} {b : Int} {post : Rp → Int → Prop}
theorem mkL {C : Addr} {lo hi : Option Int} {hs : List Int} (hn : hs.length ≤ 63) (h : ∀ r : Rg.Reg, r.Canon → (∀ n, r.mem n = Rg.inI lo hi hs n) → r.without.length ≤ hs.length → post (rReg K C r) b) : RegMk K C post [rO lo, rO hi, rLst K (rIs hs)] b := ⟨lo, hi, hs, .inl rfl, hn, h⟩
theorem mkT {C : Addr} {lo hi : Option Int} {hs : List Int} (hn : hs.length ≤ 63) (h : ∀ r : Rg.Reg, r.Canon → (∀ n, r.mem n = Rg.inI lo hi hs n) → r.without.length ≤ hs.length → post (rReg K C r) b) : RegMk K C post [rO lo, rO hi, rTup K (rIs hs)] b := ⟨lo, hi, hs, .inr (.inl rfl), hn, h⟩
theorem mk2 {C : Addr} {lo hi : Option Int} (h : ∀ r : Rg.Reg, r.Canon → (∀ n, r.mem n = Rg.inI lo hi [] n) → r.without.length ≤ 0 → post (rReg K C r) b) : RegMk K C post [rO lo, rO hi] b := ⟨lo, hi, [], .inr (.inr (.inl ⟨rfl, rfl⟩)), by decide, h⟩
theorem mk0 {C : Addr} (h : ∀ r : Rg.Reg, r.Canon → (∀ n, r.mem n = true) → r.without.length ≤ 0 → post (rReg K C r) b) : RegMk K C post [] b := ⟨none, none, [], .inr (.inr (.inr ⟨rfl, rfl, rfl, rfl⟩)), by decide, fun r c m l => h r c (fun n => by rw [m]; rfl) l⟩
end

/-! ### draws: [script, place, number, turn] -/
section
variable {P : Program} {w : World} {K : PySem.W.Frag} {mg : Str → Option Value} {base : Heap} {a : Ad}
def But (st : Addr) (H H' : Hp) : Prop := ∀ b o, b ≠ st → H b = some o → H' b = some o
theorem But.refl (st : Addr) (H : Hp) : But st H H := fun _ _ _ e => e
theorem But.trans {st : Addr} {H H1 H2 : Hp} (x : But st H H1) (y : But st H1 H2) : But st H H2 := fun b o n e => y b o n (x b o n e)
theorem But.same {st : Addr} {H H' : Hp} (x : Same H H') : But st H H' := fun b o _ e => x b o e
theorem But.tab {st tp : Addr} {H H' : Hp} (x : But st H H') (t : GxR.TabG H tp) (n : tp ≠ st) : GxR.TabG H' tp := let ⟨ps, h1, h2⟩ := t; ⟨ps, x _ _ n h1, h2⟩
def DrSt (H : Hp) (st l : Addr) (b : Int) : Prop := ∃ (at_ cur cnt : Int) (ns : List Int), 1 ≤ at_ ∧ 0 ≤ cnt ∧ cnt ≤ b ∧ H st = some (.lst [.ref l, .int at_, .int cur, .int cnt]) ∧ H l = some (.lst (ns.map V.int)) ∧ st ≠ l
theorem DrSt.mono {H : Hp} {st l : Addr} {b c : Int} (h : DrSt H st l b) (hc : b ≤ c) : DrSt H st l c := by
  obtain ⟨x, y, z, ns, h1, h2, h3, r⟩ := h
  exact ⟨x, y, z, ns, h1, h2, by omega, r⟩
theorem DrSt.same {H H' : Hp} {st l : Addr} {b : Int} (h : DrSt H st l b) (s : Same H H') : DrSt H' st l b := by
  obtain ⟨x, y, z, ns, h1, h2, h3, h4, h5, r⟩ := h
  exact ⟨x, y, z, ns, h1, h2, h3, s _ _ h4, s _ _ h5, r⟩
theorem DrSt.ne {H : Hp} {st l p : Addr} {b : Int} (h : DrSt H st l b) (e : H p = none) : st ≠ p := by
  obtain ⟨x, y, z, ns, h1, h2, h3, h4, h5, r⟩ := h
  exact ne_of_none h4 e
theorem DrSt.tab {H : Hp} {st l tp : Addr} {b : Int} (h : DrSt H st l b) (t : GxR.TabG H tp) : tp ≠ st := by
  obtain ⟨x, y, z, ns, h1, h2, h3, h4, h5, r⟩ := h
  exact (tab_ne t h4 fun ps q => (nomatch q)).symm
def sp_start (K : PySem.W.Frag) : Sp := fun vs H Q _ => ∃ (s : Addr) (ns : List Int), vs = [.ref s] ∧ SqL K H s (ns.map V.int) ∧ ∀ H' st l, Same H H' → DrSt H' st l 0 → Q (.ref st) H'
theorem ok_start (T : Txt K mg a) : FnR P w K mg base CX0 1 a.start (sp_start K) := by
  refine T.D_start.okR sc_start (by rintro _ _ _ _ ⟨_, _, rfl, _⟩; rfl) (fun cdv A outer s H vs Q E hr h => ?_)
  obtain ⟨sc, ns, rfl, hs, k⟩ := h
  refine ⟨_, (pss_cons (ps_set (i := 1) sc_start.nd rfl (Or.inl rfl) (pe_int))
      (Evl.pss_cut (ps_if (pt_cmpR op_gt (pe_callB (cr_lenK K) (by rfl) T.n_len (by decide +kernel) (pa_cons (pv 0) pa_nil)) (pe_int) (nomark _))
      (pss_one (ps_set (i := 1) sc_start.nd rfl (Or.inl rfl) (pe_ix (ix_listK K) (pv 0) (pe_int) (fun _ _ => rfl))))
      pss_nil)
      (pss_one (ps_ret (pe_lst (pa_cons (pe_callTy (cr_listK K) (by rfl) T.n_list (by decide +kernel) (pa_cons (pv 0) pa_nil)) (pa_cons (pe_int) (pa_cons (pv 1) (pa_cons (pe_int) pa_nil))))))))), ?_⟩
  walk_at "go"
  refine c_cut (fun σ' H' => H' = H ∧ ∃ n : Int, σ' = [some (.ref sc), some (.int n)]) ?_ ?_
  · walk_at "go"
    refine c_lenQ hs ?_
    walk_at "go"
    refine iteD (fun z => ?_) fun z => ?_
    · walk_at "go"
      rw [List.length_map] at z
      obtain ⟨n, en, _⟩ := atI_map (f := V.int) (xs := ns) (i := 0) (Int.le_refl _) z
      refine ⟨sc, _, 0, _, rfl, rfl, hs, en, ?_⟩
      walk_at "go"
      exact ⟨rfl, n, rfl⟩
    · walk_at "go"
      exact ⟨rfl, 0, rfl⟩
  · rintro _ _ ⟨rfl, n, rfl⟩
    walk_at "go"
    refine c_listL hs fun l H1 hl s1 h1 => ?_
    walk_at "go"
    refine c_newL (show (4 : Nat) ≤ 100000 by decide) fun st H2 hst s2 h2 => ?_
    exact k H2 st l (s1.trans s2) ⟨1, n, 0, ns, by omega, by omega, by omega, h2, s2 _ _ h1, (ne_of_none h1 hst).symm⟩
def sp_draw : Sp := fun vs H Q _ => ∃ (st l : Addr) (m b : Int), vs = [.ref st, .int m] ∧ 0 < m ∧ m ≤ 1000000000000 ∧ b ≤ 100000 ∧ DrSt H st l b ∧
  ∀ H' r, But st H H' → DrSt H' st l (b + 1) → 0 ≤ r → r < m → Q (.int r) H'
theorem ok_draw (T : Txt K mg a) : FnR P w K mg base CX0 1 a.draw sp_draw := by
  refine T.D_draw.okR sc_draw (by rintro _ _ _ _ ⟨_, _, _, _, rfl, _⟩; rfl) (fun cdv A outer s H vs Q E hr h => ?_)
  obtain ⟨st, l, m, b, rfl, m0, m1, hb, ⟨at_, cur, cnt, ns, a1, c0, cb, h1, h2, ne⟩, k⟩ := h
  have r0 : ∀ x : Int, 0 ≤ x % m := fun x => Int.emod_nonneg x (Int.ne_of_gt m0)
  have r1 : ∀ x : Int, x % m < m := fun x => Int.emod_lt_of_pos x m0
  refine ⟨_, (pss_cons (ps_if (pt_cmpR op_ge (pe_ix (ix_listK K) (pv 0) (pe_int) (fun _ _ => rfl)) (pe_op op_pow (pe_int) (pe_int)) (nomark _))
      (pss_cons (ps_set (i := 2) sc_draw.nd rfl (Or.inl rfl) (pe_op op_mod (pe_callTy cr_int (by rfl) T.n_int (by decide +kernel) (pa_cons (pe_ix (ix_listK K) (pv 0) (pe_int) (fun _ _ => rfl)) pa_nil)) (pv 1)))
      (pss_cons (ps_asg (pe_op op_fdivW (pe_ix (ix_listK K) (pv 0) (pe_int) (fun _ _ => rfl)) (pv 1)) (pg_sub (pv 0) (pe_int) set_list))
      (pss_one (ps_ret (pv 2)))))
      pss_nil)
      (pss_cons (ps_asg (pe_op op_add (pe_ix (ix_listK K) (pv 0) (pe_int) (fun _ _ => rfl)) (pe_int)) (pg_sub (pv 0) (pe_int) set_list))
      (pss_cons (ps_set (i := 3) sc_draw.nd rfl (Or.inl rfl) (pe_op op_add (pe_op op_add (pe_op op_mod (pe_callTy cr_int (by rfl) T.n_int (by decide +kernel) (pa_cons (pe_ix (ix_listK K) (pv 0) (pe_int) (fun _ _ => rfl)) pa_nil)) (pe_int)) (pe_op op_mul (pe_int) (pe_ix (ix_listK K) (pv 0) (pe_int) (fun _ _ => rfl)))) (pe_int)))
      (pss_cons (ps_set (i := 4) sc_draw.nd rfl (Or.inl rfl) (pe_op op_mod (pe_op op_pow (pv 3) (pe_int)) (pe_int)))
      (Evl.pss_cut (ps_if (pt_cmpR op_lt (pe_ix (ix_listK K) (pv 0) (pe_int) (fun _ _ => rfl)) (pe_callB (cr_lenK K) (by rfl) T.n_len (by decide +kernel) (pa_cons (pe_ix (ix_listK K) (pv 0) (pe_int) (fun _ _ => rfl)) pa_nil)) (nomark _))
      (pss_cons (ps_asg (pe_ix (ix_listK K) (pe_ix (ix_listK K) (pv 0) (pe_int) (fun _ _ => rfl)) (pe_ix (ix_listK K) (pv 0) (pe_int) (fun _ _ => rfl)) (fun _ _ => rfl)) (pg_sub (pv 0) (pe_int) set_list))
      (pss_one (ps_asg (pe_op op_add (pe_ix (ix_listK K) (pv 0) (pe_int) (fun _ _ => rfl)) (pe_int)) (pg_sub (pv 0) (pe_int) set_list))))
      pss_nil)
      (pss_one (ps_ret (pe_op op_mod (pe_op op_fdiv (pe_callTy cr_int (by rfl) T.n_int (by decide +kernel) (pa_cons (pv 4) pa_nil)) (pe_int)) (pv 1))))))))), ?_⟩
  walk_at "go"
  refine iteB (fun hc => ?_) (fun hc => ?_)
  · walk_at "go"
    refine c_I (wide_div m0 (show m.natAbs < 2 ^ 41 by omega) (by decide) (by decide)) ?_
    walk_at "go"
    refine c_setL h1 rfl fun H1 e1 h1' => ?_
    walk_at "go"
    exact k _ _ (fun b o n e => by rw [e1 b n]; exact e) ⟨at_, cur / m, cnt, ns, a1, c0, by omega, h1', by rw [e1 l ne.symm]; exact h2, ne⟩ (r0 _) (r1 _)
  · walk_at "go"
    refine c_setL h1 rfl fun H1 e1 h1' => ?_
    have h1'' : H1 st = some (.lst [.ref l, .int at_, .int cur, .int (cnt + 1)]) := h1'
    have h2' : H1 l = some (.lst (ns.map V.int)) := by rw [e1 l ne.symm]; exact h2
    walk_at "go"
    have q0 := Int.emod_nonneg cur (show (1000000007 : Int) ≠ 0 by decide)
    have q1 := Int.emod_lt_of_pos cur (show (0 : Int) < 1000000007 by decide)
    refine c_I ⟨by decide, by decide, ?_⟩ ?_
    · have e : (2 : Nat) ^ 64 = 18446744073709551616 := by decide
      rw [e]
      omega
    walk_at "go"
    refine c_cut (fun σ' H' => (∀ b, b ≠ st → H' b = H b) ∧ DrSt H' st l (b + 1) ∧ σ'[1]? = some (some (.int m)) ∧ ∃ x, σ'[4]? = some (some (.int x))) ?_ ?_
    · walk_at "go"
      refine iteD (fun z => ?_) fun z => ?_
      · walk_at "go"
        rw [List.length_map] at z
        obtain ⟨n, en, _⟩ := atI_map (f := V.int) (xs := ns) (i := at_) (by omega) z
        refine c_ixL h2' en ?_
        walk_at "go"
        refine c_setL h1'' rfl fun H2 e2 h2x => ?_
        walk_at "go"
        refine c_setL h2x rfl fun H3 e3 h3x => ?_
        walk_at "go"
        exact ⟨fun b n => by rw [e3 b n, e2 b n, e1 b n], ⟨at_ + 1, n, cnt + 1, ns, by omega, by omega, by omega, h3x, by rw [e3 l ne.symm, e2 l ne.symm]; exact h2', ne⟩, rfl, _, rfl⟩
      · walk_at "go"
        exact ⟨fun b n => e1 b n, ⟨at_, cur, cnt + 1, ns, by omega, by omega, by omega, h1'', h2', ne⟩, rfl, _, rfl⟩
    · rintro σ' H' ⟨e, d, s1, x, s4⟩
      walk_at "go"
      refine c_var s4 ?_
      walk_at "go"
      refine c_var s1 (c_I m0 ?_)
      exact k _ _ (fun b o n z => by rw [e b n]; exact z) d (r0 _) (r1 _)
end

/-! ### draws, as data -/
section
variable {P : Program} {w : World} {K : PySem.W.Frag} {mg : Str → Option Value} {base : Heap} {a : Ad}
structure WDr (W : Wd) (st l : Addr) : Prop where
  s1 : W.S st
  get : ∀ {b H}, W.J b H → DrSt H st l b
  put : ∀ {b b' H H'}, W.J b H → (∀ a, W.S a → a ≠ st → H' a = H a) → DrSt H' st l b' → W.J b' H'
def spD_draw : SpD := fun W rs b post => ∃ st l m, WDr W st l ∧ rs = [rV (.ref st), rInt m] ∧ 0 < m ∧ m ≤ 1000000000000 ∧ b ≤ 100000 ∧ ∀ r, 0 ≤ r → r < m → post (rInt r) (b + 1)
theorem okD_draw (T : Txt K mg a) : FnR P w K mg base CX0 1 a.draw (lift spD_draw) := by
  refine (ok_draw (P := P) (w := w) (base := base) T).imp fun vs H Q E h => ?_
  obtain ⟨W, U, rs, b, post, j, su, du, rp, ⟨st, l, m, wd, rfl, m0, m1, hb, hp⟩, k⟩ := h
  obtain ⟨u, v, rfl, e1, e2⟩ := reps2 rp
  cases e1
  cases e2
  refine ⟨st, l, m, b, rfl, m0, m1, hb, wd.get j, fun H' r t D r0 r1 => ?_⟩
  have key : ∀ a, a ≠ st → H a ≠ none → H' a = H a := fun a n z => by
    cases e : H a with
    | none => exact absurd e z
    | some o => exact t a o n e
  refine k (.int r) H' (rInt r) (b + 1) ⟨fun a o e => ?_, fun a u n => key a (fun z => n (z ▸ wd.s1)) (du a u)⟩ (wd.put j (fun a s n => key a n (du a (su a s))) D) (hp r r0 r1) rfl
  obtain ⟨y1, y2⟩ := vis_of e
  exact vis_at (t a o (fun z => y2 (z ▸ su st wd.s1)) y1) y2
theorem drawD {W : Wd} {st l : Addr} {m b : Int} {post : Rp → Int → Prop} (wd : WDr W st l) (m0 : 0 < m) (m1 : m ≤ 1000000000000) (hb : b ≤ 100000) (h : ∀ r, 0 ≤ r → r < m → post (rInt r) (b + 1)) : spD_draw W [rV (.ref st), rV (.int m)] b post := ⟨st, l, m, wd, rfl, m0, m1, hb, h⟩
end

section
variable {P : Program} {w : World} {K : PySem.W.Frag} {mg : Str → Option Value} {base : Heap} {a : Ad}
def Wl (st l tp : Addr) : Wd where
  S := fun a => a = st ∨ a = l ∨ a = tp
  J := fun b H => DrSt H st l b ∧ GxR.TabG H tp
  loc := fun {b H H'} h j => by
    obtain ⟨⟨x, y, z, ns, h1, h2, h3, h4, h5, r⟩, ps, t1, t2⟩ := j
    exact ⟨⟨x, y, z, ns, h1, h2, h3, by rw [h st (.inl rfl)]; exact h4, by rw [h l (.inr (.inl rfl))]; exact h5, r⟩, ps, by rw [h tp (.inr (.inr rfl))]; exact t1, t2⟩
  dom := fun {b H} j a h => by
    obtain ⟨⟨x, y, z, ns, h1, h2, h3, h4, h5, r⟩, ps, t1, t2⟩ := j
    rcases h with rfl | rfl | rfl
    · rw [h4]; intro z; cases z
    · rw [h5]; intro z; cases z
    · rw [t1]; intro z; cases z
theorem wl_dr {st l tp : Addr} : WDr (Wl st l tp) st l where
  s1 := .inl rfl
  get := fun j => j.1
  put := fun {b b' H H'} j k d => ⟨d, by
    obtain ⟨ps, t1, t2⟩ := j.2
    exact ⟨ps, by rw [k tp (.inr (.inr rfl)) (j.1.tab j.2)]; exact t1, t2⟩⟩
theorem wl_tb {st l tp : Addr} : WTb (Wl st l tp) tp where
  s1 := .inr (.inr rfl)
  get := fun j => j.2
  put := fun {b H H'} j k t => ⟨by
    obtain ⟨x, y, z, ns, h1, h2, h3, h4, h5, r⟩ := j.1
    have n1 : st ≠ tp := tab_ne j.2 h4 fun ps q => (nomatch q)
    have n2 : l ≠ tp := tab_ne j.2 h5 fun ps q => (nomatch q)
    exact ⟨x, y, z, ns, h1, h2, h3, by rw [k st (.inl rfl) n1]; exact h4, by rw [k l (.inr (.inl rfl)) n2]; exact h5, r⟩, t⟩
end

/-! ### signs -/
def sgs : List Str := ["=", "!=", "<", "<=", ">", ">="]
def ofS (z : Str) (n : Int) : Option Rg.Reg := if z = "=" then some (Rg.mk (some n) (some n) []) else if z = "!=" then some (Rg.mk none none [n]) else if z = "<" then some (Rg.mk none (some (n - 1)) []) else if z = "<=" then some (Rg.mk none (some n) [])
  else if z = ">" then some (Rg.mk (some (n + 1)) none []) else if z = ">=" then some (Rg.mk (some n) none []) else none
section
variable {P : Program} {w : World} {K : PySem.W.Frag} {mg : Str → Option Value} {base : Heap} {a : Ad}
theorem ok_BadSign_init (T : Txt K mg a) : ErrI P w K mg base 1 a.BadSign_init (spErr a.CBadSign ["sign"]) := by
  refine DefAt.okE T.D_BadSign_init sc_BadSign_init (by rintro _ _ _ _ ⟨_, ws, rfl, hl, _⟩; exact congrArg Nat.succ hl) (fun cdv A outer s H vs Q E hr h => ?_)
  obtain ⟨x, ws, rfl, hl, ex, hq⟩ := h
  obtain ⟨v0, rfl⟩ : ∃ v0, ws = [v0] := match ws, hl with | [v0], _ => ⟨v0, rfl⟩
  refine ⟨_, (pss_cons (ps_ost (pv 0) (pv 1))
      (pss_one (ps_expr (pe_shinit T.vi_ShownError (by rfl) T.g_ShownError (pa_cons (pv 0) (pa_cons (pe_str) pa_nil)))))), ?_⟩
  refine ⟨v0, rfl, .ref x, rfl, x, a.CBadSign, rfl, T.er_BadSign.o, T.na_BadSign_sign, .inl ⟨ex, fun dx n ne => ?_⟩⟩
  have e0 : upd (upd H dx (exd dx [("sign", v0)])) x (exo x a.CBadSign (some dx)) dx = some (exd dx [("sign", v0)]) := by rw [upd_ne ne]; exact upd_same
  have k0 : ∀ y, y ≠ x → y ≠ dx → upd (upd H dx (exd dx [("sign", v0)])) x (exo x a.CBadSign (some dx)) y = H y := fun y h1 h2 => by rw [upd_ne h1, upd_ne h2]
  have z0 : upd (upd H dx (exd dx [("sign", v0)])) x (exo x a.CBadSign (some dx)) x = some (exo x a.CBadSign (some dx)) := upd_same
  generalize upd (upd H dx (exd dx [("sign", v0)])) x (exo x a.CBadSign (some dx)) = H0 at e0 k0 z0 ⊢
  exact ⟨.ref x, rfl, x, a.CBadSign, some dx, [.str _], rfl, by decide, T.er_BadSign.o, z0, hq dx _ n ne z0 e0 k0⟩
def spX_of (K : PySem.W.Frag) (C CB tp : Addr) : SpX := fun W rs b post px => ∃ (z : Str) (n : Int), rs = [rStr z, rInt n] ∧ ((∃ r, ofS z n = some r ∧ WTb W tp ∧ post (rReg K C r) b) ∨ (ofS z n = none ∧ px CB [("sign", rStr z)] b))
theorem reg_of {r : Rg.Reg} {lo hi : Option Int} {hs : List Int} (c : r.Canon) (hm : ∀ n, r.mem n = Rg.inI lo hi hs n) (f : Rg.Fin lo hi hs) (i : Rg.Inner lo hi hs hs) (s : hs.Pairwise (· < ·)) : r = Rg.mk lo hi hs :=
  Rg.canon_ext c (Rg.canon_mk f i s) fun n => (hm n).trans (Rg.mem_mk f i n).symm
theorem reg_of0 {r : Rg.Reg} {lo hi : Option Int} (c : r.Canon) (hm : ∀ n, r.mem n = Rg.inI lo hi [] n) (h : ∀ l k, lo = some l → hi = some k → l ≤ k) : r = Rg.mk lo hi [] :=
  reg_of c hm (.inr ⟨fun _ _ z => (nomatch z), fun _ _ z => (nomatch z), h⟩) (fun k => ⟨fun z => (nomatch z), fun z => z.1⟩) .nil
theorem ofS_eq (n : Int) : ofS "=" n = some (Rg.mk (some n) (some n) []) := by unfold ofS; rw [if_pos rfl]
theorem ofS_ne (n : Int) : ofS "!=" n = some (Rg.mk none none [n]) := by unfold ofS; rw [if_neg (by decide +kernel), if_pos rfl]
theorem ofS_lt (n : Int) : ofS "<" n = some (Rg.mk none (some (n - 1)) []) := by unfold ofS; rw [if_neg (by decide +kernel), if_neg (by decide +kernel), if_pos rfl]
theorem ofS_le (n : Int) : ofS "<=" n = some (Rg.mk none (some n) []) := by unfold ofS; rw [if_neg (by decide +kernel), if_neg (by decide +kernel), if_neg (by decide +kernel), if_pos rfl]
theorem ofS_gt (n : Int) : ofS ">" n = some (Rg.mk (some (n + 1)) none []) := by unfold ofS; rw [if_neg (by decide +kernel), if_neg (by decide +kernel), if_neg (by decide +kernel), if_neg (by decide +kernel), if_pos rfl]
theorem ofS_ge (n : Int) : ofS ">=" n = some (Rg.mk (some n) none []) := by unfold ofS; rw [if_neg (by decide +kernel), if_neg (by decide +kernel), if_neg (by decide +kernel), if_neg (by decide +kernel), if_neg (by decide +kernel), if_pos rfl]
theorem ofS_no {z : Str} {n : Int} (h0 : z ≠ "=") (h1 : z ≠ "!=") (h2 : z ≠ "<") (h3 : z ≠ "<=") (h4 : z ≠ ">") (h5 : z ≠ ">=") : ofS z n = none := by unfold ofS; rw [if_neg h0, if_neg h1, if_neg h2, if_neg h3, if_neg h4, if_neg h5]
theorem ok_Region_of (T : Txt K mg a) (TB : GxR.TabB base mg a.cd_inner_holes a.tp_inner_holes) : FnR P w K mg base (L2.CX P w) 5 a.Region_of (liftX (spX_of K a.CRegion a.CBadSign a.tp_inner_holes)) := by
  have G_BadSign_init := ok_BadSign_init (P := P) (w := w) (base := base) T
  have G_Region_init := ok_Region_init (P := P) (w := w) (base := base) T TB
  refine okXD (k := 4) T.D_Region_of sc_Region_of (by rintro _ _ _ _ _ ⟨_, _, rfl, _⟩; rfl) (fun cdv A outer s H E W rs b post px hK hr h => ?_)
  obtain ⟨z, n, rfl, h⟩ := h
  refine ⟨_, (pss_cons (ps_if (pt_cmpR op_eq (pv 0) (pe_str) (nomark _))
      (pss_one (ps_ret (StX.pe_makeR T.M_Region G_Region_init (hr.mono (by decide)) (by rfl) T.g_Region pass0 (pa_cons (pv 1) (pa_cons (pv 1) pa_nil)))))
      pss_nil)
      (pss_cons (ps_if (pt_cmpR op_eq (pv 0) (pe_str) (nomark _))
      (pss_one (ps_ret (StX.pe_makeR T.M_Region G_Region_init (hr.mono (by decide)) (by rfl) T.g_Region pass0 (pa_cons (pe_non) (pa_cons (pe_non) (pa_cons (pe_tup (pa_cons (pv 1) pa_nil)) pa_nil))))))
      pss_nil)
      (pss_cons (ps_if (pt_cmpR op_eq (pv 0) (pe_str) (nomark _))
      (pss_one (ps_ret (StX.pe_makeR T.M_Region G_Region_init (hr.mono (by decide)) (by rfl) T.g_Region pass0 (pa_cons (pe_non) (pa_cons (pe_op op_sub (pv 1) (pe_int)) pa_nil)))))
      pss_nil)
      (pss_cons (ps_if (pt_cmpR op_eq (pv 0) (pe_str) (nomark _))
      (pss_one (ps_ret (StX.pe_makeR T.M_Region G_Region_init (hr.mono (by decide)) (by rfl) T.g_Region pass0 (pa_cons (pe_non) (pa_cons (pv 1) pa_nil)))))
      pss_nil)
      (pss_cons (ps_if (pt_cmpR op_eq (pv 0) (pe_str) (nomark _))
      (pss_one (ps_ret (StX.pe_makeR T.M_Region G_Region_init (hr.mono (by decide)) (by rfl) T.g_Region pass0 (pa_cons (pe_op op_add (pv 1) (pe_int)) (pa_cons (pe_non) pa_nil)))))
      pss_nil)
      (pss_cons (ps_if (pt_cmpR op_eq (pv 0) (pe_str) (nomark _))
      (pss_one (ps_ret (StX.pe_makeR T.M_Region G_Region_init (hr.mono (by decide)) (by rfl) T.g_Region pass0 (pa_cons (pv 1) (pa_cons (pe_non) pa_nil)))))
      pss_nil)
      (pss_one (ps_raiseT rfl (takes_of rfl rfl rfl rfl) (pmk_err T.er_BadSign G_BadSign_init (hr.mono (by decide)) (by rfl) T.g_BadSign (pa_cons (pv 0) pa_nil)))))))))), ?_⟩
  walk_at "d"
  refine iteD (fun e => ?_) fun e0 => ?_
  · obtain rfl : z = _ := V.str.inj e
    rcases h with ⟨r, er, hw, hp⟩ | ⟨er, _⟩ <;> rw [ofS_eq] at er <;> cases er
    walk_at "d"
    refine e_region hw T.E_Region_init ?_
    walk_at "d"
    exact mk2 (lo := some n) (hi := some n) fun r c m _ => by rw [reg_of0 c m (fun l k h1 h2 => by cases h1; cases h2; exact Int.le_refl _)]; exact hp
  walk_at "d"
  refine iteD (fun e => ?_) fun e1 => ?_
  · obtain rfl : z = _ := V.str.inj e
    rcases h with ⟨r, er, hw, hp⟩ | ⟨er, _⟩ <;> rw [ofS_ne] at er <;> cases er
    walk_at "d"
    refine e_region hw T.E_Region_init ?_
    walk_at "d"
    exact mkT (lo := none) (hi := none) (hs := [n]) (Nat.le_of_ble_eq_true rfl) fun r c m _ => by
      rw [reg_of c m (.inr ⟨fun _ z => (nomatch z), fun _ z => (nomatch z), fun _ _ z => (nomatch z)⟩) (fun k => ⟨fun z => ⟨z, fun _ z => (nomatch z), fun _ z => (nomatch z)⟩, fun z => z.1⟩) (List.pairwise_singleton _ _)]; exact hp
  walk_at "d"
  refine iteD (fun e => ?_) fun e2 => ?_
  · obtain rfl : z = _ := V.str.inj e
    rcases h with ⟨r, er, hw, hp⟩ | ⟨er, _⟩ <;> rw [ofS_lt] at er <;> cases er
    walk_at "d"
    refine e_region hw T.E_Region_init ?_
    walk_at "d"
    exact mk2 (lo := none) (hi := some (n - 1)) fun r c m _ => by rw [reg_of0 c m (fun l k h1 h2 => (nomatch h1))]; exact hp
  walk_at "d"
  refine iteD (fun e => ?_) fun e3 => ?_
  · obtain rfl : z = _ := V.str.inj e
    rcases h with ⟨r, er, hw, hp⟩ | ⟨er, _⟩ <;> rw [ofS_le] at er <;> cases er
    walk_at "d"
    refine e_region hw T.E_Region_init ?_
    walk_at "d"
    exact mk2 (lo := none) (hi := some n) fun r c m _ => by rw [reg_of0 c m (fun l k h1 h2 => (nomatch h1))]; exact hp
  walk_at "d"
  refine iteD (fun e => ?_) fun e4 => ?_
  · obtain rfl : z = _ := V.str.inj e
    rcases h with ⟨r, er, hw, hp⟩ | ⟨er, _⟩ <;> rw [ofS_gt] at er <;> cases er
    walk_at "d"
    refine e_region hw T.E_Region_init ?_
    walk_at "d"
    exact mk2 (lo := some (n + 1)) (hi := none) fun r c m _ => by rw [reg_of0 c m (fun l k h1 h2 => (nomatch h2))]; exact hp
  walk_at "d"
  refine iteD (fun e => ?_) fun e5 => ?_
  · obtain rfl : z = _ := V.str.inj e
    rcases h with ⟨r, er, hw, hp⟩ | ⟨er, _⟩ <;> rw [ofS_ge] at er <;> cases er
    walk_at "d"
    refine e_region hw T.E_Region_init ?_
    walk_at "d"
    exact mk2 (lo := some n) (hi := none) fun r c m _ => by rw [reg_of0 c m (fun l k h1 h2 => (nomatch h2))]; exact hp
  have er : ofS z n = none := ofS_no (fun q => e0 (congrArg V.str q)) (fun q => e1 (congrArg V.str q)) (fun q => e2 (congrArg V.str q)) (fun q => e3 (congrArg V.str q)) (fun q => e4 (congrArg V.str q)) (fun q => e5 (congrArg V.str q))
  rcases h with ⟨r, er', _⟩ | ⟨_, hp⟩
  · rw [er] at er'; cases er'
  walk_at "d"
  exact ⟨rfl, Nat.le_of_ble_eq_true rfl, hp⟩
end

section
variable {P : Program} {w : World} {K : PySem.W.Frag} {mg : Str → Option Value} {base : Heap} {a : Ad}
def Bn : Nat → Int
  | 0 => 1
  | j + 1 => Bn j * 10000000000
theorem Bn_le : ∀ j, j ≤ 6 → Bn j ≤ 10 ^ 60
  | 0, _ => by decide | 1, _ => by decide | 2, _ => by decide | 3, _ => by decide | 4, _ => by decide | 5, _ => by decide | 6, _ => by decide
  | n + 7, h => by omega
theorem big_ok {v : Int} (h0 : 0 ≤ v) (h1 : v ≤ 10 ^ 60) : v.natAbs < 2 ^ 200 := by
  have : (10 : Int) ^ 60 < 2 ^ 200 := by decide
  have e : ((2 : Nat) ^ 200 : Nat) = ((2 : Int) ^ 200).toNat := by decide
  omega
def spD_number : SpD := fun W rs b post => ∃ st l, WDr W st l ∧ rs = [rV (.ref st)] ∧ b ≤ 90000 ∧ ∀ n b', b' ≤ b + 20 → post (rInt n) b'
theorem ok_number (T : Txt K mg a) : FnR P w K mg base CX0 2 a.number (lift spD_number) := by
  have G_draw := okD_draw (P := P) (w := w) (base := base) T
  refine okD (k := 1) T.D_number sc_number (by rintro _ _ _ _ ⟨_, _, _, rfl, _⟩; rfl) (fun cdv A outer s H E W rs b post hK hr h => ?_)
  obtain ⟨st, l, wd, rfl, hb, hp⟩ := h
  refine ⟨_, (pss_cons (ps_set (i := 1) sc_number.nd rfl (Or.inl rfl) (pe_int))
      (pss_cons (ps_for PassesOwn.never rfl (pi_range1 (by rfl) T.n_range (pa_cons (pe_op op_add (pe_int) (pe_cR G_draw (hr.mono (by decide)) (by rfl) T.g_draw T.D_draw.kp pass0 (pa_cons (pv 0) (pa_cons (pe_int) pa_nil)))) pa_nil)) (pg_name (i := 2) sc_number.nd rfl (Or.inl rfl))
      (pss_one (ps_set (i := 1) sc_number.nd rfl (Or.inl rfl) (pe_op op_add (pe_op op_mulW (pv 1) (pe_op op_pow (pe_int) (pe_int))) (pe_cR G_draw (hr.mono (by decide)) (by rfl) T.g_draw T.D_draw.kp pass0 (pa_cons (pv 0) (pa_cons (pe_op op_pow (pe_int) (pe_int)) pa_nil)))))))
      (Evl.pss_cut (ps_if (pt_cmpR op_eq (pe_cR G_draw (hr.mono (by decide)) (by rfl) T.g_draw T.D_draw.kp pass0 (pa_cons (pv 0) (pa_cons (pe_int) pa_nil))) (pe_int) (nomark _))
      (pss_one (ps_set (i := 1) sc_number.nd rfl (Or.inl rfl) (pe_cR G_draw (hr.mono (by decide)) (by rfl) T.g_draw T.D_draw.kp pass0 (pa_cons (pv 0) (pa_cons (pe_int) pa_nil)))))
      pss_nil)
      (pss_one (ps_ret (pe_op op_mulW (pv 1) (pe_ix (ix_listK K) (pe_lst (pa_cons (pe_int) (pa_cons (pe_un un_neg (pe_int)) pa_nil))) (pe_cR G_draw (hr.mono (by decide)) (by rfl) T.g_draw T.D_draw.kp pass0 (pa_cons (pv 0) (pa_cons (pe_int) pa_nil))) (fun _ _ => rfl)))))))), ?_⟩
  walk_at "d"
  refine drawD wd (by decide) (by decide) (by omega) fun m m0 m1 => ?_
  walk_at "d"
  refine ⟨1 + m, rfl, by omega, by omega, fun j ρ' b' => b' = b + 1 + j ∧ ∃ (v : Int) (e : Ent), 0 ≤ v ∧ v < Bn j ∧ ρ' = [.sh (rV (.ref st)), .sh (rInt v), e], ⟨by omega, 0, .no, by decide, by decide, rfl⟩, ?_, ?_⟩
  · rintro j r ρ' b' hj ⟨rfl, v, e, v0, v1, rfl⟩
    obtain ⟨hjj, rfl⟩ := rInts_get hj
    have hj6 : j < 6 := by omega
    have hB := Bn_le j (by omega)
    walk_at "d"
    refine o_I (wide_mul (a := 200) (b := 40) (big_ok v0 (by omega)) (by decide) (by decide) (by decide) (by decide)) ?_
    walk_at "d"
    refine drawD wd (by decide) (by decide) (by omega) fun q q0 q1 => ?_
    walk_at "d"
    have e10 : (10 : Int) ^ (10 : Int).toNat = 10000000000 := by decide
    rw [e10] at q1 ⊢
    refine ⟨by omega, v * 10000000000 + q, _, by omega, ?_, rfl⟩
    show v * 10000000000 + q < Bn j * 10000000000
    omega
  · rintro ρ' b' ⟨rfl, v, e, v0, v1, rfl⟩
    rw [rInts_len] at v1 ⊢
    have hB := Bn_le (1 + m).toNat (by omega)
    refine s_cut (fun ρ' b' => b' ≤ b + 10 ∧ ∃ (v : Int) (e : Ent), 0 ≤ v ∧ v ≤ 10 ^ 60 ∧ ρ' = [.sh (rV (.ref st)), .sh (rInt v), e]) ?_ ?_
    · walk_at "d"
      refine drawD wd (by decide) (by decide) (by omega) fun q q0 q1 => ?_
      walk_at "d"
      refine iteD (fun _ => ?_) fun _ => ?_
      · walk_at "d"
        refine drawD wd (by decide) (by decide) (by omega) fun p p0 p1 => ?_
        walk_at "d"
        exact ⟨by omega, p, e, p0, by omega, rfl⟩
      · walk_at "d"
        exact ⟨by omega, v, e, v0, by omega, rfl⟩
    · rintro _ b2 ⟨hb2, u, e2, u0, u1, rfl⟩
      walk_at "d"
      refine drawD wd (by decide) (by decide) (by omega) fun p p0 p1 => ?_
      walk_at "d"
      have hp2 : p = 0 ∨ p = 1 := by omega
      rcases hp2 with rfl | rfl
      · walk_at "d"
        refine o_I (wide_mul (a := 200) (b := 2) (big_ok u0 u1) (by decide) (by decide) (by decide) (by decide)) ?_
        exact hp _ _ (by omega)
      · walk_at "d"
        refine o_I (wide_mul (a := 200) (b := 2) (big_ok u0 u1) (by decide) (by decide) (by decide) (by decide)) ?_
        exact hp _ _ (by omega)
def stB (z : Str) (v n : Int) : Bool := if z = "=" then decide (V.int v = V.int n) else if z = "!=" then !decide (V.int v = V.int n) else if z = "<" then decide (v < n) else if z = "<=" then decide (v ≤ n) else if z = ">" then decide (n < v) else decide (n ≤ v)
def spD_stands : SpD := fun W rs b post => ∃ (v : Int) (z : Str) (n : Int), rs = [rInt v, rStr z, rInt n] ∧ post (rBl (stB z v n)) b
theorem ok_stands (T : Txt K mg a) : FnR P w K mg base CX0 1 a.stands (lift spD_stands) := by
  refine okD (k := 0) T.D_stands sc_stands (by rintro _ _ _ _ ⟨_, _, _, rfl, _⟩; rfl) (fun cdv A outer s H E W rs b post hK hr h => ?_)
  obtain ⟨v, z, n, rfl, h⟩ := h
  refine ⟨_, (pss_cons (ps_if (pt_cmpR op_eq (pv 1) (pe_str) (nomark _))
      (pss_one (ps_ret (pe_cmpR op_eq (pv 0) (pv 2) (nomark _))))
      pss_nil)
      (pss_cons (ps_if (pt_cmpR op_eq (pv 1) (pe_str) (nomark _))
      (pss_one (ps_ret (pe_cmpR op_ne (pv 0) (pv 2) (nomark _))))
      pss_nil)
      (pss_cons (ps_if (pt_cmpR op_eq (pv 1) (pe_str) (nomark _))
      (pss_one (ps_ret (pe_cmpR op_lt (pv 0) (pv 2) (nomark _))))
      pss_nil)
      (pss_cons (ps_if (pt_cmpR op_eq (pv 1) (pe_str) (nomark _))
      (pss_one (ps_ret (pe_cmpR op_le (pv 0) (pv 2) (nomark _))))
      pss_nil)
      (pss_cons (ps_if (pt_cmpR op_eq (pv 1) (pe_str) (nomark _))
      (pss_one (ps_ret (pe_cmpR op_gt (pv 0) (pv 2) (nomark _))))
      pss_nil)
      (pss_one (ps_ret (pe_cmpR op_ge (pv 0) (pv 2) (nomark _))))))))), ?_⟩
  unfold stB at h
  walk_at "d"
  refine iteD (fun e => ?_) fun e => ?_
  · rw [if_pos (V.str.inj e)] at h
    walk_at "d"
    exact h
  rw [if_neg (fun q => e (congrArg V.str q))] at h
  walk_at "d"
  refine iteD (fun e => ?_) fun e => ?_
  · rw [if_pos (V.str.inj e)] at h
    walk_at "d"
    exact h
  rw [if_neg (fun q => e (congrArg V.str q))] at h
  walk_at "d"
  refine iteD (fun e => ?_) fun e => ?_
  · rw [if_pos (V.str.inj e)] at h
    walk_at "d"
    exact h
  rw [if_neg (fun q => e (congrArg V.str q))] at h
  walk_at "d"
  refine iteD (fun e => ?_) fun e => ?_
  · rw [if_pos (V.str.inj e)] at h
    walk_at "d"
    exact h
  rw [if_neg (fun q => e (congrArg V.str q))] at h
  walk_at "d"
  refine iteD (fun e => ?_) fun e => ?_
  · rw [if_pos (V.str.inj e)] at h
    walk_at "d"
    exact h
  rw [if_neg (fun q => e (congrArg V.str q))] at h
  walk_at "d"
  exact h
def rEnds (K : PySem.W.Frag) (r : Rg.Reg) : Rp := rLst K [rO r.low, rO r.high, rTup K (rIs r.without), rO r.size, rO r.value]
def spD_ends (K : PySem.W.Frag) : SpD := fun W rs b post => ∃ (z : Str) (n : Int) (r : Rg.Reg), rs = [rStr z, rInt n] ∧ ofS z n = some r ∧ post (rEnds K r) b
theorem ends_one (n : Int) : rEnds K (Rg.mk (some n) (some n) []) = rLst K [rInt n, rInt n, rTup K [], rInt 1, rInt n] := by
  have e : Rg.sizeOf (some n) (some n) [] = some 1 := by
    unfold Rg.sizeOf
    show some (n - n + 1 - ((([] : List Int).length : Nat) : Int)) = some 1
    rw [show n - n + 1 - ((([] : List Int).length : Nat) : Int) = 1 by simp]
  unfold rEnds Rg.mk
  rw [e, if_pos rfl]
  rfl
theorem ok_ends (T : Txt K mg a) : FnR P w K mg base CX0 1 a.ends (lift (spD_ends K)) := by
  refine okD (k := 0) T.D_ends sc_ends (by rintro _ _ _ _ ⟨_, _, _, rfl, _⟩; rfl) (fun cdv A outer s H E W rs b post hK hr h => ?_)
  obtain ⟨z, n, r, rfl, er, h⟩ := h
  refine ⟨_, (pss_cons (ps_if (pt_cmpR op_eq (pv 0) (pe_str) (nomark _))
      (pss_one (ps_ret (pe_lst (pa_cons (pv 1) (pa_cons (pv 1) (pa_cons (pe_tup pa_nil) (pa_cons (pe_int) (pa_cons (pv 1) pa_nil))))))))
      pss_nil)
      (pss_cons (ps_if (pt_cmpR op_eq (pv 0) (pe_str) (nomark _))
      (pss_one (ps_ret (pe_lst (pa_cons (pe_non) (pa_cons (pe_non) (pa_cons (pe_tup (pa_cons (pv 1) pa_nil)) (pa_cons (pe_non) (pa_cons (pe_non) pa_nil))))))))
      pss_nil)
      (pss_cons (ps_if (pt_cmpR op_eq (pv 0) (pe_str) (nomark _))
      (pss_one (ps_ret (pe_lst (pa_cons (pe_non) (pa_cons (pe_op op_sub (pv 1) (pe_int)) (pa_cons (pe_tup pa_nil) (pa_cons (pe_non) (pa_cons (pe_non) pa_nil))))))))
      pss_nil)
      (pss_cons (ps_if (pt_cmpR op_eq (pv 0) (pe_str) (nomark _))
      (pss_one (ps_ret (pe_lst (pa_cons (pe_non) (pa_cons (pv 1) (pa_cons (pe_tup pa_nil) (pa_cons (pe_non) (pa_cons (pe_non) pa_nil))))))))
      pss_nil)
      (pss_cons (ps_if (pt_cmpR op_eq (pv 0) (pe_str) (nomark _))
      (pss_one (ps_ret (pe_lst (pa_cons (pe_op op_add (pv 1) (pe_int)) (pa_cons (pe_non) (pa_cons (pe_tup pa_nil) (pa_cons (pe_non) (pa_cons (pe_non) pa_nil))))))))
      pss_nil)
      (pss_one (ps_ret (pe_lst (pa_cons (pv 1) (pa_cons (pe_non) (pa_cons (pe_tup pa_nil) (pa_cons (pe_non) (pa_cons (pe_non) pa_nil))))))))))))), ?_⟩
  walk_at "d"
  refine iteD (fun e => ?_) fun e0 => ?_
  · obtain rfl : z = _ := V.str.inj e
    rw [ofS_eq] at er
    cases er
    rw [ends_one] at h
    walk_at "d"
    exact h
  walk_at "d"
  refine iteD (fun e => ?_) fun e1 => ?_
  · obtain rfl : z = _ := V.str.inj e
    rw [ofS_ne] at er
    cases er
    walk_at "d"
    exact h
  walk_at "d"
  refine iteD (fun e => ?_) fun e2 => ?_
  · obtain rfl : z = _ := V.str.inj e
    rw [ofS_lt] at er
    cases er
    walk_at "d"
    exact h
  walk_at "d"
  refine iteD (fun e => ?_) fun e3 => ?_
  · obtain rfl : z = _ := V.str.inj e
    rw [ofS_le] at er
    cases er
    walk_at "d"
    exact h
  walk_at "d"
  refine iteD (fun e => ?_) fun e4 => ?_
  · obtain rfl : z = _ := V.str.inj e
    rw [ofS_gt] at er
    cases er
    walk_at "d"
    exact h
  walk_at "d"
  by_cases e5 : z = ">="
  · subst e5
    rw [ofS_ge] at er
    cases er
    exact h
  · rw [ofS_no (fun q => e0 (congrArg V.str q)) (fun q => e1 (congrArg V.str q)) (fun q => e2 (congrArg V.str q)) (fun q => e3 (congrArg V.str q)) (fun q => e4 (congrArg V.str q)) e5] at er
    cases er
def spD_refused (K : PySem.W.Frag) : SpD := fun W rs b post => ∃ (z : Str) (n : Int), rs = [rStr z, rInt n] ∧ ofS z n = none ∧ post (rTup K [rStr "BadSign", rStr z, rBl true, rBl false]) b
theorem ok_refused (T : Txt K mg a) (TB : GxR.TabB base mg a.cd_inner_holes a.tp_inner_holes) : FnR P w K mg base CX0 6 a.refused (lift (spD_refused K)) := by
  have G_Region_of := ok_Region_of (P := P) (w := w) (base := base) T TB
  refine okD (k := 5) T.D_refused sc_refused (by rintro _ _ _ _ ⟨_, _, rfl, _⟩; rfl) (fun cdv A outer s H E W rs b post hK hr h => ?_)
  obtain ⟨z, n, rfl, er, h⟩ := h
  refine ⟨_, (pss_cons (ps_set (i := 2) sc_refused.nd rfl (Or.inl rfl) (pe_non))
      (pss_cons (ps_tryAs (i := 3) K rfl rfl rfl sc_refused.nd rfl rfl ⟨by rfl, by decide, .inl T.g_BadSign⟩ takes0 (fun wx pn xe tk po => (pss_one (ps_expr (pe_clsRS T.c_Region_of G_Region_of (hr.mono (by decide)) (by rfl) T.g_Region (fun σ => passAt tk σ) (pa_cons (pv 0) (pa_cons (pv 1) pa_nil))))))
      (fun ea oe cls d pn hz hf => (pss_one (ps_set (i := 2) sc_refused.nd rfl (Or.inl rfl) (pe_tup (pa_cons (pe_str) (pa_cons (pe_xf T.xf_BadSign T.na_BadSign_sign hz hf (pv 3) rfl) (pa_cons (pe_callB (cr_isXK K hz hf) (by rfl) T.n_isinstance (by decide +kernel) (pa_cons (pv 3) (pa_cons (pe_bltn (v := .ty "ValueError") (by rfl) T.n_ValueError (by decide +kernel) rfl) pa_nil))) (pa_cons (pe_callB (cr_isXK K hz hf) (by rfl) T.n_isinstance (by decide +kernel) (pa_cons (pv 3) (pa_cons (pe_glob (v := .ref a.CTooFew) (by rfl) T.g_TooFew rfl) pa_nil))) pa_nil)))))))))
      (pss_cons (ps_if (pt_cmpR op_notN1 (pv 2) (pe_non) (nomark _))
      (pss_one (ps_ret (pv 2)))
      pss_nil)
      (pss_one (ps_ret (pe_tup (pa_cons (pe_str) pa_nil))))))), ?_⟩
  walk_at "d"
  refine s_tryA0 (fun ρ' b' C fs => ρ' = [.sh (rStr z), .sh (rInt n), .sh (rV .non), .no] ∧ b' = b ∧ C = a.CBadSign ∧ fs = [(("sign" : Str), rStr z)]) (fun wx => ?_) ?_
  · walk_at "d"
    exact ⟨z, n, rfl, .inr ⟨er, rfl, rfl, rfl, rfl⟩⟩
  · rintro _ _ _ _ ⟨rfl, rfl, rfl, rfl⟩
    refine ⟨true, T.xm_BB, ?_⟩
    rw [if_pos rfl]
    intro x d
    walk_at "d"
    refine ⟨_, _, rfl, rfl, ?_⟩
    walk_at "d"
    refine o_isX T.ec_BadSign (fun u z => z) T.ki_BV ?_
    walk_at "d"
    refine o_isX T.ec_BadSign (fun u z => z) T.ki_BT ?_
    walk_at "d"
    exact h
def spD_refb : SpD := fun W rs b post => ∃ (z : Str) (n : Int), rs = [rStr z, rInt n] ∧ ofS z n = none ∧ post (rBl true) b
theorem ok_refused_base (T : Txt K mg a) (TB : GxR.TabB base mg a.cd_inner_holes a.tp_inner_holes) : FnR P w K mg base CX0 6 a.refused_base (lift spD_refb) := by
  have G_Region_of := ok_Region_of (P := P) (w := w) (base := base) T TB
  refine okD (k := 5) T.D_refused_base sc_refused_base (by rintro _ _ _ _ ⟨_, _, rfl, _⟩; rfl) (fun cdv A outer s H E W rs b post hK hr h => ?_)
  obtain ⟨z, n, rfl, er, h⟩ := h
  refine ⟨_, (pss_cons (ps_set (i := 2) sc_refused_base.nd rfl (Or.inl rfl) (pe_non))
      (pss_cons (ps_tryAs (i := 3) K rfl rfl rfl sc_refused_base.nd rfl rfl ⟨by rfl, by decide, .inl T.g_ShownError⟩ takes0 (fun wx pn xe tk po => (pss_one (ps_expr (pe_clsRS T.c_Region_of G_Region_of (hr.mono (by decide)) (by rfl) T.g_Region (fun σ => passAt tk σ) (pa_cons (pv 0) (pa_cons (pv 1) pa_nil))))))
      (fun ea oe cls d pn hz hf => (pss_one (ps_set (i := 2) sc_refused_base.nd rfl (Or.inl rfl) (pe_callB (cr_isXK K hz hf) (by rfl) T.n_isinstance (by decide +kernel) (pa_cons (pv 3) (pa_cons (pe_glob (v := .ref a.CBadSign) (by rfl) T.g_BadSign rfl) pa_nil)))))))
      (pss_cons (ps_if (pt_cmpR op_notN1 (pv 2) (pe_non) (nomark _))
      (pss_one (ps_ret (pv 2)))
      pss_nil)
      (pss_one (ps_ret (pe_bl)))))), ?_⟩
  walk_at "d"
  refine s_tryA0 (fun ρ' b' C fs => ρ' = [.sh (rStr z), .sh (rInt n), .sh (rV .non), .no] ∧ b' = b ∧ C = a.CBadSign ∧ fs = [(("sign" : Str), rStr z)]) (fun wx => ?_) ?_
  · walk_at "d"
    exact ⟨z, n, rfl, .inr ⟨er, rfl, rfl, rfl, rfl⟩⟩
  · rintro _ _ _ _ ⟨rfl, rfl, rfl, rfl⟩
    refine ⟨true, T.xm_BS, ?_⟩
    rw [if_pos rfl]
    intro x d
    walk_at "d"
    refine o_isX T.ec_BadSign (fun u z => z) T.ki_BB ?_
    walk_at "d"
    exact h
end

section
variable {P : Program} {w : World} {K : PySem.W.Frag} {mg : Str → Option Value} {base : Heap} {a : Ad}
theorem sgs_facts : ∀ z ∈ sgs, ((" " : Str) ++ z ∉ sgs ∧ PyData.strOk ((" " : Str) ++ z) = true) ∧ (z ++ (" " : Str) ∉ sgs ∧ PyData.strOk (z ++ (" " : Str)) = true) ∧ (z ++ z ∉ sgs ∧ PyData.strOk (z ++ z) = true) ∧ z.length ≤ 2 := by decide +kernel
theorem at_sgs {r : Int} (h0 : 0 ≤ r) (h1 : r < 6) : ∃ z : Str, atI (rVs (sgs.map V.str)) r = some (rV (.str z)) ∧ z ∈ sgs := by
  have : r = 0 ∨ r = 1 ∨ r = 2 ∨ r = 3 ∨ r = 4 ∨ r = 5 := by omega
  rcases this with rfl | rfl | rfl | rfl | rfl | rfl <;> exact ⟨_, rfl, by decide +kernel⟩
theorem at_abc {r : Int} (h0 : 0 ≤ r) (h1 : r < 6) : ∃ c : Nat, atI (("=!<> a" : Str)).cps.toList r = some c ∧ c < 0x110000 := by
  have : r = 0 ∨ r = 1 ∨ r = 2 ∨ r = 3 ∨ r = 4 ∨ r = 5 := by omega
  rcases this with rfl | rfl | rfl | rfl | rfl | rfl
  · exact ⟨61, by decide +kernel, by decide⟩
  · exact ⟨33, by decide +kernel, by decide⟩
  · exact ⟨60, by decide +kernel, by decide⟩
  · exact ⟨62, by decide +kernel, by decide⟩
  · exact ⟨32, by decide +kernel, by decide⟩
  · exact ⟨97, by decide +kernel, by decide⟩
theorem in_sgs (z : Str) : inV (.str z) (sgs.map V.str) = decide (z ∈ sgs) := by
  have key : ∀ l : List Str, inV (.str z) (l.map V.str) = decide (z ∈ l) := by
    intro l
    induction l with
    | nil => simp [inV]
    | cons k r ih =>
      have e : inV (.str z) ((k :: r).map V.str) = ((k == z) || inV (.str z) (r.map V.str)) := rfl
      rw [e, ih, Bool.eq_iff_iff, Bool.or_eq_true, beq_iff_eq, decide_eq_true_eq, decide_eq_true_eq, List.mem_cons]
      exact ⟨fun q => q.imp Eq.symm id, fun q => q.imp Eq.symm id⟩
  exact key sgs
theorem one_sum : ∀ {ys : List Str}, (∀ z ∈ ys, z.length = 1) → (ys.map (·.length)).sum = ys.length
  | [], _ => rfl
  | y :: ys, h => by
    rw [List.map_cons, List.sum_cons, one_sum fun z hz => h z (List.mem_cons_of_mem _ hz), h y List.mem_cons_self, List.length_cons]
    omega
theorem ok_app {x y : Str} (h1 : PyData.strOk x = true) (h2 : PyData.strOk y = true) : PyData.strOk (x ++ y) = true := by
  show Array.all (x.cps ++ y.cps) _ = true
  rw [Array.all_append, Bool.and_eq_true]
  exact ⟨h1, h2⟩
theorem join_ok {ys : List Str} (h : ∀ z ∈ ys, PyData.strOk z = true) : PyData.strOk (Txt.join "" ys) = true := by
  have key : ∀ ys : List Str, (∀ z ∈ ys, PyData.strOk z = true) → PyData.strOk (Str.join "" ys) = true := by
    intro ys
    induction ys with
    | nil => intro _; decide +kernel
    | cons x r ih =>
      intro h
      cases r with
      | nil => exact h x List.mem_cons_self
      | cons y r => exact ok_app (ok_app (h x List.mem_cons_self) (by decide +kernel)) (ih fun z hz => h z (List.mem_cons_of_mem _ hz))
  rw [show Txt.join "" ys = Str.join "" ys from StrLaws.glued_eq_join _ _]
  exact key ys h
def spD_other (K : PySem.W.Frag) : SpD := fun W rs b post => ∃ st l, WDr W st l ∧ rs = [rV (.ref st), rLst K (rVs (sgs.map V.str))] ∧ b ≤ 90000 ∧ ∀ z b', b' ≤ b + 10 → z ∉ sgs → PyData.strOk z = true → post (rStr z) b'
theorem ok_other (T : Txt K mg a) : FnR P w K mg base CX0 2 a.other (lift (spD_other K)) := by
  have G_draw := okD_draw (P := P) (w := w) (base := base) T
  refine okD (k := 1) T.D_other sc_other (by rintro _ _ _ _ ⟨_, _, _, rfl, _⟩; rfl) (fun cdv A outer s H E W rs b post hK hr h => ?_)
  obtain ⟨st, l, wd, rfl, hb, hp⟩ := h
  refine ⟨_, (pss_cons (ps_set (i := 2) sc_other.nd rfl (Or.inl rfl) (pe_cR G_draw (hr.mono (by decide)) (by rfl) T.g_draw T.D_draw.kp pass0 (pa_cons (pv 0) (pa_cons (pe_int) pa_nil))))
      (pss_cons (ps_set (i := 3) sc_other.nd rfl (Or.inl rfl) (pe_ix (ix_listK K) (pv 1) (pe_cR G_draw (hr.mono (by decide)) (by rfl) T.g_draw T.D_draw.kp pass0 (pa_cons (pv 0) (pa_cons (pe_int) pa_nil))) (fun _ _ => rfl)))
      (pss_cons (ps_if (pt_cmpR op_eq (pv 2) (pe_int) (nomark _))
      (pss_one (ps_ret (pe_op op_addS (pe_str) (pv 3))))
      pss_nil)
      (pss_cons (ps_if (pt_cmpR op_eq (pv 2) (pe_int) (nomark _))
      (pss_one (ps_ret (pe_op op_addS (pv 3) (pe_str))))
      pss_nil)
      (pss_cons (ps_set (i := 4) sc_other.nd rfl (Or.inl rfl) (pe_bmK K PySem.F.plainAttrs_str PySem.F.slot_str_join PySem.F.type_str_join (mt_joinK K) (pe_str) (pa_cons (pe_lc (own := [("_law_k", 5)]) (g := gName 5) (by rfl) sc_other.nd (pi_range1 (by rfl) T.n_range (pa_cons (pe_cR G_draw (hr.mono (by decide)) (by rfl) T.g_draw T.D_draw.kp pass0 (pa_cons (pv 0) (pa_cons (pe_int) pa_nil))) pa_nil)) (blkOk_by (own := [("_law_k", 5)]) (N := N_other) (sc := defScope s_other) (by decide +kernel)) (fun _ _ _ _ _ => (pg_name (i := 5) sc_other.nd rfl (Or.inl rfl))) (fun _ _ _ _ _ => pts_nil) (fun _ _ _ _ _ => (pe_ix ix_str (pe_str) (pe_cR G_draw (hr.mono (by decide)) (by rfl) T.g_draw T.D_draw.kp pass0 (pa_cons (pv 0) (pa_cons (pe_int) pa_nil))) (fun _ _ => rfl)))) pa_nil)))
      (pss_cons (ps_if (pt_cmpR (op_inK K) (pv 4) (pv 1) (by rfl))
      (pss_one (ps_ret (pe_op op_addS (pv 4) (pv 4))))
      pss_nil)
      (pss_one (ps_ret (pv 4))))))))), ?_⟩
  walk_at "d"
  refine drawD wd (by decide) (by decide) (by omega) fun m m0 m1 => ?_
  walk_at "d"
  refine drawD wd (by decide) (by decide) (by omega) fun q q0 q1 => ?_
  obtain ⟨y, ey, my⟩ := at_sgs q0 q1
  obtain ⟨⟨f1, g1⟩, ⟨f2, g2⟩, ⟨f3, g3⟩, f4⟩ := sgs_facts y my
  refine o_ixL ey ?_
  walk_at "d"
  refine iteD (fun _ => ?_) fun _ => ?_
  · walk_at "d"
    refine o_addS (by show 1 + y.length ≤ 100000; omega) ?_
    exact hp _ _ (by omega) f1 g1
  walk_at "d"
  refine iteD (fun _ => ?_) fun _ => ?_
  · walk_at "d"
    refine o_addS (by show y.length + 1 ≤ 100000; omega) ?_
    exact hp _ _ (by omega) f2 g2
  walk_at "d"
  refine ⟨_, rfl, ?_⟩
  walk_at "d"
  refine drawD wd (by decide) (by decide) (by omega) fun p p0 p1 => ?_
  walk_at "d"
  refine ⟨p, rfl, by omega, by omega, by rw [rInts_len]; omega, fun j acc b' => b' = b + 1 + 1 + 1 + j ∧ ∃ ys : List Str, acc = rVs (ys.map V.str) ∧ ys.length = j ∧ ∀ z ∈ ys, z.length = 1 ∧ PyData.strOk z = true, ⟨by omega, [], rfl, rfl, fun z h => (nomatch h)⟩, ?_, ?_⟩
  · rintro j r acc b' hj _ ⟨rfl, ys, rfl, hn, hm⟩
    obtain ⟨hjj, rfl⟩ := rInts_get hj
    walk_at "d"
    refine drawD wd (by decide) (by decide) (by omega) fun x x0 x1 => ?_
    obtain ⟨c, ec, hc⟩ := at_abc x0 x1
    refine o_ixS (by decide +kernel) ec ⟨by omega, ys ++ [⟨#[c]⟩], by simp [rVs], by rw [List.length_append, hn]; rfl, fun z hz => ?_⟩
    rcases List.mem_append.mp hz with hz | hz
    · exact hm z hz
    · rw [List.mem_singleton.mp hz]
      exact ⟨rfl, by unfold PyData.strOk; simpa using hc⟩
  · rintro acc b1 _ ⟨rfl, ys, rfl, hn, hm⟩
    walk_at "d"
    have hn3 : ys.length ≤ 3 := by rw [hn, rInts_len]; omega
    refine ⟨ys, rfl, by rw [one_sum (fun z hz => (hm z hz).1)]; show ys.length + ys.length * 0 ≤ _; omega, ?_⟩
    have hok : PyData.strOk (Txt.join "" ys) = true := join_ok fun z hz => (hm z hz).2
    rw [rInts_len] 
    walk_at "d"
    refine o_inL rfl (by decide +kernel) ?_
    rw [in_sgs]
    walk_at "d"
    refine iteD (fun h => ?_) fun h => ?_
    · obtain ⟨_, _, ⟨f3, g3⟩, f4⟩ := sgs_facts _ h
      walk_at "d"
      refine o_addS (by omega) ?_
      exact hp _ _ (by omega) f3 g3
    · walk_at "d"
      exact hp _ _ (by omega) h hok
end

section
variable {P : Program} {w : World} {K : PySem.W.Frag} {mg : Str → Option Value} {base : Heap} {a : Ad}
theorem ofS_out {z : Str} {n : Int} (h : z ∉ sgs) : ofS z n = none :=
  ofS_no (fun e => h (e ▸ by decide +kernel)) (fun e => h (e ▸ by decide +kernel)) (fun e => h (e ▸ by decide +kernel)) (fun e => h (e ▸ by decide +kernel)) (fun e => h (e ▸ by decide +kernel)) (fun e => h (e ▸ by decide +kernel))
/-- what a sign's region holds -/
theorem ofS_in {z : Str} (n : Int) (h : z ∈ sgs) : ∃ r, ofS z n = some r ∧ (∀ v, r.mem v = stB z v n) ∧ r.without.length ≤ 1 := by
  have mem : ∀ {lo hi : Option Int} {hs : List Int} (v : Int), (Rg.mk lo hi hs).mem v = Rg.inI lo hi hs v := fun v => rfl
  have hz : z = "=" ∨ z = "!=" ∨ z = "<" ∨ z = "<=" ∨ z = ">" ∨ z = ">=" := by
    unfold sgs at h
    simpa using h
  rcases hz with rfl | rfl | rfl | rfl | rfl | rfl
  · refine ⟨_, ofS_eq n, fun v => ?_, by simp [Rg.mk]⟩
    rw [mem, Bool.eq_iff_iff, Rg.inI_iff]; unfold stB; rw [if_pos rfl]; simp; omega
  · refine ⟨_, ofS_ne n, fun v => ?_, by simp [Rg.mk]⟩
    rw [mem, Bool.eq_iff_iff, Rg.inI_iff]; unfold stB; rw [if_neg (by decide +kernel), if_pos rfl]; simp
  · refine ⟨_, ofS_lt n, fun v => ?_, by simp [Rg.mk]⟩
    rw [mem, Bool.eq_iff_iff, Rg.inI_iff]; unfold stB; rw [if_neg (by decide +kernel), if_neg (by decide +kernel), if_pos rfl]; simp; omega
  · refine ⟨_, ofS_le n, fun v => ?_, by simp [Rg.mk]⟩
    rw [mem, Bool.eq_iff_iff, Rg.inI_iff]; unfold stB; rw [if_neg (by decide +kernel), if_neg (by decide +kernel), if_neg (by decide +kernel), if_pos rfl]; simp
  · refine ⟨_, ofS_gt n, fun v => ?_, by simp [Rg.mk]⟩
    rw [mem, Bool.eq_iff_iff, Rg.inI_iff]; unfold stB; rw [if_neg (by decide +kernel), if_neg (by decide +kernel), if_neg (by decide +kernel), if_neg (by decide +kernel), if_pos rfl]; simp; omega
  · refine ⟨_, ofS_ge n, fun v => ?_, by simp [Rg.mk]⟩
    rw [mem, Bool.eq_iff_iff, Rg.inI_iff]; unfold stB; rw [if_neg (by decide +kernel), if_neg (by decide +kernel), if_neg (by decide +kernel), if_neg (by decide +kernel), if_neg (by decide +kernel)]; simp
theorem get_sgs {j : Nat} {r : Rp} (h : (rVs (sgs.map V.str))[j]? = some r) : ∃ z ∈ sgs, r = rStr z := by
  have m := List.mem_of_getElem? h
  unfold rVs at m
  obtain ⟨v, hv, rfl⟩ := List.mem_map.mp m
  obtain ⟨z, hz, rfl⟩ := List.mem_map.mp hv
  exact ⟨z, hz, rfl⟩
theorem get_ints {ns : List Int} {j : Nat} {r : Rp} (h : (rIs ns)[j]? = some r) : ∃ v, r = rInt v := by
  have m := List.mem_of_getElem? h
  unfold rIs rVs at m
  obtain ⟨v, hv, rfl⟩ := List.mem_map.mp m
  obtain ⟨z, hz, rfl⟩ := List.mem_map.mp hv
  exact ⟨z, rfl⟩
theorem shp_str {z : Str} {n : Nat} (h : PyData.strOk z = true) : Shp (.str z) n := ⟨by simpa [PyData.canLay0] using h, by simp [PyData.depth]⟩
def sp_law (K : PySem.W.Frag) (tp : Addr) : Sp := fun vs H Q _ => ∃ (c : Addr) (ns : List Int), vs = [.ref c] ∧ SqL K H c (ns.map V.int) ∧ ns.length ≤ 63 ∧ (∀ z ∈ ns, Builtin.Int.intBits z ≤ 1048576) ∧ GxR.TabG H tp ∧ ∀ H', Q (.bl true) H'
theorem ok_law {fd : FuncData} (F : Fun K "law" "law" s_law a.law fd) (T : Txt K mg a) (TB : GxR.TabB base mg a.cd_inner_holes a.tp_inner_holes) : FnOk P w K mg base CX0 8 a.law fd ["_law_script"] (sp_law K a.tp_inner_holes) := by
  have G_start := ok_start (P := P) (w := w) (base := base) T
  have G_draw := okD_draw (P := P) (w := w) (base := base) T
  have G_number := ok_number (P := P) (w := w) (base := base) T
  have G_Region_of := ok_Region_of (P := P) (w := w) (base := base) T TB
  have G_Region_contains := ok_Region_contains (P := P) (w := w) (base := base) T
  have G_stands := ok_stands (P := P) (w := w) (base := base) T
  have G_ends := ok_ends (P := P) (w := w) (base := base) T
  have G_other := ok_other (P := P) (w := w) (base := base) T
  have G_refused := ok_refused (P := P) (w := w) (base := base) T TB
  have G_refused_base := ok_refused_base (P := P) (w := w) (base := base) T TB
  refine F.ok sc_law (by rintro _ _ _ _ ⟨_, _, rfl, _⟩; rfl) (fun cdv A outer s H vs Q E hr h => ?_)
  obtain ⟨c, ns, rfl, hS, hlen, hbits, tg, k⟩ := h
  refine ⟨_, (pss_cons (ps_set (i := 1) sc_law.nd rfl (Or.inl rfl) (pe_cR G_start (hr.mono (by decide)) (by rfl) T.g_start T.D_start.kp pass0 (pa_cons (pv 0) pa_nil)))
      (pss_cons (ps_set (i := 2) sc_law.nd rfl (Or.inl rfl) (pe_lst (pa_cons (pe_str) (pa_cons (pe_str) (pa_cons (pe_str) (pa_cons (pe_str) (pa_cons (pe_str) (pa_cons (pe_str) pa_nil))))))))
      (pss_cons (ps_set (i := 3) sc_law.nd rfl (Or.inl rfl) (pe_cR G_number (hr.mono (by decide)) (by rfl) T.g_number T.D_number.kp pass0 (pa_cons (pv 1) pa_nil)))
      (pss_cons (ps_set (i := 4) sc_law.nd rfl (Or.inl rfl) (pe_op op_add (pe_op op_pow (pe_int) (pe_int)) (pe_cR G_draw (hr.mono (by decide)) (by rfl) T.g_draw T.D_draw.kp pass0 (pa_cons (pv 1) (pa_cons (pe_op op_pow (pe_int) (pe_int)) pa_nil)))))
      (pss_cons (ps_for PassesOwn.never rfl (pi_listK K (pv 2)) (pg_name (i := 5) sc_law.nd rfl (Or.inl rfl))
      (pss_cons (ps_set (i := 6) sc_law.nd rfl (Or.inl rfl) (pe_clsR T.c_Region_of G_Region_of (hr.mono (by decide)) (by rfl) T.g_Region passL (pa_cons (pv 5) (pa_cons (pv 3) pa_nil))))
      (pss_cons (ps_for PassesOwn.never rfl (pi_listK K (pe_lst (pa_cons (pe_op op_sub (pv 3) (pv 4)) (pa_cons (pe_op op_sub (pv 3) (pe_int)) (pa_cons (pe_op op_sub (pv 3) (pe_int)) (pa_cons (pv 3) (pa_cons (pe_op op_add (pv 3) (pe_int)) (pa_cons (pe_op op_add (pv 3) (pe_int)) (pa_cons (pe_op op_add (pv 3) (pv 4)) pa_nil))))))))) (pg_name (i := 7) sc_law.nd rfl (Or.inl rfl))
      (pss_one (ps_if (pt_cmpR op_ne (pe_cmpR (op_inOwn T.ct_Region T.fc_Region G_Region_contains (hr.mono (by decide)) pass0) (pv 7) (pv 6) (by rfl)) (pe_cR G_stands (hr.mono (by decide)) (by rfl) T.g_stands T.D_stands.kp pass0 (pa_cons (pv 7) (pa_cons (pv 5) (pa_cons (pv 3) pa_nil)))) (nomark _))
      (pss_one (ps_ret (pe_bl)))
      pss_nil)))
      (pss_one (ps_if (pt_cmpR (op_neDK K hr.units) (pe_lst (pa_cons (pe_fldK K (pv 6) rfl) (pa_cons (pe_fldK K (pv 6) rfl) (pa_cons (pe_fldK K (pv 6) rfl) (pa_cons (pe_fldK K (pv 6) rfl) (pa_cons (pe_fldK K (pv 6) rfl) pa_nil)))))) (pe_cR G_ends (hr.mono (by decide)) (by rfl) T.g_ends T.D_ends.kp pass0 (pa_cons (pv 5) (pa_cons (pv 3) pa_nil))) (nomark _))
      (pss_one (ps_ret (pe_bl)))
      pss_nil)))))
      (pss_cons (ps_for PassesOwn.never rfl (pi_range1 (by rfl) T.n_range (pa_cons (pe_int) pa_nil)) (pg_name (i := 8) sc_law.nd rfl (Or.inl rfl))
      (pss_cons (ps_set (i := 9) sc_law.nd rfl (Or.inl rfl) (pe_cR G_other (hr.mono (by decide)) (by rfl) T.g_other T.D_other.kp pass0 (pa_cons (pv 1) (pa_cons (pv 2) pa_nil))))
      (pss_one (ps_if (PW.pt (pw_or (pt_cmpR (op_neDK K hr.units) (pe_cR G_refused (hr.mono (by decide)) (by rfl) T.g_refused T.D_refused.kp pass0 (pa_cons (pv 9) (pa_cons (pv 3) pa_nil))) (pe_tup (pa_cons (pe_str) (pa_cons (pv 9) (pa_cons (pe_bl) (pa_cons (pe_bl) pa_nil))))) (nomark _)) (pw_or1 (pt_not (pt_val (pe_cR G_refused_base (hr.mono (by decide)) (by rfl) T.g_refused_base T.D_refused_base.kp pass0 (pa_cons (pv 9) (pa_cons (pv 3) pa_nil))))))))
      (pss_one (ps_ret (pe_bl)))
      pss_nil))))
      (pss_one (ps_ret (pe_bl))))))))), ?_⟩
  have hK : KIs K := ⟨trivial⟩
  walk_at "go"
  refine ⟨c, ns, rfl, hS, fun H1 st l s1 D1 => ?_⟩
  dsimp only
  have hw := wl_tb (st := st) (l := l) (tp := a.tp_inner_holes)
  have wd := wl_dr (st := st) (l := l) (tp := a.tp_inner_holes)
  refine enter2 (W := Wl st l a.tp_inner_holes) (b := 0) (ρ := [.no, .sh (rV (.ref st)), .no, .no, .no, .no, .no, .no, .no, .no]) (k := { nx := fun _ _ => False, rt := fun r _ => r = rBl true }) ⟨D1, TabG_to tg s1⟩ ?_ ?_ ?_ (fun _ _ z => z) (fun _ _ z => z) ?_
  · exact .cons trivial (.cons ⟨_, rfl, rfl⟩ (.cons trivial (.cons trivial (.cons trivial (.cons trivial (.cons trivial (.cons trivial (.cons trivial (.cons trivial .nil)))))))))
  · exact fun _ _ _ _ _ _ z => z.elim
  · intro v H' r b' z q
    have z : r = rBl true := z
    subst z
    cases q
    exact k H'
  walk_at "d"
  refine ⟨st, l, wd, rfl, by decide, fun n b1 hb1 => ?_⟩
  walk_at "d"
  refine drawD wd (by decide) (by decide) (by omega) fun q q0 q1 => ?_
  walk_at "d"
  generalize (10 : Int) ^ Int.toNat 61 + q = far
  refine ⟨fun j ρ' b' => b' = b1 + 1 ∧ ∃ e5 e6 e7, ρ' = [.no, .sh (rV (.ref st)), .sh (rLst K (rVs (sgs.map V.str))), .sh (rInt n), .sh (rInt far), e5, e6, e7, .no, .no], ⟨rfl, .no, .no, .no, rfl⟩, ?_, ?_⟩
  · rintro j r ρ' b' hj ⟨rfl, e5, e6, e7, rfl⟩
    obtain ⟨z, hz, rfl⟩ := get_sgs hj
    obtain ⟨r, er, hm, hl⟩ := ofS_in n hz
    walk_at "d"
    refine ⟨z, n, rfl, .inl ⟨r, er, hw, ?_⟩⟩
    walk_at "d"
    refine ⟨fun j ρ' b' => b' = b1 + 1 ∧ ∃ e7, ρ' = [.no, .sh (rV (.ref st)), .sh (rLst K (rVs (sgs.map V.str))), .sh (rInt n), .sh (rInt far), .sh (rStr z), .sh (rReg K a.CRegion r), e7, .no, .no], ⟨rfl, e7, rfl⟩, ?_, ?_⟩
    · rintro i x ρ' b' hi ⟨rfl, e7, rfl⟩
      obtain ⟨v, rfl⟩ := get_ints (ns := [n - far, n - 2, n - 1, n, n + 1, n + 2, n + far]) hi
      walk_at "d"
      refine o_inOwn ⟨r, v, rfl, _, rfl, ?_⟩
      walk_at "d"
      refine ⟨v, z, n, rfl, ?_⟩
      walk_at "d"
      refine iteNt (by rw [if_neg Bool.false_ne_true, hm]) ?_
      walk_at "d"
      exact ⟨rfl, _, rfl⟩
    · rintro ρ' b' ⟨rfl, e7, rfl⟩
      walk_at "f"
      refine ⟨z, n, r, rfl, er, ?_⟩
      have hs : SeqAt.shaped (.list [dO r.low, dO r.high, .tuple (r.without.map PyData.int), dO r.size, dO r.value]) = true :=
        (shp_list (all_cons shp_O (all_cons shp_O (all_cons (shp_tup (n := 0) shp_ints) (all_cons shp_O (all_cons shp_O all_nil)))))).ok (by decide)
      have hd : IsD K (rEnds K r) (.list [dO r.low, dO r.high, .tuple (r.without.map PyData.int), dO r.size, dO r.value]) := d_lst (.cons d_O (.cons d_O (.cons (d_tup (d_ints _)) (.cons d_O (.cons d_O .nil)))))
      refine o_neD hd hd hs hs ?_
      rw [SeqAt.eqv_refl _ (SeqAt.canLay_of_shaped hs)]
      walk_at "d"
      exact ⟨rfl, _, _, _, rfl⟩
  · rintro ρ' b' ⟨rfl, e5, e6, e7, rfl⟩
    walk_at "d"
    refine ⟨4, rfl, by decide, by decide, fun j ρ' b' => b' ≤ b1 + 1 + 10 * j ∧ ∃ e8 e9, ρ' = [.no, .sh (rV (.ref st)), .sh (rLst K (rVs (sgs.map V.str))), .sh (rInt n), .sh (rInt far), e5, e6, e7, e8, e9], ⟨by omega, .no, .no, rfl⟩, ?_, ?_⟩
    · rintro j r ρ' b' hj ⟨hb', e8, e9, rfl⟩
      obtain ⟨hjj, rfl⟩ := rInts_get hj
      have hj4 : j < 4 := hjj
      walk_at "d"
      refine ⟨st, l, wd, rfl, by omega, fun z b2 hb2 hz hok => ?_⟩
      walk_at "d"
      refine ⟨z, n, rfl, ofS_out hz, ?_⟩
      walk_at "d"
      have hs : SeqAt.shaped (.tuple [.str "BadSign", .str z, .bool true, .bool false]) = true :=
        (shp_tup (n := 0) (all_cons (shp_str (by decide +kernel)) (all_cons (shp_str hok) (all_cons shp_bool (all_cons shp_bool all_nil))))).ok (by decide)
      have hd : IsD K (rTup K [rStr "BadSign", rStr z, rBl true, rBl false]) (.tuple [.str "BadSign", .str z, .bool true, .bool false]) := d_tup (.cons d_str (.cons d_str (.cons d_bl (.cons d_bl .nil))))
      refine o_neD hd hd hs hs ?_
      rw [SeqAt.eqv_refl _ (SeqAt.canLay_of_shaped hs)]
      walk_at "d"
      refine ⟨z, n, rfl, ofS_out hz, ?_⟩
      walk_at "d"
      exact ⟨by omega, _, _, rfl⟩
    · rintro ρ' b' ⟨_, e8, e9, rfl⟩
      walk_at "d"
      exact rfl
end

theorem all_mk {l : PySem.W.OpenLaw} {q : Program} {w : World} {K : PySem.W.Frag} {h : Heap} {mg : Str → Option Value} {fa : Addr} (X : K.In h) (G : h.Ns mainGlobals mg) (hfa : mg "law" = some (.ref fa))
    (HT : ∀ (y : Str) (c P : Addr), ((PyProof.Rows.recsOf q).any fun e => e.name == y) = true → PySem.W.tabIn K y = some (c, P) → PySem.W.CodeHd h c P ∧ h.get? P = some { cls := .none, data := .fields #[] })
    {f_least_member f_greatest_member f_inner_holes f_Region_init f_Region_of f_Region_contains f_BadSign_init f_start f_draw f_number f_stands f_ends f_other f_refused f_refused_base f_law C_Region C_ShownError C_TooFew C_BadSign : Addr}
    {od_least_member an_least_member : Option Addr} {sl_least_member : Array (Option Value)} {oc_least_member kV_least_member dc_least_member pm_least_member cd_least_member ct_least_member : Value}
    {od_greatest_member an_greatest_member : Option Addr} {sl_greatest_member : Array (Option Value)} {oc_greatest_member kV_greatest_member dc_greatest_member pm_greatest_member cd_greatest_member ct_greatest_member : Value}
    {od_inner_holes an_inner_holes od2_inner_holes : Option Addr} {sl_inner_holes sl2_inner_holes : Array (Option Value)} {oc_inner_holes kV_inner_holes dc_inner_holes pm_inner_holes ct_inner_holes oe_inner_holes : Value} {q_inner_holes P_inner_holes : Addr} {vs_inner_holes : Array Value}
    {od_Region_init an_Region_init odT_Region_init odE_Region_init : Option Addr} {sl_Region_init slT_Region_init slE_Region_init : Array (Option Value)} {oc_Region_init kV_Region_init dc_Region_init pm_Region_init cd_Region_init ct_Region_init ocT_Region_init : Value} {T_Region_init e0_Region_init : Addr} {nT_Region_init nE_Region_init : Nat}
    {od_Region_of an_Region_of : Option Addr} {sl_Region_of : Array (Option Value)} {oc_Region_of kV_Region_of dc_Region_of pm_Region_of cd_Region_of ct_Region_of : Value}
    {p_Region_of : Addr} {rs_Region_of : List Value}
    {od_Region_contains an_Region_contains : Option Addr} {sl_Region_contains : Array (Option Value)} {oc_Region_contains kV_Region_contains dc_Region_contains pm_Region_contains cd_Region_contains ct_Region_contains : Value}
    {od_BadSign_init an_BadSign_init : Option Addr} {sl_BadSign_init : Array (Option Value)} {oc_BadSign_init kV_BadSign_init dc_BadSign_init pm_BadSign_init cd_BadSign_init ct_BadSign_init : Value}
    {od_start an_start : Option Addr} {sl_start : Array (Option Value)} {oc_start kV_start dc_start pm_start cd_start ct_start : Value}
    {od_draw an_draw : Option Addr} {sl_draw : Array (Option Value)} {oc_draw kV_draw dc_draw pm_draw cd_draw ct_draw : Value}
    {od_number an_number : Option Addr} {sl_number : Array (Option Value)} {oc_number kV_number dc_number pm_number cd_number ct_number : Value}
    {od_stands an_stands : Option Addr} {sl_stands : Array (Option Value)} {oc_stands kV_stands dc_stands pm_stands cd_stands ct_stands : Value}
    {od_ends an_ends : Option Addr} {sl_ends : Array (Option Value)} {oc_ends kV_ends dc_ends pm_ends cd_ends ct_ends : Value}
    {od_other an_other : Option Addr} {sl_other : Array (Option Value)} {oc_other kV_other dc_other pm_other cd_other ct_other : Value}
    {od_refused an_refused : Option Addr} {sl_refused : Array (Option Value)} {oc_refused kV_refused dc_refused pm_refused cd_refused ct_refused : Value}
    {od_refused_base an_refused_base : Option Addr} {sl_refused_base : Array (Option Value)} {oc_refused_base kV_refused_base dc_refused_base pm_refused_base cd_refused_base ct_refused_base : Value}
    {od_law an_law : Option Addr} {sl_law : Array (Option Value)} {oc_law kV_law dc_law pm_law cd_law ct_law : Value}
    {nm_BadSign qn_BadSign : Str} {N_BadSign : Addr} {bs_BadSign bm_BadSign sub_BadSign : List Value} {sn_BadSign : List Str} {ab_BadSign : Bool} {col_BadSign : Option Bool} {dd_BadSign : Option Addr} {k0_BadSign k1_BadSign k2_BadSign k3_BadSign k5_BadSign : Option Value}
    (aC_Region : PySem.W.nsIn K mainGlobals "Region" = some (some (.ref C_Region)))
    (aC_ShownError : PySem.W.nsIn K mainGlobals "ShownError" = some (some (.ref C_ShownError)))
    (aC_TooFew : PySem.W.nsIn K mainGlobals "TooFew" = some (some (.ref C_TooFew)))
    (aC_BadSign : PySem.W.nsIn K mainGlobals "BadSign" = some (some (.ref C_BadSign)))
    (a_least_member : PySem.W.nsIn K mainGlobals "least_member" = some (some (.ref f_least_member)))
    (l_least_member : K.lookup f_least_member = some ⟨oc_least_member, od_least_member, .func (PySem.W.fnOf "least_member" "least_member" (defArgs s_least_member) (defBody s_least_member) (defScope s_least_member) .none kV_least_member dc_least_member pm_least_member an_least_member cd_least_member ct_least_member), sl_least_member⟩)
    (c_least_member : PySem.W.codeIn K cd_least_member "least_member" = true)
    (k_least_member : PySem.W.keepIn K (.ref f_least_member) = true)
    (a_greatest_member : PySem.W.nsIn K mainGlobals "greatest_member" = some (some (.ref f_greatest_member)))
    (l_greatest_member : K.lookup f_greatest_member = some ⟨oc_greatest_member, od_greatest_member, .func (PySem.W.fnOf "greatest_member" "greatest_member" (defArgs s_greatest_member) (defBody s_greatest_member) (defScope s_greatest_member) .none kV_greatest_member dc_greatest_member pm_greatest_member an_greatest_member cd_greatest_member ct_greatest_member), sl_greatest_member⟩)
    (c_greatest_member : PySem.W.codeIn K cd_greatest_member "greatest_member" = true)
    (k_greatest_member : PySem.W.keepIn K (.ref f_greatest_member) = true)
    (a_inner_holes : PySem.W.nsIn K mainGlobals "inner_holes" = some (some (.ref f_inner_holes)))
    (l_inner_holes : K.lookup f_inner_holes = some ⟨oc_inner_holes, od_inner_holes, .func (PySem.W.fnOf "inner_holes" "inner_holes" (defArgs s_inner_holes) (defBody s_inner_holes) (defScope s_inner_holes) .none kV_inner_holes dc_inner_holes pm_inner_holes an_inner_holes (.ref q_inner_holes) ct_inner_holes), sl_inner_holes⟩)
    (c_inner_holes : PySem.W.codeIn K (.ref q_inner_holes) "inner_holes" = true)
    (k_inner_holes : PySem.W.keepIn K (.ref f_inner_holes) = true)
    (lc_inner_holes : K.lookup q_inner_holes = some ⟨oe_inner_holes, od2_inner_holes, .fields vs_inner_holes, sl2_inner_holes⟩)
    (lv_inner_holes : vs_inner_holes[11]? = some (.ref P_inner_holes))
    (ln_inner_holes : K.lookup P_inner_holes = none)
    (a_Region_init : PySem.W.findIn K (.ref C_Region) "__init__" = some (some (.ref f_Region_init)))
    (i_Region_init : PySem.W.isFn K (.ref f_Region_init) = true)
    (l_Region_init : K.lookup f_Region_init = some ⟨oc_Region_init, od_Region_init, .func (PySem.W.fnOf "__init__" "Region.__init__" (defArgs s_Region_init) (defBody s_Region_init) (defScope s_Region_init) (.ref T_Region_init) kV_Region_init dc_Region_init pm_Region_init an_Region_init cd_Region_init ct_Region_init), sl_Region_init⟩)
    (c_Region_init : PySem.W.codeIn K cd_Region_init "Region.__init__" = true)
    (k_Region_init : PySem.W.keepIn K (.ref f_Region_init) = true)
    (lT_Region_init : K.lookup T_Region_init = some ⟨ocT_Region_init, odT_Region_init, .seq #[.none, .none, .ref e0_Region_init] nT_Region_init, slT_Region_init⟩)
    (lE_Region_init : K.lookup e0_Region_init = some ⟨.type "tuple", odE_Region_init, .seq #[] nE_Region_init, slE_Region_init⟩)
    (a_Region_of : PySem.W.findCls K (.ref C_Region) (.type "type") "of" = some (.get (.builtin "staticmethod.__get__") (.ref p_Region_of) .none (.ref C_Region)))
    (r_Region_of : PySem.W.recIn K p_Region_of "staticmethod" = some (.ref f_Region_of :: rs_Region_of))
    (l_Region_of : K.lookup f_Region_of = some ⟨oc_Region_of, od_Region_of, .func (PySem.W.fnOf "of" "Region.of" (defArgs s_Region_of) (defBody s_Region_of) (defScope s_Region_of) .none kV_Region_of dc_Region_of pm_Region_of an_Region_of cd_Region_of ct_Region_of), sl_Region_of⟩)
    (c_Region_of : PySem.W.codeIn K cd_Region_of "Region.of" = true)
    (k_Region_of : PySem.W.keepIn K (.ref f_Region_of) = true)
    (a_Region_contains : PySem.W.findIn K (.ref C_Region) "__contains__" = some (some (.ref f_Region_contains)))
    (i_Region_contains : PySem.W.isFn K (.ref f_Region_contains) = true)
    (l_Region_contains : K.lookup f_Region_contains = some ⟨oc_Region_contains, od_Region_contains, .func (PySem.W.fnOf "__contains__" "Region.__contains__" (defArgs s_Region_contains) (defBody s_Region_contains) (defScope s_Region_contains) .none kV_Region_contains dc_Region_contains pm_Region_contains an_Region_contains cd_Region_contains ct_Region_contains), sl_Region_contains⟩)
    (c_Region_contains : PySem.W.codeIn K cd_Region_contains "Region.__contains__" = true)
    (k_Region_contains : PySem.W.keepIn K (.ref f_Region_contains) = true)
    (a_BadSign_init : PySem.W.findIn K (.ref C_BadSign) "__init__" = some (some (.ref f_BadSign_init)))
    (i_BadSign_init : PySem.W.isFn K (.ref f_BadSign_init) = true)
    (l_BadSign_init : K.lookup f_BadSign_init = some ⟨oc_BadSign_init, od_BadSign_init, .func (PySem.W.fnOf "__init__" "BadSign.__init__" (defArgs s_BadSign_init) (defBody s_BadSign_init) (defScope s_BadSign_init) .none kV_BadSign_init dc_BadSign_init pm_BadSign_init an_BadSign_init cd_BadSign_init ct_BadSign_init), sl_BadSign_init⟩)
    (c_BadSign_init : PySem.W.codeIn K cd_BadSign_init "BadSign.__init__" = true)
    (k_BadSign_init : PySem.W.keepIn K (.ref f_BadSign_init) = true)
    (a_start : PySem.W.nsIn K mainGlobals "_law_start" = some (some (.ref f_start)))
    (l_start : K.lookup f_start = some ⟨oc_start, od_start, .func (PySem.W.fnOf "_law_start" "_law_start" (defArgs s_start) (defBody s_start) (defScope s_start) .none kV_start dc_start pm_start an_start cd_start ct_start), sl_start⟩)
    (c_start : PySem.W.codeIn K cd_start "_law_start" = true)
    (k_start : PySem.W.keepIn K (.ref f_start) = true)
    (a_draw : PySem.W.nsIn K mainGlobals "_law_draw" = some (some (.ref f_draw)))
    (l_draw : K.lookup f_draw = some ⟨oc_draw, od_draw, .func (PySem.W.fnOf "_law_draw" "_law_draw" (defArgs s_draw) (defBody s_draw) (defScope s_draw) .none kV_draw dc_draw pm_draw an_draw cd_draw ct_draw), sl_draw⟩)
    (c_draw : PySem.W.codeIn K cd_draw "_law_draw" = true)
    (k_draw : PySem.W.keepIn K (.ref f_draw) = true)
    (a_number : PySem.W.nsIn K mainGlobals "_law_number" = some (some (.ref f_number)))
    (l_number : K.lookup f_number = some ⟨oc_number, od_number, .func (PySem.W.fnOf "_law_number" "_law_number" (defArgs s_number) (defBody s_number) (defScope s_number) .none kV_number dc_number pm_number an_number cd_number ct_number), sl_number⟩)
    (c_number : PySem.W.codeIn K cd_number "_law_number" = true)
    (k_number : PySem.W.keepIn K (.ref f_number) = true)
    (a_stands : PySem.W.nsIn K mainGlobals "_law_stands" = some (some (.ref f_stands)))
    (l_stands : K.lookup f_stands = some ⟨oc_stands, od_stands, .func (PySem.W.fnOf "_law_stands" "_law_stands" (defArgs s_stands) (defBody s_stands) (defScope s_stands) .none kV_stands dc_stands pm_stands an_stands cd_stands ct_stands), sl_stands⟩)
    (c_stands : PySem.W.codeIn K cd_stands "_law_stands" = true)
    (k_stands : PySem.W.keepIn K (.ref f_stands) = true)
    (a_ends : PySem.W.nsIn K mainGlobals "_law_ends" = some (some (.ref f_ends)))
    (l_ends : K.lookup f_ends = some ⟨oc_ends, od_ends, .func (PySem.W.fnOf "_law_ends" "_law_ends" (defArgs s_ends) (defBody s_ends) (defScope s_ends) .none kV_ends dc_ends pm_ends an_ends cd_ends ct_ends), sl_ends⟩)
    (c_ends : PySem.W.codeIn K cd_ends "_law_ends" = true)
    (k_ends : PySem.W.keepIn K (.ref f_ends) = true)
    (a_other : PySem.W.nsIn K mainGlobals "_law_other" = some (some (.ref f_other)))
    (l_other : K.lookup f_other = some ⟨oc_other, od_other, .func (PySem.W.fnOf "_law_other" "_law_other" (defArgs s_other) (defBody s_other) (defScope s_other) .none kV_other dc_other pm_other an_other cd_other ct_other), sl_other⟩)
    (c_other : PySem.W.codeIn K cd_other "_law_other" = true)
    (k_other : PySem.W.keepIn K (.ref f_other) = true)
    (a_refused : PySem.W.nsIn K mainGlobals "_law_refused" = some (some (.ref f_refused)))
    (l_refused : K.lookup f_refused = some ⟨oc_refused, od_refused, .func (PySem.W.fnOf "_law_refused" "_law_refused" (defArgs s_refused) (defBody s_refused) (defScope s_refused) .none kV_refused dc_refused pm_refused an_refused cd_refused ct_refused), sl_refused⟩)
    (c_refused : PySem.W.codeIn K cd_refused "_law_refused" = true)
    (k_refused : PySem.W.keepIn K (.ref f_refused) = true)
    (a_refused_base : PySem.W.nsIn K mainGlobals "_law_refused_base" = some (some (.ref f_refused_base)))
    (l_refused_base : K.lookup f_refused_base = some ⟨oc_refused_base, od_refused_base, .func (PySem.W.fnOf "_law_refused_base" "_law_refused_base" (defArgs s_refused_base) (defBody s_refused_base) (defScope s_refused_base) .none kV_refused_base dc_refused_base pm_refused_base an_refused_base cd_refused_base ct_refused_base), sl_refused_base⟩)
    (c_refused_base : PySem.W.codeIn K cd_refused_base "_law_refused_base" = true)
    (k_refused_base : PySem.W.keepIn K (.ref f_refused_base) = true)
    (a_law : PySem.W.nsIn K mainGlobals "law" = some (some (.ref f_law)))
    (l_law : K.lookup f_law = some ⟨oc_law, od_law, .func (PySem.W.fnOf "law" "law" (defArgs s_law) (defBody s_law) (defScope s_law) .none kV_law dc_law pm_law an_law cd_law ct_law), sl_law⟩)
    (c_law : PySem.W.codeIn K cd_law "law" = true)
    (k_law : PySem.W.keepIn K (.ref f_law) = true)
    (pg_Region : PySem.W.plainGet K C_Region Str.empty = true)
    (hd_Region : PySem.W.hasDictIn K C_Region = true)
    (po_Region : PySem.W.plainOver K C_Region = true)
    (sa_Region : PySem.W.findIn K (.ref C_Region) "__setattr__" = some (some (.builtin "object.__setattr__")))
    (ca_Region : PySem.W.findIn K (.ref C_Region) "__class__" = some (some (.builtin "object.__class__")))
    (cn_Region : PySem.W.specialIn K (.builtin "object.__class__") "__get__" = some (some (.builtin "getset_descriptor.__get__")))
    (ct_Region : PySem.W.takesIn K (.builtin "object.__class__") = some true)
    (cm_Region : PySem.W.mroIn K C_Region (.type "object") = some true)
    (mk_Region : PySem.W.makesIn K C_Region = true)
    (kc_Region : PySem.W.keepIn K (.ref C_Region) = true)
    (na_Region_low : PySem.W.findIn K (.ref C_Region) "low" = some none)
    (na_Region_high : PySem.W.findIn K (.ref C_Region) "high" = some none)
    (na_Region_without : PySem.W.findIn K (.ref C_Region) "without" = some none)
    (na_Region_size : PySem.W.findIn K (.ref C_Region) "size" = some none)
    (na_Region_value : PySem.W.findIn K (.ref C_Region) "value" = some none)
    (rd_c_Region_of : PySem.W.readsIn K C_Region (.type "type") = true)
    (gt_c_Region_of : PySem.W.specialIn K (.ref C_Region) "__getattribute__" = some (some (.builtin "type.__getattribute__")))
    (vr_ShownError : PySem.W.readsIn K C_ShownError (.type "type") = true)
    (vg_ShownError : PySem.W.specialIn K (.ref C_ShownError) "__getattribute__" = some (some (.builtin "type.__getattribute__")))
    (vf_ShownError : PySem.W.findCls K (.ref C_ShownError) (.type "type") "__init__" = some (.val (.builtin "ValueError.__init__")))
    (lo_BadSign : K.lookup C_BadSign = some (excClassObj nm_BadSign qn_BadSign C_BadSign N_BadSign bs_BadSign bm_BadSign true sn_BadSign sub_BadSign ab_BadSign col_BadSign dd_BadSign k0_BadSign k1_BadSign k2_BadSign k3_BadSign k5_BadSign "ValueError.__new__"))
    (rv_BadSign : PySem.HandSPX.refsVE bm_BadSign = true)
    (es_BadSign : PySem.W.findIn K (.ref C_BadSign) "__setattr__" = some (some (.builtin "object.__setattr__")))
    (eb_BadSign : PySem.W.subIn K (.ref C_BadSign) (.type "BaseException") = some true)
    (et_BadSign : PySem.W.typeIn K (.ref C_BadSign) = some (.type "type"))
    (ek_BadSign : PySem.W.keepIn K (.ref C_BadSign) = true)
    (ei_BadSign : PySem.W.typeIn K (.ref f_BadSign_init) = some (.type "function"))
    (na_BadSign_sign : PySem.W.findIn K (.ref C_BadSign) "sign" = some none)
    (xg_BadSign : PySem.W.findIn K (.ref C_BadSign) "__getattribute__" = some (some (.builtin "BaseException.__getattribute__")))
    (xa_BadSign : PySem.W.findIn K (.ref C_BadSign) "__getattr__" = some none)
    (xd_BadSign : PySem.W.hasDictIn K C_BadSign = true)
    (xc_BadSign : PySem.W.findIn K (.ref C_BadSign) "__class__" = some (some (.builtin "object.__class__")))
    (xn_BadSign : PySem.W.specialIn K (.builtin "object.__class__") "__get__" = some (some (.builtin "getset_descriptor.__get__")))
    (xt_BadSign : PySem.W.takesIn K (.builtin "object.__class__") = some true)
    (xm_BadSign : PySem.W.mroIn K C_BadSign (.type "object") = some true)
    (xm_BB : PySem.W.exmOne K (.ref C_BadSign) (.ref C_BadSign) = some true)
    (xm_BS : PySem.W.exmOne K (.ref C_BadSign) (.ref C_ShownError) = some true)
    (ki_BV : PySem.W.kitOne K (.ref C_BadSign) (.type "ValueError") = some true)
    (ki_BT : PySem.W.kitOne K (.ref C_BadSign) (.ref C_TooFew) = some false)
    (ki_BB : PySem.W.kitOne K (.ref C_BadSign) (.ref C_BadSign) = some true)
    (z_len : PySem.W.nsIn K mainGlobals "len" = some none)
    (z_int : PySem.W.nsIn K mainGlobals "int" = some none)
    (z_tuple : PySem.W.nsIn K mainGlobals "tuple" = some none)
    (z_list : PySem.W.nsIn K mainGlobals "list" = some none)
    (z_range : PySem.W.nsIn K mainGlobals "range" = some none)
    (z_isinstance : PySem.W.nsIn K mainGlobals "isinstance" = some none)
    (z_sorted : PySem.W.nsIn K mainGlobals "sorted" = some none)
    (z_set : PySem.W.nsIn K mainGlobals "set" = some none)
    (z_ValueError : PySem.W.nsIn K mainGlobals "ValueError" = some none)
    (rn_inner_holes : ((PyProof.Rows.recsOf q).any fun e => e.name == ("inner_holes" : Str)) = true) :
    LamX.LawAtS l w K CX0 8 63 "_law_script" mg fa h := by
  have e := hfa.symm.trans (PySem.W.mg_of X G a_law)
  cases e
  have T : Txt K mg ⟨f_least_member, f_greatest_member, f_inner_holes, f_Region_init, f_Region_of, f_Region_contains, f_BadSign_init, f_start, f_draw, f_number, f_stands, f_ends, f_other, f_refused, f_refused_base, fa, C_Region, C_ShownError, C_TooFew, C_BadSign, q_inner_holes, P_inner_holes, cd_Region_init, e0_Region_init⟩ := by
    constructor
    case D_least_member => exact DefAt.mk' (st := s_least_member) (ps := ["low", "holes"]) l_least_member c_least_member k_least_member (fun _ _ _ _ _ _ us hl => match us, hl with | [_, _], _ => rfl)
    case g_least_member => exact PySem.W.mg_of X G a_least_member
    case D_greatest_member => exact DefAt.mk' (st := s_greatest_member) (ps := ["high", "holes"]) l_greatest_member c_greatest_member k_greatest_member (fun _ _ _ _ _ _ us hl => match us, hl with | [_, _], _ => rfl)
    case g_greatest_member => exact PySem.W.mg_of X G a_greatest_member
    case D_inner_holes => exact DefN.mk0 (st := s_inner_holes) (ps := ["low", "high", "holes"]) l_inner_holes c_inner_holes k_inner_holes (fun _ _ _ _ _ _ us hl => match us, hl with | [_, _, _], _ => rfl)
    case g_inner_holes => exact PySem.W.mg_of X G a_inner_holes
    case D_Region_init => exact DefN.mkD (st := s_Region_init) (ps := ["self", "low", "high", "without"]) (its := [.none, .none, .ref e0_Region_init]) (js := [0, 2, 3]) l_Region_init c_Region_init k_Region_init lT_Region_init rfl (.cons rfl (.cons rfl (.cons rfl (.nil)))) (by
        intro j hj
        simp only [List.mem_cons, List.not_mem_nil, or_false] at hj
        rcases hj with rfl | rfl | rfl
        · refine ⟨by simp, fun T kV doc pm an cdv ct us its hl hi => ?_⟩
          exact match us, its, hl, hi with | [_], [_, _, _], _, _ => ⟨_, rfl, rfl⟩
        · refine ⟨by simp, fun T kV doc pm an cdv ct us its hl hi => ?_⟩
          exact match us, its, hl, hi with | [_, _, _], [_, _, _], _, _ => ⟨_, rfl, rfl⟩
        · refine ⟨by simp, fun T kV doc pm an cdv ct us its hl hi => ?_⟩
          exact match us, its, hl, hi with | [_, _, _, _], [_, _, _], _, _ => ⟨_, rfl, rfl⟩)
    case E_Region_init => exact fun H => .inr ⟨_, #[], _, lE_Region_init, rfl, rfl, by decide, .nil⟩
    case D_Region_of => exact DefAt.mk' (st := s_Region_of) (ps := ["sign", "number"]) l_Region_of c_Region_of k_Region_of (fun _ _ _ _ _ _ us hl => match us, hl with | [_, _], _ => rfl)
    case D_Region_contains => exact DefAt.mk' (st := s_Region_contains) (ps := ["self", "number"]) l_Region_contains c_Region_contains k_Region_contains (fun _ _ _ _ _ _ us hl => match us, hl with | [_, _], _ => rfl)
    case D_BadSign_init => exact DefAt.mk' (st := s_BadSign_init) (ps := ["self", "sign"]) l_BadSign_init c_BadSign_init k_BadSign_init (fun _ _ _ _ _ _ us hl => match us, hl with | [_, _], _ => rfl)
    case D_start => exact DefAt.mk' (st := s_start) (ps := ["_law_script"]) l_start c_start k_start (fun _ _ _ _ _ _ us hl => match us, hl with | [_], _ => rfl)
    case g_start => exact PySem.W.mg_of X G a_start
    case D_draw => exact DefAt.mk' (st := s_draw) (ps := ["_law_state", "_law_many"]) l_draw c_draw k_draw (fun _ _ _ _ _ _ us hl => match us, hl with | [_, _], _ => rfl)
    case g_draw => exact PySem.W.mg_of X G a_draw
    case D_number => exact DefAt.mk' (st := s_number) (ps := ["_law_state"]) l_number c_number k_number (fun _ _ _ _ _ _ us hl => match us, hl with | [_], _ => rfl)
    case g_number => exact PySem.W.mg_of X G a_number
    case D_stands => exact DefAt.mk' (st := s_stands) (ps := ["_law_value", "_law_sign", "_law_number_here"]) l_stands c_stands k_stands (fun _ _ _ _ _ _ us hl => match us, hl with | [_, _, _], _ => rfl)
    case g_stands => exact PySem.W.mg_of X G a_stands
    case D_ends => exact DefAt.mk' (st := s_ends) (ps := ["_law_sign", "_law_number_here"]) l_ends c_ends k_ends (fun _ _ _ _ _ _ us hl => match us, hl with | [_, _], _ => rfl)
    case g_ends => exact PySem.W.mg_of X G a_ends
    case D_other => exact DefAt.mk' (st := s_other) (ps := ["_law_state", "_law_signs"]) l_other c_other k_other (fun _ _ _ _ _ _ us hl => match us, hl with | [_, _], _ => rfl)
    case g_other => exact PySem.W.mg_of X G a_other
    case D_refused => exact DefAt.mk' (st := s_refused) (ps := ["_law_sign", "_law_number_here"]) l_refused c_refused k_refused (fun _ _ _ _ _ _ us hl => match us, hl with | [_, _], _ => rfl)
    case g_refused => exact PySem.W.mg_of X G a_refused
    case D_refused_base => exact DefAt.mk' (st := s_refused_base) (ps := ["_law_sign", "_law_number_here"]) l_refused_base c_refused_base k_refused_base (fun _ _ _ _ _ _ us hl => match us, hl with | [_, _], _ => rfl)
    case g_refused_base => exact PySem.W.mg_of X G a_refused_base
    case D_law => exact DefAt.mk' (st := s_law) (ps := ["_law_script"]) l_law c_law k_law (fun _ _ _ _ _ _ us hl => match us, hl with | [_], _ => rfl)
    case g_law => exact PySem.W.mg_of X G a_law
    case g_Region => exact PySem.W.mg_of X G aC_Region
    case cl_Region => exact ⟨pg_Region, hd_Region, po_Region, sa_Region⟩
    case ty_Region => exact ⟨ca_Region, cn_Region, ct_Region, cm_Region⟩
    case M_Region => exact ⟨mk_Region, a_Region_init, i_Region_init, kc_Region⟩
    case na_Region_low => exact na_Region_low
    case na_Region_high => exact na_Region_high
    case na_Region_without => exact na_Region_without
    case na_Region_size => exact na_Region_size
    case na_Region_value => exact na_Region_value
    case c_Region_of => exact ⟨rd_c_Region_of, gt_c_Region_of, .inr ⟨_, _, a_Region_of, r_Region_of⟩, k_Region_of⟩
    case ct_Region => exact a_Region_contains
    case fc_Region => exact i_Region_contains
    case g_ShownError => exact PySem.W.mg_of X G aC_ShownError
    case vi_ShownError => exact ⟨vr_ShownError, vg_ShownError, vf_ShownError⟩
    case g_TooFew => exact PySem.W.mg_of X G aC_TooFew
    case g_BadSign => exact PySem.W.mg_of X G aC_BadSign
    case er_BadSign => exact ⟨⟨⟨_, _, _, _, _, _, _, _, _, _, _, _, _, _, _, lo_BadSign, rv_BadSign⟩, es_BadSign, eb_BadSign, et_BadSign, ek_BadSign⟩, a_BadSign_init, ei_BadSign⟩
    case na_BadSign_sign => exact na_BadSign_sign
    case ec_BadSign => exact ⟨xg_BadSign, xa_BadSign, eb_BadSign, xd_BadSign, xc_BadSign, xn_BadSign, xt_BadSign, xm_BadSign⟩
    case xf_BadSign => exact ⟨xg_BadSign, xa_BadSign, eb_BadSign, xd_BadSign⟩
    case xm_BB => exact xm_BB
    case xm_BS => exact xm_BS
    case ki_BV => exact ki_BV
    case ki_BT => exact ki_BT
    case ki_BB => exact ki_BB
    case n_len => exact PySem.W.mg_none_of X G z_len
    case n_int => exact PySem.W.mg_none_of X G z_int
    case n_tuple => exact PySem.W.mg_none_of X G z_tuple
    case n_list => exact PySem.W.mg_none_of X G z_list
    case n_range => exact PySem.W.mg_none_of X G z_range
    case n_isinstance => exact PySem.W.mg_none_of X G z_isinstance
    case n_sorted => exact PySem.W.mg_none_of X G z_sorted
    case n_set => exact PySem.W.mg_none_of X G z_set
    case n_ValueError => exact PySem.W.mg_none_of X G z_ValueError
  have t_inner_holes := HT "inner_holes" q_inner_holes P_inner_holes rn_inner_holes (tabIn_by a_inner_holes l_inner_holes rfl lc_inner_holes lv_inner_holes)
  refine ⟨PySem.W.fnOf "law" "law" (defArgs s_law) (defBody s_law) (defScope s_law) .none kV_law dc_law pm_law an_law cd_law ct_law, [(q_inner_holes, P_inner_holes)], sp_law K P_inner_holes, (by
      intro p hp
      simp only [List.mem_cons, List.not_mem_nil, or_false] at hp
      rcases hp with rfl
      · exact t_inner_holes.2), (by
      intro p hp
      simp only [List.mem_cons, List.not_mem_nil, or_false] at hp
      rcases hp with rfl
      · exact ln_inner_holes), (by
      intro p hp
      simp only [List.mem_cons, List.not_mem_nil, or_false] at hp
      rcases hp with rfl
      · exact t_inner_holes.1), fun s v => .of_eq rfl, fun H a ns hl hb hH hS => ⟨a, ns, rfl, hS, hl, hb, tabG_new (hH (q_inner_holes, P_inner_holes) (List.mem_cons_self)), fun _ => rfl⟩, fun base _ _ hB => ok_law (fun_mk (st := s_law) l_law c_law k_law) T (tabB_of (hB (q_inner_holes, P_inner_holes) (List.mem_cons_self)))⟩
theorem walk {l : PySem.W.OpenLaw} {q : Program} {loose : List Str} {XP : (Str → Option Value) → Heap → Prop} {YP : World → Heap → Prop} {d : DefRec} {K : Params → PySem.W.Frag} (hn : l.most = some 63) (hdf : d.params.defaults = [])
    (hY : ∀ (w : World) (h : Heap), YP w h → (K w.params).In h)
    (F : ∀ (w : World) (mg : Str → Option Value) (fa : Addr) (h : Heap), (K w.params).In h → h.Ns mainGlobals mg → mg d.name = some (.ref fa) →
      (∀ (y : Str) (c P : Addr), ((PyProof.Rows.recsOf q).any fun e => e.name == y) = true → PySem.W.tabIn (K w.params) y = some (c, P) → PySem.W.CodeHd h c P ∧ h.get? P = some { cls := .none, data := .fields #[] }) →
      LamX.LawAtS l w (K w.params) CX0 8 63 "_law_script" mg fa h) :
    PySem.W.WalkO q loose XP YP l.row.toRowW d [] (fun f vs => PySem.call f vs) :=
  walk_ofNm (n := 63) (k := 8) (x := "_law_script") hn (by decide) hdf ⟨rfl, by decide, by decide⟩ hY F
end K04
open PySem PySem.W PyProof.Rows in
set_option maxRecDepth 100000 in
set_option maxHeartbeats 0 in
theorem PySem.Challenge.cw_shownwrites_k04_region_of_sign_holds : PySem.Challenge.rw_shownwrites_k04_region_of_sign.Holds := by
  w_on; o_law; k_head; (case hw => w_witness2)
  k_fill
  refine K04.walk (l := PySem.Challenge.rw_shownwrites_k04_region_of_sign) rfl rfl (fun w h Y => PySem.W.kIn_of Y) ?F
  case F =>
    intro w mg fa h KX G hmg hT
    refine' K04.all_mk KX G hmg hT ?aC_Region ?aC_ShownError ?aC_TooFew ?aC_BadSign ?a_least_member ?l_least_member ?c_least_member ?k_least_member ?a_greatest_member ?l_greatest_member ?c_greatest_member ?k_greatest_member ?a_inner_holes ?l_inner_holes ?c_inner_holes ?k_inner_holes ?lc_inner_holes ?lv_inner_holes ?ln_inner_holes ?a_Region_init ?i_Region_init ?l_Region_init ?c_Region_init ?k_Region_init ?lT_Region_init ?lE_Region_init ?a_Region_of ?r_Region_of ?l_Region_of ?c_Region_of ?k_Region_of ?a_Region_contains ?i_Region_contains ?l_Region_contains ?c_Region_contains ?k_Region_contains ?a_BadSign_init ?i_BadSign_init ?l_BadSign_init ?c_BadSign_init ?k_BadSign_init ?a_start ?l_start ?c_start ?k_start ?a_draw ?l_draw ?c_draw ?k_draw ?a_number ?l_number ?c_number ?k_number ?a_stands ?l_stands ?c_stands ?k_stands ?a_ends ?l_ends ?c_ends ?k_ends ?a_other ?l_other ?c_other ?k_other ?a_refused ?l_refused ?c_refused ?k_refused ?a_refused_base ?l_refused_base ?c_refused_base ?k_refused_base ?a_law ?l_law ?c_law ?k_law ?pg_Region ?hd_Region ?po_Region ?sa_Region ?ca_Region ?cn_Region ?ct_Region ?cm_Region ?mk_Region ?kc_Region ?na_Region_low ?na_Region_high ?na_Region_without ?na_Region_size ?na_Region_value ?rd_c_Region_of ?gt_c_Region_of ?vr_ShownError ?vg_ShownError ?vf_ShownError ?lo_BadSign ?rv_BadSign ?es_BadSign ?eb_BadSign ?et_BadSign ?ek_BadSign ?ei_BadSign ?na_BadSign_sign ?xg_BadSign ?xa_BadSign ?xd_BadSign ?xc_BadSign ?xn_BadSign ?xt_BadSign ?xm_BadSign ?xm_BB ?xm_BS ?ki_BV ?ki_BT ?ki_BB ?z_len ?z_int ?z_tuple ?z_list ?z_range ?z_isinstance ?z_sorted ?z_set ?z_ValueError ?rn_inner_holes
    (case aC_Region => first | k_is | rfl)
    (case aC_ShownError => first | k_is | rfl)
    (case aC_TooFew => first | k_is | rfl)
    (case aC_BadSign => first | k_is | rfl)
    (case a_least_member => first | k_is | rfl)
    (case l_least_member => first | k_is | rfl)
    (case c_least_member => first | k_is | rfl)
    (case k_least_member => first | k_is | rfl)
    (case a_greatest_member => first | k_is | rfl)
    (case l_greatest_member => first | k_is | rfl)
    (case c_greatest_member => first | k_is | rfl)
    (case k_greatest_member => first | k_is | rfl)
    (case a_inner_holes => first | k_is | rfl)
    (case l_inner_holes => first | k_is | rfl)
    (case c_inner_holes => first | k_is | rfl)
    (case k_inner_holes => first | k_is | rfl)
    (case lc_inner_holes => first | k_is | rfl)
    (case lv_inner_holes => first | k_is | rfl)
    (case ln_inner_holes => first | k_is | rfl)
    (case a_Region_init => first | k_is | rfl)
    (case i_Region_init => first | k_is | rfl)
    (case l_Region_init => first | k_is | rfl)
    (case c_Region_init => first | k_is | rfl)
    (case k_Region_init => first | k_is | rfl)
    (case lT_Region_init => first | k_is | rfl)
    (case lE_Region_init => first | k_is | rfl)
    (case a_Region_of => first | k_is | rfl)
    (case r_Region_of => first | k_is | rfl)
    (case l_Region_of => first | k_is | rfl)
    (case c_Region_of => first | k_is | rfl)
    (case k_Region_of => first | k_is | rfl)
    (case a_Region_contains => first | k_is | rfl)
    (case i_Region_contains => first | k_is | rfl)
    (case l_Region_contains => first | k_is | rfl)
    (case c_Region_contains => first | k_is | rfl)
    (case k_Region_contains => first | k_is | rfl)
    (case a_BadSign_init => first | k_is | rfl)
    (case i_BadSign_init => first | k_is | rfl)
    (case l_BadSign_init => first | k_is | rfl)
    (case c_BadSign_init => first | k_is | rfl)
    (case k_BadSign_init => first | k_is | rfl)
    (case a_start => first | k_is | rfl)
    (case l_start => first | k_is | rfl)
    (case c_start => first | k_is | rfl)
    (case k_start => first | k_is | rfl)
    (case a_draw => first | k_is | rfl)
    (case l_draw => first | k_is | rfl)
    (case c_draw => first | k_is | rfl)
    (case k_draw => first | k_is | rfl)
    (case a_number => first | k_is | rfl)
    (case l_number => first | k_is | rfl)
    (case c_number => first | k_is | rfl)
    (case k_number => first | k_is | rfl)
    (case a_stands => first | k_is | rfl)
    (case l_stands => first | k_is | rfl)
    (case c_stands => first | k_is | rfl)
    (case k_stands => first | k_is | rfl)
    (case a_ends => first | k_is | rfl)
    (case l_ends => first | k_is | rfl)
    (case c_ends => first | k_is | rfl)
    (case k_ends => first | k_is | rfl)
    (case a_other => first | k_is | rfl)
    (case l_other => first | k_is | rfl)
    (case c_other => first | k_is | rfl)
    (case k_other => first | k_is | rfl)
    (case a_refused => first | k_is | rfl)
    (case l_refused => first | k_is | rfl)
    (case c_refused => first | k_is | rfl)
    (case k_refused => first | k_is | rfl)
    (case a_refused_base => first | k_is | rfl)
    (case l_refused_base => first | k_is | rfl)
    (case c_refused_base => first | k_is | rfl)
    (case k_refused_base => first | k_is | rfl)
    (case a_law => first | k_is | rfl)
    (case l_law => first | k_is | rfl)
    (case c_law => first | k_is | rfl)
    (case k_law => first | k_is | rfl)
    (case pg_Region => first | k_is | rfl)
    (case hd_Region => first | k_is | rfl)
    (case po_Region => first | k_is | rfl)
    (case sa_Region => first | k_is | rfl)
    (case ca_Region => first | k_is | rfl)
    (case cn_Region => first | k_is | rfl)
    (case ct_Region => first | k_is | rfl)
    (case cm_Region => first | k_is | rfl)
    (case mk_Region => first | k_is | rfl)
    (case kc_Region => first | k_is | rfl)
    (case na_Region_low => first | k_is | rfl)
    (case na_Region_high => first | k_is | rfl)
    (case na_Region_without => first | k_is | rfl)
    (case na_Region_size => first | k_is | rfl)
    (case na_Region_value => first | k_is | rfl)
    (case rd_c_Region_of => first | k_is | rfl)
    (case gt_c_Region_of => first | k_is | rfl)
    (case vr_ShownError => first | k_is | rfl)
    (case vg_ShownError => first | k_is | rfl)
    (case vf_ShownError => first | k_is | rfl)
    (case lo_BadSign => first | k_is | rfl)
    (case rv_BadSign => first | k_is | rfl)
    (case es_BadSign => first | k_is | rfl)
    (case eb_BadSign => first | k_is | rfl)
    (case et_BadSign => first | k_is | rfl)
    (case ek_BadSign => first | k_is | rfl)
    (case ei_BadSign => first | k_is | rfl)
    (case na_BadSign_sign => first | k_is | rfl)
    (case xg_BadSign => first | k_is | rfl)
    (case xa_BadSign => first | k_is | rfl)
    (case xd_BadSign => first | k_is | rfl)
    (case xc_BadSign => first | k_is | rfl)
    (case xn_BadSign => first | k_is | rfl)
    (case xt_BadSign => first | k_is | rfl)
    (case xm_BadSign => first | k_is | rfl)
    (case xm_BB => first | k_is | rfl)
    (case xm_BS => first | k_is | rfl)
    (case ki_BV => first | k_is | rfl)
    (case ki_BT => first | k_is | rfl)
    (case ki_BB => first | k_is | rfl)
    (case z_len => first | k_is | rfl)
    (case z_int => first | k_is | rfl)
    (case z_tuple => first | k_is | rfl)
    (case z_list => first | k_is | rfl)
    (case z_range => first | k_is | rfl)
    (case z_isinstance => first | k_is | rfl)
    (case z_sorted => first | k_is | rfl)
    (case z_set => first | k_is | rfl)
    (case z_ValueError => first | k_is | rfl)
    (case rn_inner_holes => first | k_is | rfl | decide +kernel)
