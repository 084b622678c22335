import PyProof.Rows.All
import Wide.All
import OpenK.AllK
import Wide.FinOn
import HandS.ForMost
import HandS.ForExc
import HandS.Flow
import HandS.IsInst
import HandS.StrMore
import HandS.Replace
import HandS.FStr
import HandS.TupAny
import HandS.Walk
import HandS.Zip
import KE.GoesMore
import HandS.ClsMeth
import KE.RegKIsAll
import HandS.WordsExc
import HandS.ExcIs
import PyProof.ListStr
import PyProof.StrOps2
import HandS.Conv
import KE.GoesEnum
import KE.KDictZip
import HandS.ExcOwn
import HandS.Style
import KE.KRevSl
import HandS.DictComp
import HandS.EndBits
import HandS.More
import HandS.SortInts
import PySem.Challenge.RW_sheetland_k06_whole_four_laid_together
set_option Elab.async false
set_option maxRecDepth 100000
set_option linter.all false
set_option maxHeartbeats 4000000
namespace S
open PySem L2

/-! ### names of the module -/
/-- the module's name x holds v -/
def GV (mg : Str → Option Value) (x : Str) (v : V) : Prop := ∃ u, mg x = some u ∧ RelV v u
theorem pe_gl {X : Cx} {x : Str} {v : V} {pos : Pos} (hg : Gl X x) (h : GV X.mg x v) (hd : (x == ("__debug__" : Str)) = false := by decide) : PE X (.Name x pos) (tC v) := by
  obtain ⟨u, hm, r⟩ := h
  exact pe_glob hg hm r hd

/-! ### a def that stands in the text and keeps its promise -/
def Has (P : Program) (w : World) (K : PySem.W.Frag) (mg : Str → Option Value) (base : Heap) (CX : CXT) (k : Nat) (x : Str) (ps : List Str) (sp : Sp) : Prop :=
  ∃ (f : Addr) (fd : FuncData), FnOk P w K mg base CX k f fd ps sp ∧ mg x = some (.ref f) ∧ PySem.W.keepIn K (.ref f) = true ∧ Binds K fd ps []
theorem pe_fn {X : Cx} {j k : Nat} {x : Str} {ps : List Str} {sp : Sp} {e : Expr} {es : List Expr} {t : TA} {p pos : Pos} (h : Has X.prog X.w X.K X.mg X.base CX0 k x ps sp) (hr : Room j X.A) (hk : k ≤ j) (hg : Gl X x) (ha : PA X (e :: es) t)
    (hdb : (x == ("__debug__" : Str)) = false := by decide) (he : starEach (e :: es) X.env = (false, eval e X.env) :: starEach es X.env := by rfl) (hpl : (backTo pos (starEach es X.env)).any (·.1) = false := by rfl) :
    PE X (.Call (.Name x p) (e :: es) [] pos) (tCall sp [] E0 t) := by
  obtain ⟨f, fd, G, hm, kp, b⟩ := h
  exact pe_call G (hr.mono hk) hg hm kp b .nil pass0 ha hdb he hpl
theorem pe_fn0 {X : Cx} {j k : Nat} {x : Str} {ps : List Str} {sp : Sp} {p pos : Pos} (h : Has X.prog X.w X.K X.mg X.base CX0 k x ps sp) (hr : Room j X.A) (hk : k ≤ j) (hg : Gl X x)
    (hdb : (x == ("__debug__" : Str)) = false := by decide) : PE X (.Call (.Name x p) [] [] pos) (tCall sp [] E0 tNil) := by
  obtain ⟨f, fd, G, hm, kp, b⟩ := h
  exact pe_call0 G (hr.mono hk) hg hm kp b .nil pass0 hdb

/-- a def of the text, as the top has left it -/
def DefIn (K : PySem.W.Frag) (x : Str) (st : Stmt) : Prop := ∃ (f : Addr) (fd : FuncData), Fun K x x st f fd ∧ PySem.W.nsIn K mainGlobals x = some (some (.ref f))
theorem def_mk {K : PySem.W.Frag} {x : Str} {st : Stmt} {f : Addr} {oc : Value} {od an : Option Addr} {osl : Array (Option Value)} {kV doc pm cdv ct : Value} (a : PySem.W.nsIn K mainGlobals x = some (some (.ref f)))
    (l : K.lookup f = some ⟨oc, od, .func (PySem.W.fnOf x x (defArgs st) (defBody st) (defScope st) .none kV doc pm an cdv ct), osl⟩) (c : PySem.W.codeIn K cdv x = true) (k : PySem.W.keepIn K (.ref f) = true) : DefIn K x st := ⟨f, _, fun_mk l c k, a⟩
/-- the def as a module's function -/
structure FnIn (K : PySem.W.Frag) (mg : Str → Option Value) (x : Str) (st : Stmt) : Prop where
  ex : ∃ (f : Addr) (fd : FuncData), Fun K x x st f fd ∧ mg x = some (.ref f)
theorem DefIn.fn {K : PySem.W.Frag} {x : Str} {st : Stmt} {h : Heap} {mg : Str → Option Value} (d : DefIn K x st) (X : K.In h) (G : h.Ns mainGlobals mg) : FnIn K mg x st := by
  obtain ⟨f, fd, F, a⟩ := d
  exact ⟨f, fd, F, PySem.W.mg_of X G a⟩
section
variable {P : Program} {w : World} {K : PySem.W.Frag} {mg : Str → Option Value} {base : Heap}
theorem FnIn.ok {x : Str} {st : Stmt} {N ps : List Str} {k : Nat} {sp : Sp} (F : FnIn K mg x st) (S : FnScope N ps (defScope st)) (len : ∀ vs H Q E, sp vs H Q E → vs.length = ps.length)
    (hb : ∀ (kV doc pm : Value) (an : Option Addr) (cdv ct : Value) (us : List Value), us.length = ps.length → bindArgs (PySem.W.fnOf x x (defArgs st) (defBody st) (defScope st) .none kV doc pm an cdv ct) ⟨us, []⟩ = pure (ps.zip us))
    (hbody : ∀ (f : Addr) (cdv : Value) (A : Around) (outer : List Env) (s : Shared) (H : Hp) (vs : List V) (Q : VK) (E : XK), Room k (A.deeper (PyProof.Rows.envOfC x (defScope st) s.heap.objs.size f cdv)) → sp vs H Q E →
      ∃ t, PSs (cxOf CX0 P w K mg base N x (defScope st) f cdv A outer s H E).nox (defBody st) t ∧ t { nx := fun _ H' => Q .non H', rt := Q } (start N vs) H) : Has P w K mg base CX0 (k + 1) x ps sp := by
  obtain ⟨f, fd, F, hm⟩ := F.ex
  exact ⟨f, fd, F.ok S len (hbody f), hm, F.kp, F.binds hb⟩
end

/-! ### the rules with the written part by its name (within comprehensions the context differs) -/
section
variable {X : Cx} {tg e e2 l o : Expr} {es : List Expr} {ta te tl to : TE} {tas : TA} {pos p apos tpos : Pos} {kk : Nat} {elts : List Expr} (K : PySem.W.Frag)
theorem call_isiK' (h : X.K = K := by rfl) : CallR X (.builtin "isinstance") (rIsi K) := h ▸ call_isi
theorem cr_allK (hc : X.calm = true) (h : X.K = K := by rfl) : CallR X (.builtin "all") (rAll K) := h ▸ cr_all hc
theorem cr_anyK (hc : X.calm = true) (h : X.K = K := by rfl) : CallR X (.builtin "any") (rAny K) := h ▸ cr_any hc
theorem cr_sumK (hc : X.calm = true) (h : X.K = K := by rfl) : CallR X (.builtin "sum") (rSum K) := h ▸ cr_sum hc
theorem cr_minK' (hc : X.calm = true) (h : X.K = K := by rfl) : CallR X (.builtin "min") (rMin K) := h ▸ cr_min hc
theorem cr_maxK' (hc : X.calm = true) (h : X.K = K := by rfl) : CallR X (.builtin "max") (rMax K) := h ▸ cr_max hc
theorem call_lenK (h : X.K = K := by rfl) : CallR X (.builtin "len") (fun xs H Q => ∃ x n, xs = [x] ∧ LenV K x H n ∧ Q (.int n) H) := h ▸ call_len
theorem call_list_ofK (h : X.K = K := by rfl) : CallR X (.type "list") (fun xs H Q => ∃ p ys, xs = [.ref p] ∧ (SqL K H p ys ∨ SqT K H p ys) ∧ ∀ l, H l = none → Q (.ref l) (upd H l (.lst ys))) := h ▸ call_list_of
theorem call_tuple_ofK (h : X.K = K := by rfl) : CallR X (.type "tuple") (fun xs H Q => ∃ p ys, xs = [.ref p] ∧ ((SqL K H p ys ∧ ∀ l, H l = none → Q (.ref l) (upd H l (.tup ys))) ∨ (SqT K H p ys ∧ Q (.ref p) H))) := h ▸ call_tuple_of
theorem ix_listK (h : X.K = K := by rfl) : IxR X (rIxL K) := h ▸ ix_list
theorem ix_tupK (h : X.K = K := by rfl) : IxR X (rIxT K) := h ▸ ix_tup
theorem op_eqDK (hu : X.A.units + 64 < cLine) (h : X.K = K := by rfl) : OpR X (compareOp .Eq) (rEqD K) := h ▸ op_eqD hu
theorem op_neDK (hu : X.A.units + 64 < cLine) (h : X.K = K := by rfl) : OpR X (compareOp .NotEq) (rNeD K) := h ▸ op_neD hu
theorem op_in_seqK (h : X.K = K := by rfl) : OpR X (compareOp .In) (rIn K false) := h ▸ op_in_seq
theorem op_notIn_seqK (h : X.K = K := by rfl) : OpR X (compareOp .NotIn) (rIn K true) := h ▸ op_notIn_seq
theorem op_catAK (h : X.K = K := by rfl) : OpR X (binaryOp .Add) (rCatA K) := h ▸ op_catA
theorem op_ltTK (hu : X.A.units < cLine) (h : X.K = K := by rfl) : OpR X (compareOp .Lt) (rLtT K) := h ▸ op_ltT hu
theorem sl_listK (h : X.K = K := by rfl) : SlR X (rSlL K) := h ▸ sl_list
theorem sl_tupAK (h : X.K = K := by rfl) : SlR X (rSlA K) := h ▸ sl_tupA
theorem pe_joinK (ho : PE X o to) (he : PE X e te) (h : X.K = K := by rfl) (hs : starEach [e] X.env = [(false, eval e X.env)] := by rfl) (hbase : attributeBase o "join" X.env (eval o X.env) = eval o X.env := by rfl) (hline : (apos.endLine == pos.line) = true := by rfl) :
    PE X (.Call (.Attribute o "join" apos) [e] [] pos) (tM1 (fun x xs H Q => ∃ a p, ∃ ys : List Str, x = .str a ∧ xs = [.ref p] ∧ (SqL K H p (ys.map V.str) ∨ SqT K H p (ys.map V.str)) ∧ (ys.map (·.length)).sum + ys.length * a.length ≤ 16777216 ∧ Q (.str (Txt.join a ys)) H) to te) := h ▸ pe_join ho he hs hbase hline
theorem pe_fldK {f : Str} (he : PE X e ta) (hb : attributeBase e f X.env (eval e X.env) = eval e X.env) (h : X.K = K := by rfl) : PE X (.Attribute e f pos) (tFld K ta f) := h ▸ pe_fld he hb
theorem pi_listK (hl : PE X l tl) (h : X.K = K := by rfl) : PI X tg l (iList K tl) := h ▸ pi_list hl
theorem pi_tupK (hl : PE X l tl) (h : X.K = K := by rfl) : PI X tg l (iTup K tl) := h ▸ pi_tup hl
theorem pi_enumK (hg : Gl X "enumerate") (hm : X.mg "enumerate" = none) (ha : PA X [e] tas) (h : X.K = K := by rfl) (hs : starEach [e] X.env = [(false, eval e X.env)] := by rfl) : PI X (.Tuple elts kk tpos) (.Call (.Name "enumerate" p) [e] [] pos) (iEnum K tas) := h ▸ pi_enum hg hm ha hs
theorem pi_zipK (hg : Gl X "zip") (hm : X.mg "zip" = none) (ha : PA X [e, e2] tas) (h : X.K = K := by rfl) (hs : starEach [e, e2] X.env = (false, eval e X.env) :: starEach [e2] X.env := by rfl) (hpl : (backTo pos (starEach [e2] X.env)).any (·.1) = false := by rfl) :
    PI X (.Tuple elts kk tpos) (.Call (.Name "zip" p) [e, e2] [] pos) (iZip K tas) := h ▸ pi_zip hg hm ha hs hpl
theorem pg_tupK {n : Nat} {t : TGs} (hc : X.calm = true) (ht : PGs X es t) (h : X.K = K := by rfl) (hn : (assignEach es X.env).length = n := by rfl) (hst : (assignEach es X.env).findIdx? (·.1) = none := by rfl) : PG X (.Tuple es kk pos) (gTup K n t) := h ▸ pg_tup hc ht hn hst
theorem pe_bmK {t : TA} {name : Str} {cpos : Pos} {T id : String} {r : V → List V → Hp → VK → Prop} (pa : PlainAttrs T) (slot : Slot T name id) (hty : typeOf (.builtin id) = pure (.type "method_descriptor")) (hm : MtR X id r) (ho : PE X o to) (ha : PA X (e :: es) t) (h : X.K = K := by rfl)
    (hbase : attributeBase o name X.env (eval o X.env) = eval o X.env := by rfl)
    (hfew : ((backTo cpos (starEach (e :: es) X.env)).all (fun x => !x.1) && (backToKw cpos (keywordEach [] X.env)).all (fun x => x.1.isSome) && decide ((e :: es).length + ([] : List Keyword).length + (if ([] : List Keyword).isEmpty then 0 else 1) < 30)) = true := by rfl)
    (hline : (apos.endLine == cpos.line) = true := by rfl) (hs : starEach (e :: es) X.env = (false, eval e X.env) :: starEach es X.env := by rfl) (hplain : (backTo cpos (starEach es X.env)).any (·.1) = false := by rfl) :
    PE X (.Call (.Attribute o name apos) (e :: es) [] cpos) (tBM K T r to t) := h ▸ pe_bm pa slot hty hm ho ha hbase hfew hline hs hplain
theorem pe_bm0K {name : Str} {cpos : Pos} {T id : String} {r : V → List V → Hp → VK → Prop} (pa : PlainAttrs T) (slot : Slot T name id) (hty : typeOf (.builtin id) = pure (.type "method_descriptor")) (hm : MtR X id r) (ho : PE X o to) (h : X.K = K := by rfl)
    (hbase : attributeBase o name X.env (eval o X.env) = eval o X.env := by rfl) (hline : (apos.endLine == cpos.line) = true := by rfl) : PE X (.Call (.Attribute o name apos) [] [] cpos) (tBM0 K T r to) := h ▸ pe_bm0 pa slot hty hm ho hbase hline
end

/-! ### the law's end -/
theorem end_mk {P : Program} {w : World} {K : PySem.W.Frag} {mg : Str → Option Value} {x : Str} {st : Stmt} {fa : Addr} {y : Str} {k : Nat} {CX : CXT} {sp : Sp} (F : FnIn K mg x st) (hfa : mg x = some (.ref fa))
    (hb : ∀ (kV doc pm : Value) (an : Option Addr) (cdv ct : Value) (v : Value), bindArgs (PySem.W.fnOf x x (defArgs st) (defBody st) (defScope st) .none kV doc pm an cdv ct) ⟨[v], []⟩ = pure [(y, v)])
    (ok : ∀ (fd : FuncData), Fun K x x st fa fd → ∀ base : Heap, FnOk P w K mg base CX k fa fd [y] sp) :
    ∃ fd : FuncData, (∀ (s : Shared) (v : Value), BindsTo s fd ⟨[v], []⟩ [(y, v)]) ∧ ∀ base : Heap, K.In base → base.Ns mainGlobals mg → FnOk P w K mg base CX k fa fd [y] sp := by
  obtain ⟨f, fd, F, hm⟩ := F.ex
  have e := hfa.symm.trans hm
  cases e
  refine ⟨fd, fun s v => ?_, fun base _ _ => ok fd F base⟩
  obtain ⟨oc, od, kV, doc, pm, an, cdv, ct, osl, rfl, lk, hcd⟩ := F.ex
  exact .of_eq (hb kV doc pm an cdv ct v)
theorem gv_mk {K : PySem.W.Frag} {h : Heap} {mg : Str → Option Value} {x : Str} {v : V} {u : Value} (X : K.In h) (G : h.Ns mainGlobals mg) (a : PySem.W.nsIn K mainGlobals x = some (some u)) (r : RelV v u) : GV mg x v := ⟨u, PySem.W.mg_of X G a, r⟩

/-! ### a statement, then the rest, with a word between them -/
def tCut (t u : TS) : TS := fun D σ H => ∃ Mid : St → Hp → Prop, t { D with nx := Mid } σ H ∧ ∀ σ' H', Mid σ' H' → u D σ' H'
theorem pss_cut {X : Cx} {st : Stmt} {rest : List Stmt} {t u : TS} (h1 : PS X st t) (h2 : PSs X rest u) : PSs X (st :: rest) (tCut t u) := by
  refine ⟨fun pins s σ H D I h => ?_⟩
  obtain ⟨Mid, hm, hu⟩ := h
  refine wpAny_execs_cons (thn (h1.run pins s σ H { D with nx := Mid } I hm) fun f s1 q => ?_)
  cases f with
  | next =>
    obtain ⟨σ', H', I', q⟩ := q
    exact h2.run pins s1 σ' H' D I' (hu σ' H' q)
  | ret v => exact q
  | brk => exact q
  | cont => exact q
abbrev ks (x : Str) : Key := Sum.inr x
theorem dget {H : Hp} {a : Addr} {kvs : List (Key × V)} {x : Str} {v : V} (h : H a = some (.dK kvs)) (e : valV kvs (ks x) = some v) : DGet H a (.str x) (some v) := by
  have q := DGet.k (k := ks x) h
  rw [e] at q
  exact q
theorem dput {H : Hp} {a : Addr} {kvs kvs' : List (Key × V)} {x : Str} {v : V} (h : H a = some (.dK kvs)) (hl : kvs.length < sizeLine) (e : putK kvs (ks x) v = kvs') : DPut H a (.str x) v (upd H a (.dK kvs')) := by
  have q := DPut.k (k := ks x) (v := v) h hl
  rw [e] at q
  exact q
/-- the tests' answer is known -/
theorem ite_pos {c : Bool} {A B : Prop} (e : c = true) (h : A) : if c = true then A else B := by rw [if_pos e]; exact h
theorem ite_neg {c : Bool} {A B : Prop} (e : c = false) (h : B) : if c = true then A else B := by rw [if_neg (by rw [e]; decide)]; exact h
theorem ite_both {c : Bool} {A B : Prop} (h1 : c = true → A) (h2 : c = false → B) : if c = true then A else B := by
  cases c with
  | true => exact iteT (h1 rfl)
  | false => exact iteF (h2 rfl)
theorem szn (n : Nat) (h : n ≤ 1000 := by decide) : n ≤ sizeLine := Nat.le_trans h (by decide)
theorem szt (n : Nat) (h : n < 1000 := by decide) : n < sizeLine := Nat.lt_of_lt_of_le h (by decide)
/-! ### items by place -/
theorem atI_in {α : Type} {xs : List α} {i : Int} (h0 : 0 ≤ i) (h1 : i < (xs.length : Int)) : ∃ x, atI xs i = some x ∧ xs[i.toNat]? = some x := by
  have hl : i.toNat < xs.length := by omega
  refine ⟨xs[i.toNat], ?_, by simp [hl]⟩
  have e : ((i.toNat : Nat) : Int) = i := Int.toNat_of_nonneg h0
  have q := atI_nat (xs := xs) (j := i.toNat) (v := xs[i.toNat]) (by simp [hl])
  rw [e] at q
  exact q

/-- a written list, item by item -/
theorem atI0 {α : Type} {a : α} {l : List α} : atI (a :: l) 0 = some a := atI_nat (j := 0) rfl
theorem atI1 {α : Type} {a b : α} {l : List α} : atI (a :: b :: l) 1 = some b := atI_nat (j := 1) rfl
theorem atI2 {α : Type} {a b c : α} {l : List α} : atI (a :: b :: c :: l) 2 = some c := atI_nat (j := 2) rfl
theorem atI3 {α : Type} {a b c d : α} {l : List α} : atI (a :: b :: c :: d :: l) 3 = some d := atI_nat (j := 3) rfl

/-! ### heaps -/
theorem same_new {H : Hp} {p : Addr} {o : HO} (h : H p = none) : Same H (upd H p o) := fun a u e => by
  rw [upd_ne (ne_of_none e h)]
  exact e
theorem same_tup {K : PySem.W.Frag} {H H' : Hp} {a : Addr} {xs : List V} (e : Same H H') (h : SqT K H a xs) : SqT K H' a xs := by
  rcases h with (h | ⟨o, h⟩) | h
  · exact .inl (.inl (e _ _ h))
  · exact .inl (.inr ⟨o, e _ _ h⟩)
  · exact .inr h
/-! ### data: what stands at a value, by its kind; dicts with int and text keys too -/
def keyD : Key → PyData
  | .inl i => .int i
  | .inr x => .str x
/-- a tuple: the heap's own, or, of texts, any -/
def strHead : List PyData → Bool
  | .str _ :: _ => true
  | [] => true
  | _ => false
/-- of ints: such a list may be the script itself -/
def intHead : List PyData → Bool
  | .int _ :: _ => true
  | [] => true
  | _ => false
def TupAt (K : PySem.W.Frag) (G : Hp) (a : Addr) (xs : List V) (ds : List PyData) : Prop := G a = some (.tup xs) ∨ (SqT K G a xs ∧ strHead ds = true)
theorem TupAt.sq {K : PySem.W.Frag} {G : Hp} {a : Addr} {xs : List V} {ds : List PyData} (h : TupAt K G a xs ds) : SqT K G a xs := h.elim SqT.of fun z => z.1
theorem same_tupA {K : PySem.W.Frag} {H H' : Hp} {a : Addr} {xs : List V} {ds : List PyData} (e : Same H H') (h : TupAt K H a xs ds) : TupAt K H' a xs ds := h.imp (e _ _) fun z => ⟨same_tup e z.1, z.2⟩
/-- an exception of the class at C, without a dict, that was caught -/
def excφ (a C : Addr) : Heap → Prop := fun h => ∃ oe vs, h.get? a = some oe ∧ oe.cls = .ref C ∧ oe.dict = none ∧ oe.data = .fields vs
mutual
inductive Dt (K : PySem.W.Frag) (G : Hp) : V → PyData → Prop
  | non : Dt K G .non .none
  | bl (b : Bool) : Dt K G (.bl b) (.bool b)
  | int (i : Int) : Dt K G (.int i) (.int i)
  | str (x : Str) : Dt K G (.str x) (.str x)
  | lst {a : Addr} {xs : List V} {ds : List PyData} : G a = some (.lst xs) → DtAll K G xs ds → Dt K G (.ref a) (.list ds)
  | tup {a : Addr} {xs : List V} {ds : List PyData} : TupAt K G a xs ds → DtAll K G xs ds → Dt K G (.ref a) (.tuple ds)
  | dct {a : Addr} {kvs : List (Key × V)} {ds : List (PyData × PyData)} : G a = some (.dK kvs) → DtKvs K G kvs ds → Dt K G (.ref a) (.dict ds)
  | obj {a C dx : Addr} {fs : List (Str × V)} {ds : List (PyData × PyData)} : G a = some (.ins C dx fs) → DtFs K G fs ds → Dt K G (.ref a) (.dict ((.none, .int (C : Nat)) :: ds))
  | exc {a C : Addr} : G a = some (.ext (excφ a C)) → Dt K G (.ref a) (.dict [(.bool true, .int (C : Nat))])
  | dtp {a : Addr} {kvs : List (List Key × V)} {ds : List (PyData × PyData)} : G a = some (.dT kvs) → DtKts K G kvs ds → Dt K G (.ref a) (.dict ((.bool false, .none) :: ds))
  | scr {a : Addr} {xs : List V} {ds : List PyData} : SqL K G a xs → intHead ds = true → DtAll K G xs ds → Dt K G (.ref a) (.list ds)
inductive DtAll (K : PySem.W.Frag) (G : Hp) : List V → List PyData → Prop
  | nil : DtAll K G [] []
  | cons {v : V} {vs : List V} {d : PyData} {ds : List PyData} : Dt K G v d → DtAll K G vs ds → DtAll K G (v :: vs) (d :: ds)
inductive DtKvs (K : PySem.W.Frag) (G : Hp) : List (Key × V) → List (PyData × PyData) → Prop
  | nil : DtKvs K G [] []
  | cons {k : Key} {v : V} {vs : List (Key × V)} {d : PyData} {ds : List (PyData × PyData)} : Dt K G v d → DtKvs K G vs ds → DtKvs K G ((k, v) :: vs) ((keyD k, d) :: ds)
inductive DtKts (K : PySem.W.Frag) (G : Hp) : List (List Key × V) → List (PyData × PyData) → Prop
  | nil : DtKts K G [] []
  | cons {k : List Key} {v : V} {vs : List (List Key × V)} {d : PyData} {ds : List (PyData × PyData)} : Dt K G v d → DtKts K G vs ds → DtKts K G ((k, v) :: vs) ((.tuple (k.map keyD), d) :: ds)
inductive DtFs (K : PySem.W.Frag) (G : Hp) : List (Str × V) → List (PyData × PyData) → Prop
  | nil : DtFs K G [] []
  | cons {f : Str} {v : V} {vs : List (Str × V)} {d : PyData} {ds : List (PyData × PyData)} : Dt K G v d → DtFs K G vs ds → DtFs K G ((f, v) :: vs) ((.str f, d) :: ds)
end
/-- an instance that is only read: its class, its fields -/
abbrev dExc (C : Addr) : PyData := .dict [(.bool true, .int (C : Nat))]
/-- a dict whose keys are tuples -/
abbrev dTup (ds : List (PyData × PyData)) : PyData := .dict ((.bool false, .none) :: ds)
abbrev dObj (C : Addr) (ds : List (PyData × PyData)) : PyData := .dict ((.none, .int (C : Nat)) :: ds)
mutual
theorem same_dt {K : PySem.W.Frag} {H H' : Hp} (e : Same H H') : ∀ {v : V} {d : PyData}, Dt K H v d → Dt K H' v d
  | _, _, .non => .non
  | _, _, .bl b => .bl b
  | _, _, .int i => .int i
  | _, _, .str x => .str x
  | _, _, .lst h hs => .lst (e _ _ h) (same_dts e hs)
  | _, _, .tup h hs => .tup (same_tupA e h) (same_dts e hs)
  | _, _, .dct h hs => .dct (e _ _ h) (same_dtk e hs)
  | _, _, .obj h hs => .obj (e _ _ h) (same_dtf e hs)
  | _, _, .exc h => .exc (e _ _ h)
  | _, _, .dtp h hs => .dtp (e _ _ h) (same_dtt e hs)
  | _, _, .scr h i hs => .scr (e.seq h) i (same_dts e hs)
theorem same_dts {K : PySem.W.Frag} {H H' : Hp} (e : Same H H') : ∀ {vs : List V} {ds : List PyData}, DtAll K H vs ds → DtAll K H' vs ds
  | _, _, .nil => .nil
  | _, _, .cons h hs => .cons (same_dt e h) (same_dts e hs)
theorem same_dtk {K : PySem.W.Frag} {H H' : Hp} (e : Same H H') : ∀ {vs : List (Key × V)} {ds : List (PyData × PyData)}, DtKvs K H vs ds → DtKvs K H' vs ds
  | _, _, .nil => .nil
  | _, _, .cons h hs => .cons (same_dt e h) (same_dtk e hs)
theorem same_dtt {K : PySem.W.Frag} {H H' : Hp} (e : Same H H') : ∀ {vs : List (List Key × V)} {ds : List (PyData × PyData)}, DtKts K H vs ds → DtKts K H' vs ds
  | _, _, .nil => .nil
  | _, _, .cons h hs => .cons (same_dt e h) (same_dtt e hs)
theorem same_dtf {K : PySem.W.Frag} {H H' : Hp} (e : Same H H') : ∀ {vs : List (Str × V)} {ds : List (PyData × PyData)}, DtFs K H vs ds → DtFs K H' vs ds
  | _, _, .nil => .nil
  | _, _, .cons h hs => .cons (same_dt e h) (same_dtf e hs)
end
mutual
/-- without dicts it is the layer's own word -/
theorem dt_dp {K : PySem.W.Frag} {G : Hp} : ∀ {v : V} {d : PyData}, Dt K G v d → d.canLay0 = true → Dp K G v d
  | _, _, .non, _ => .non
  | _, _, .bl b, _ => .bl b
  | _, _, .int i, _ => .int i
  | _, _, .str x, _ => .str x
  | _, _, .lst h hs, c => .lst (SqL.of h) (dts_dps hs (by unfold PyData.canLay0 at c; exact c))
  | _, _, .tup h hs, c => .tup h.sq (dts_dps hs (by unfold PyData.canLay0 at c; exact c))
  | _, _, .dct _ _, c => by unfold PyData.canLay0 at c; cases c
  | _, _, .obj _ _, c => by unfold PyData.canLay0 at c; cases c
  | _, _, .exc _, c => by unfold PyData.canLay0 at c; cases c
  | _, _, .dtp _ _, c => by unfold PyData.canLay0 at c; cases c
  | _, _, .scr h _ hs, c => .lst h (dts_dps hs (by unfold PyData.canLay0 at c; exact c))
theorem dts_dps {K : PySem.W.Frag} {G : Hp} : ∀ {vs : List V} {ds : List PyData}, DtAll K G vs ds → PyData.canLayAll0 ds = true → DpAll K G vs ds
  | _, _, .nil, _ => .nil
  | _, _, .cons h hs, c => by
    unfold PyData.canLayAll0 at c
    simp only [Bool.and_eq_true] at c
    exact .cons (dt_dp h c.1) (dts_dps hs c.2)
end

/-! ### what is known (G, never changed again) within the heap (H); cells that may be written are in H alone -/
def isTupO : HO → Bool
  | .tup _ => true
  | .frz _ (.tup _) => true
  | _ => false
/-- from (G, H) to (G', H'): what was known stays known, all that was tracked stands as it was but at M, what is newly known is new, or a tuple -/
structure Ext (M : List Addr) (G H G' H' : Hp) : Prop where
  gg : Same G G'
  gh : Same G' H'
  hh : ∀ a o, H a = some o → a ∉ M → H' a = some o
  nw : ∀ a o, G' a = some o → G a = some o ∨ H a = none ∨ (H a = some o ∧ isTupO o = true)
  dm : ∀ a, H' a = none → H a = none
  tp : ∀ a o, H' a = some o → isTupO o = true → H a = none ∨ H a = some o
theorem Ext.refl {M : List Addr} {G H : Hp} (gh : Same G H) : Ext M G H G H := ⟨Same.refl G, gh, fun _ _ e _ => e, fun _ _ e => .inl e, fun _ e => e, fun _ _ e _ => .inr e⟩
section
variable {M M' : List Addr} {G H G1 H1 G2 H2 : Hp} {p : Addr} {o o' : HO}
/-- a step: at M' alone things change, each of them in M or new -/
theorem Ext.trans (a : Ext M G H G1 H1) (b : Ext M' G1 H1 G2 H2) (hm : ∀ x ∈ M', x ∈ M ∨ H x = none) : Ext M G H G2 H2 := by
  refine ⟨a.gg.trans b.gg, b.gh, fun x u e n => b.hh x u (a.hh x u e n) fun z => (hm x z).elim n fun q => ?_, fun x u e => ?_, fun x e => a.dm x (b.dm x e), fun x u e t => ?_⟩
  · rw [e] at q; cases q
  · rcases b.nw x u e with z | z | ⟨z, t⟩
    · exact a.nw x u z
    · exact .inr (.inl (a.dm x z))
    · rcases a.tp x u z t with q | q
      · exact .inr (.inl q)
      · exact .inr (.inr ⟨q, t⟩)
  · rcases b.tp x u e t with z | z
    · exact .inl (a.dm x z)
    · exact a.tp x u z t
theorem Ext.same (a : Ext M G H G1 H1) (b : Ext [] G1 H1 G2 H2) : Ext M G H G2 H2 := a.trans b fun _ h => nomatch h
theorem Ext.mono (a : Ext M G H G1 H1) (hm : ∀ x ∈ M, x ∈ M' ∨ H x = none) : Ext M' G H G1 H1 := by
  refine ⟨a.gg, a.gh, fun x u e n => a.hh x u e fun z => (hm x z).elim n fun q => ?_, a.nw, a.dm, a.tp⟩
  rw [e] at q; cases q
/-- a new thing, known from now on -/
theorem Ext.new (gh : Same G H) (h : H p = none) : Ext M G H (upd G p o) (upd H p o) := by
  refine ⟨same_new (gh.free h), fun a u e => ?_, fun a u e _ => same_new h a u e, fun a u e => ?_, fun a e => ?_, fun a u e t => ?_⟩
  · by_cases q : a = p
    · subst q; rw [upd_same] at e ⊢; exact e
    · rw [upd_ne q] at e ⊢; exact gh a u e
  · by_cases q : a = p
    · subst q; exact .inr (.inl h)
    · rw [upd_ne q] at e; exact .inl e
  · by_cases q : a = p
    · subst q; exact h
    · rw [upd_ne q] at e; exact e
  · by_cases q : a = p
    · subst q; exact .inl h
    · rw [upd_ne q] at e; exact .inr e
/-- a new thing that may be written later -/
theorem Ext.cell (gh : Same G H) (h : H p = none) : Ext M G H G (upd H p o) := by
  refine ⟨Same.refl G, fun a u e => same_new h a u (gh a u e), fun a u e _ => same_new h a u e, fun a u e => .inl e, fun a e => ?_, fun a u e t => ?_⟩
  · by_cases q : a = p
    · subst q; exact h
    · rw [upd_ne q] at e; exact e
  · by_cases q : a = p
    · subst q; exact .inl h
    · rw [upd_ne q] at e; exact .inr e
/-- a cell is written -/
theorem Ext.put (gh : Same G H) (hg : G p = none) (h : H p = some o') (ht : isTupO o = false := by rfl) : Ext [p] G H G (upd H p o) := by
  refine ⟨Same.refl G, fun a u e => ?_, fun a u e n => ?_, fun a u e => .inl e, fun a e => ?_, fun a u e t => ?_⟩
  · rw [upd_ne (ne_of_none e hg)]; exact gh a u e
  · have q : a ≠ p := fun z => n (by simp [z])
    rw [upd_ne q]; exact e
  · by_cases q : a = p
    · subst q; rw [upd_same] at e; cases e
    · rw [upd_ne q] at e; exact e
  · by_cases q : a = p
    · subst q; rw [upd_same] at e; cases e; rw [ht] at t; cases t
    · rw [upd_ne q] at e; exact .inr e
/-- a cell is known from now on -/
theorem Ext.know (gh : Same G H) (h : H p = some o) (hg : G p = none) (e : Ext M G1 H1 G H) (hn : H1 p = none) : Ext M G1 H1 (upd G p o) H := by
  refine ⟨e.gg.trans (same_new hg), fun a u q => ?_, e.hh, fun a u q => ?_, e.dm, e.tp⟩
  · by_cases z : a = p
    · subst z; rw [upd_same] at q; rw [h, q]
    · rw [upd_ne z] at q; exact gh a u q
  · by_cases z : a = p
    · subst z; exact .inr (.inl hn)
    · rw [upd_ne z] at q; exact e.nw a u q
/-- what isn't known and was tracked isn't known later -/
theorem Ext.free (e : Ext M G H G1 H1) (hg : G p = none) (h : H p = some o) (ht : isTupO o = false := by rfl) : G1 p = none := by
  cases q : G1 p with
  | none => rfl
  | some u =>
    rcases e.nw p u q with z | z | ⟨z, t⟩
    · rw [hg] at z; cases z
    · rw [h] at z; cases z
    · rw [h] at z; cases z; rw [ht] at t; cases t
theorem Ext.keep (e : Ext M G H G1 H1) (h : H p = some o) (n : p ∉ M) : H1 p = some o := e.hh p o h n
end

/-! ### data -/
section
variable {K : PySem.W.Frag} {G H : Hp} {v : V} {ds : List PyData} {d : PyData}
theorem dt_list (h : Dt K G v (.list ds)) (gh : Same G H) : ∃ a xs, v = .ref a ∧ SqL K H a xs ∧ DtAll K G xs ds := by
  cases h with
  | lst h hs => exact ⟨_, _, rfl, SqL.of (gh _ _ h), hs⟩
  | scr h _ hs => exact ⟨_, _, rfl, gh.seq h, hs⟩
theorem dt_lst (h : Dt K G v (.list ds)) (gh : Same G H) (n : intHead ds = false) : ∃ a xs, v = .ref a ∧ H a = some (.lst xs) ∧ DtAll K G xs ds := by
  cases h with
  | lst h hs => exact ⟨_, _, rfl, gh _ _ h, hs⟩
  | scr _ i _ => rw [n] at i; cases i
theorem dt_tuple (h : Dt K G v (.tuple ds)) (gh : Same G H) : ∃ a xs, v = .ref a ∧ SqT K H a xs ∧ DtAll K G xs ds := by
  cases h with
  | tup h hs => exact ⟨_, _, rfl, same_tup gh h.sq, hs⟩
theorem dt_tupI (h : Dt K G v (.tuple ds)) (n : strHead ds = false) : ∃ a xs, v = .ref a ∧ G a = some (.tup xs) ∧ DtAll K G xs ds := by
  cases h with
  | tup h hs =>
    rcases h with h | ⟨_, h⟩
    · exact ⟨_, _, rfl, h, hs⟩
    · rw [n] at h; cases h
theorem dt_int {i : Int} (h : Dt K G v (.int i)) : v = .int i := by cases h; rfl
theorem dt_str {x : Str} (h : Dt K G v (.str x)) : v = .str x := by cases h; rfl
theorem dt_bool {b : Bool} (h : Dt K G v (.bool b)) : v = .bl b := by cases h; rfl
theorem dt_none (h : Dt K G v .none) : v = .non := by cases h; rfl
theorem dts_len : ∀ {xs : List V} {ds : List PyData}, DtAll K G xs ds → xs.length = ds.length
  | _, _, .nil => rfl
  | _, _, .cons _ h => by simp [dts_len h]
theorem dts_at : ∀ {xs : List V} {ds : List PyData} {i : Nat}, DtAll K G xs ds → ds[i]? = some d → ∃ x, xs[i]? = some x ∧ Dt K G x d
  | _, _, _, .nil, e => by simp at e
  | _, _, 0, .cons h _, e => by
    simp only [List.getElem?_cons_zero, Option.some.injEq] at e
    subst e
    exact ⟨_, rfl, h⟩
  | _, _, i + 1, .cons _ h, e => by
    obtain ⟨x, e1, e2⟩ := dts_at (i := i) h (by simpa using e)
    exact ⟨x, by simpa using e1, e2⟩
theorem dts_at' : ∀ {xs : List V} {ds : List PyData} {i : Nat} {x : V}, DtAll K G xs ds → xs[i]? = some x → ∃ d, ds[i]? = some d ∧ Dt K G x d
  | _, _, _, _, .nil, e => by simp at e
  | _, _, 0, _, .cons h _, e => by
    simp only [List.getElem?_cons_zero, Option.some.injEq] at e
    subst e
    exact ⟨_, rfl, h⟩
  | _, _, i + 1, x, .cons _ h, e => by
    obtain ⟨d, e1, e2⟩ := dts_at' (i := i) (x := x) h (by simpa using e)
    exact ⟨d, by simpa using e1, e2⟩
theorem dts_app : ∀ {xs ys : List V} {ds es : List PyData}, DtAll K G xs ds → DtAll K G ys es → DtAll K G (xs ++ ys) (ds ++ es)
  | _, _, _, _, .nil, h => h
  | _, _, _, _, .cons a b, h => .cons a (dts_app b h)
theorem dts_take : ∀ {xs : List V} {ds : List PyData} (n : Nat), DtAll K G xs ds → DtAll K G (xs.take n) (ds.take n)
  | _, _, 0, _ => .nil
  | _, _, _ + 1, .nil => .nil
  | _, _, n + 1, .cons a b => .cons a (dts_take n b)
theorem dts_drop : ∀ {xs : List V} {ds : List PyData} (n : Nat), DtAll K G xs ds → DtAll K G (xs.drop n) (ds.drop n)
  | _, _, 0, h => h
  | _, _, _ + 1, .nil => .nil
  | _, _, n + 1, .cons _ b => dts_drop n b
/-- of ints, of texts: the values themselves -/
theorem dts_ints : ∀ {xs : List V} {ns : List Int}, DtAll K G xs (ns.map PyData.int) → xs = ns.map V.int
  | _, [], .nil => rfl
  | _, n :: ns, .cons a b => by rw [dt_int a, dts_ints b]; rfl
theorem dts_strs : ∀ {xs : List V} {ss : List Str}, DtAll K G xs (ss.map PyData.str) → xs = ss.map V.str
  | _, [], .nil => rfl
  | _, n :: ns, .cons a b => by rw [dt_str a, dts_strs b]; rfl
theorem ints_dts : ∀ (ns : List Int), DtAll K G (ns.map V.int) (ns.map PyData.int)
  | [] => .nil
  | n :: ns => .cons (.int n) (ints_dts ns)
theorem strs_dts : ∀ (ns : List Str), DtAll K G (ns.map V.str) (ns.map PyData.str)
  | [] => .nil
  | n :: ns => .cons (.str n) (strs_dts ns)
theorem dt_pair {r c : Int} (h : Dt K G v (.tuple [.int r, .int c])) (gh : Same G H) : ∃ a, v = .ref a ∧ SqT K H a [.int r, .int c] := by
  obtain ⟨a, xs, rfl, h1, h2⟩ := dt_tuple h gh
  have e := dts_ints (ns := [r, c]) h2
  subst e
  exact ⟨a, rfl, h1⟩
theorem pair_dt {r c : Int} {a : Addr} (h : G a = some (.tup [.int r, .int c])) : Dt K G (.ref a) (.tuple [.int r, .int c]) := .tup (.inl h) (ints_dts [r, c])
end
/-- one of some written ints -/
theorem at_menu {xs : List Int} {i : Int} (h0 : 0 ≤ i) (h1 : i < (xs.length : Int)) : ∃ z, atI (xs.map V.int) i = some (.int z) ∧ xs[i.toNat]? = some z ∧ z ∈ xs := by
  obtain ⟨x, e1, e2⟩ := atI_in (xs := xs.map V.int) h0 (by rw [List.length_map]; exact h1)
  rw [List.getElem?_map] at e2
  cases e : xs[i.toNat]? with
  | none => rw [e] at e2; cases e2
  | some z =>
    rw [e] at e2
    cases e2
    exact ⟨z, e1, rfl, List.mem_of_getElem? e⟩
/-! ### what things are -/
def tyD : PyData → String
  | .none => "NoneType"
  | .bool _ => "bool"
  | .int _ => "int"
  | .str _ => "str"
  | .list _ => "list"
  | .tuple _ => "tuple"
  | .dict _ => "dict"
/-- an object of a class of the program's own -/
def isObjD : PyData → Bool
  | .dict ((.none, _) :: _) => true
  | .dict ((.bool _, _) :: _) => true
  | _ => false
theorem ty_of {K : PySem.W.Frag} {G H : Hp} {v : V} {d : PyData} (h : Dt K G v d) (gh : Same G H) (ho : isObjD d = false) : TyX K H v (.type (tyD d)) := by
  cases h with
  | dct h => exact .base (.dK (gh _ _ h))
  | obj h => exact Bool.noConfusion ho
  | exc h => exact Bool.noConfusion ho
  | dtp h => exact Bool.noConfusion ho
  | non => exact .base .non
  | bl b => exact .base (.bl b)
  | int i => exact .base (.int i)
  | str x => exact .base (.str x)
  | lst h _ => exact .base (.lst (gh _ _ h))
  | scr h _ _ =>
    rcases gh.seq h with (h | ⟨o, h⟩) | ⟨o, its, n, hk, hc, _⟩
    · exact .base (.lst h)
    · exact .base (.frz h)
    · exact .kList hk hc
  | tup h _ =>
    rcases same_tup gh h.sq with (h | ⟨o, h⟩) | ⟨o, its, n, hk, hc, _⟩
    · exact .base (.tup h)
    · exact .fTuple h
    · exact .kTuple hk hc
/-- what a def tells is data d, all else stays -/
def Gives (K : PySem.W.Frag) (G H : Hp) (d : PyData) (Q : VK) : Prop := ∀ (v : V) (G' H' : Hp), Ext [] G H G' H' → Dt K G' v d → Q v H'
end S

namespace S
open PySem L2
/-! ### pure evaluation: in every later state the same data comes out, nothing that was tracked is changed -/
def ED (K : PySem.W.Frag) (G : Hp) (te : TE) (σ : L2.St) (d : PyData) : Prop := ∀ G1 H, Same G G1 → Same G1 H → ∀ Q : VK, (∀ v G2 H2, Ext [] G1 H G2 H2 → Dt K G2 v d → Q v H2) → te σ H Q
def ET (_ : PySem.W.Frag) (G : Hp) (tt : TT) (σ : L2.St) (b : Bool) : Prop := ∀ G1 H, Same G G1 → Same G1 H → ∀ Q : Bool → Hp → Prop, (∀ G2 H2, Ext [] G1 H G2 H2 → Q b H2) → tt σ H Q
def EA (K : PySem.W.Frag) (G : Hp) (ta : TA) (σ : L2.St) (ds : List PyData) : Prop := ∀ G1 H, Same G G1 → Same G1 H → ∀ Q : List V → Hp → Prop, (∀ vs G2 H2, Ext [] G1 H G2 H2 → DtAll K G2 vs ds → Q vs H2) → ta σ H Q
def EO (_ : PySem.W.Frag) (G : Hp) (to : TO) (σ : L2.St) (o : Option Int) : Prop := ∀ G1 H, Same G G1 → Same G1 H → ∀ Q : Option Int → Hp → Prop, (∀ G2 H2, Ext [] G1 H G2 H2 → Q o H2) → to σ H Q
/-- operations by data -/
def R2D (K : PySem.W.Frag) (r : R2) (d1 d2 d : PyData) : Prop := ∀ x y G H, Same G H → Dt K G x d1 → Dt K G y d2 → ∀ Q : VK, (∀ v G2 H2, Ext [] G H G2 H2 → Dt K G2 v d → Q v H2) → r x y H Q
def CBD (K : PySem.W.Frag) (r : List V → Hp → VK → Prop) (ds : List PyData) (d : PyData) : Prop := ∀ vs G H, Same G H → DtAll K G vs ds → ∀ Q : VK, (∀ v G2 H2, Ext [] G H G2 H2 → Dt K G2 v d → Q v H2) → r vs H Q
def MD (K : PySem.W.Frag) (r : V → List V → Hp → VK → Prop) (d0 : PyData) (ds : List PyData) (d : PyData) : Prop := ∀ x vs G H, Same G H → Dt K G x d0 → DtAll K G vs ds → ∀ Q : VK, (∀ v G2 H2, Ext [] G H G2 H2 → Dt K G2 v d → Q v H2) → r x vs H Q
/-- a pure def: of data ds it tells data d -/
def PFn (K : PySem.W.Frag) (R : List PyData → PyData → Prop) : Sp := fun vs H Q _ => ∃ (G : Hp) (ds : List PyData) (d : PyData), Same G H ∧ DtAll K G vs ds ∧ R ds d ∧ ∀ v G' H', Ext [] G H G' H' → Dt K G' v d → Q v H'
section
variable {K : PySem.W.Frag} {G G' : Hp} {σ : L2.St} {ta tb te : TE} {t u : TT} {tas : TA} {d d1 d2 : PyData} {ds : List PyData} {v : V} {r : R2} {b c : Bool}
theorem ED.mono (h : ED K G te σ d) (e : Same G G') : ED K G' te σ d := fun G1 H a => h G1 H (e.trans a)
theorem ET.mono (h : ET K G t σ b) (e : Same G G') : ET K G' t σ b := fun G1 H a => h G1 H (e.trans a)
theorem EA.mono (h : EA K G tas σ ds) (e : Same G G') : EA K G' tas σ ds := fun G1 H a => h G1 H (e.trans a)
theorem ED.to {d' : PyData} (h : ED K G te σ d) (e : d = d') : ED K G te σ d' := e ▸ h
theorem ET.to (h : ET K G t σ b) (e : b = c) : ET K G t σ c := e ▸ h
theorem ed_var {i : Nat} (h : σ[i]? = some (some v)) (hv : Dt K G v d) : ED K G (tVar i) σ d := fun G1 H a gh Q q => ⟨v, h, q v G1 H (Ext.refl gh) (same_dt a hv)⟩
theorem ed_c (hv : ∀ G, Dt K G v d) : ED K G (tC v) σ d := fun G1 H _ gh Q q => q v G1 H (Ext.refl gh) (hv G1)
theorem ed_int {i : Int} : ED K G (tC (.int i)) σ (.int i) := ed_c fun _ => .int i
theorem ed_str {x : Str} : ED K G (tC (.str x)) σ (.str x) := ed_c fun _ => .str x
theorem ed_bl : ED K G (tC (.bl b)) σ (.bool b) := ed_c fun _ => .bl b
theorem ed_non : ED K G (tC .non) σ .none := ed_c fun _ => .non
theorem ed_op (ha : ED K G ta σ d1) (hb : ED K G tb σ d2) (hr : R2D K r d1 d2 d) : ED K G (tOp r ta tb) σ d := fun G1 H a gh Q q =>
  ha G1 H a gh _ fun x G2 H2 e2 hx => hb G2 H2 (a.trans e2.gg) e2.gh _ fun y G3 H3 e3 hy => hr x y G3 H3 e3.gh (same_dt e3.gg hx) hy Q fun v G4 H4 e4 hv => q v G4 H4 ((e2.same e3).same e4) hv
theorem r2_i {g : Int → Int → Int} {i j : Int} : R2D K (rI0 fun i j => .int (g i j)) (.int i) (.int j) (.int (g i j)) := fun x y G H gh hx hy Q q => by
  rw [dt_int hx, dt_int hy]
  exact ⟨i, j, rfl, rfl, q _ G H (Ext.refl gh) (.int _)⟩
theorem r2_b {g : Int → Int → Bool} {i j : Int} : R2D K (rI0 fun i j => .bl (g i j)) (.int i) (.int j) (.bool (g i j)) := fun x y G H gh hx hy Q q => by
  rw [dt_int hx, dt_int hy]
  exact ⟨i, j, rfl, rfl, q _ G H (Ext.refl gh) (.bl _)⟩
theorem r2_c {C : Int → Int → Prop} {g : Int → Int → Int} {i j : Int} (hc : C i j) : R2D K (rI C fun i j => .int (g i j)) (.int i) (.int j) (.int (g i j)) := fun x y G H gh hx hy Q q => by
  rw [dt_int hx, dt_int hy]
  exact ⟨i, j, rfl, rfl, hc, q _ G H (Ext.refl gh) (.int _)⟩
theorem r2_eqS {x y : Str} : R2D K rEq (.str x) (.str y) (.bool (decide (x = y))) := fun v w G H gh hx hy Q q => by
  rw [dt_str hx, dt_str hy]
  refine ⟨rfl, ?_⟩
  rw [show decide (V.str x = V.str y) = decide (x = y) by simp]
  exact q _ G H (Ext.refl gh) (.bl _)
theorem r2_neS {x y : Str} : R2D K rNe (.str x) (.str y) (.bool (!decide (x = y))) := fun v w G H gh hx hy Q q => by
  rw [dt_str hx, dt_str hy]
  refine ⟨rfl, ?_⟩
  rw [show decide (V.str x = V.str y) = decide (x = y) by simp]
  exact q _ G H (Ext.refl gh) (.bl _)
theorem r2_eqI {x y : Int} : R2D K rEq (.int x) (.int y) (.bool (decide (x = y))) := fun v w G H gh hx hy Q q => by
  rw [dt_int hx, dt_int hy]
  refine ⟨rfl, ?_⟩
  rw [show decide (V.int x = V.int y) = decide (x = y) by simp]
  exact q _ G H (Ext.refl gh) (.bl _)
theorem r2_neI {x y : Int} : R2D K rNe (.int x) (.int y) (.bool (!decide (x = y))) := fun v w G H gh hx hy Q q => by
  rw [dt_int hx, dt_int hy]
  refine ⟨rfl, ?_⟩
  rw [show decide (V.int x = V.int y) = decide (x = y) by simp]
  exact q _ G H (Ext.refl gh) (.bl _)
theorem r2_eqD (h1 : SeqAt.shaped d1 = true) (h2 : SeqAt.shaped d2 = true) : R2D K (rEqD K) d1 d2 (.bool (PyData.eqv d1 d2)) := fun v w G H gh hx hy Q q =>
  ⟨d1, d2, dt_dp (same_dt gh hx) (SeqAt.canLay_of_shaped h1), dt_dp (same_dt gh hy) (SeqAt.canLay_of_shaped h2), h1, h2, q _ G H (Ext.refl gh) (.bl _)⟩
theorem r2_neD (h1 : SeqAt.shaped d1 = true) (h2 : SeqAt.shaped d2 = true) : R2D K (rNeD K) d1 d2 (.bool (!PyData.eqv d1 d2)) := fun v w G H gh hx hy Q q =>
  ⟨d1, d2, dt_dp (same_dt gh hx) (SeqAt.canLay_of_shaped h1), dt_dp (same_dt gh hy) (SeqAt.canLay_of_shaped h2), h1, h2, q _ G H (Ext.refl gh) (.bl _)⟩
theorem r2_addS {x y : Str} (h : x.length + y.length ≤ sizeLine) : R2D K (fun x y H Q => ∃ i j, x = .str i ∧ y = .str j ∧ i.length + j.length ≤ sizeLine ∧ Q (.str (i ++ j)) H) (.str x) (.str y) (.str (x ++ y)) := fun v w G H gh hx hy Q q => by
  rw [dt_str hx, dt_str hy]
  exact ⟨x, y, rfl, rfl, h, q _ G H (Ext.refl gh) (.str _)⟩
theorem atI_dts {xs : List V} {i : Int} (hs : DtAll K G xs ds) (h : atI ds i = some d) : ∃ x, atI xs i = some x ∧ Dt K G x d := by
  unfold atI at h ⊢
  rw [dts_len hs]
  cases e : ixN ds.length i with
  | none => rw [e] at h; cases h
  | some j =>
    rw [e] at h
    obtain ⟨x, h1, h2⟩ := dts_at hs (show ds[j]? = some d from h)
    exact ⟨x, h1, h2⟩
theorem r2_ixL {i : Int} (h : atI ds i = some d) : R2D K (rIxL K) (.list ds) (.int i) d := fun v w G H gh hx hy Q q => by
  obtain ⟨a, xs, rfl, hl, hs⟩ := dt_list hx gh
  rw [dt_int hy]
  obtain ⟨x, h1, h2⟩ := atI_dts hs h
  exact ⟨a, xs, i, x, rfl, rfl, hl, h1, q _ G H (Ext.refl gh) h2⟩
theorem r2_ixT {i : Int} (h : atI ds i = some d) : R2D K (rIxT K) (.tuple ds) (.int i) d := fun v w G H gh hx hy Q q => by
  obtain ⟨a, xs, rfl, hl, hs⟩ := dt_tuple hx gh
  rw [dt_int hy]
  obtain ⟨x, h1, h2⟩ := atI_dts hs h
  exact ⟨a, xs, i, x, rfl, rfl, hl, h1, q _ G H (Ext.refl gh) h2⟩
theorem r2_ixS {z : Str} {i : Int} {c : Nat} (hz : z.length ≤ sizeLine) (h : atI z.cps.toList i = some c) : R2D K rIxS (.str z) (.int i) (.str ⟨#[c]⟩) := fun v w G H gh hx hy Q q => by
  rw [dt_str hx, dt_int hy]
  exact ⟨z, i, c, rfl, rfl, hz, h, q _ G H (Ext.refl gh) (.str _)⟩
theorem dts1 {vs : List V} (h : DtAll K G vs [d]) : ∃ v, vs = [v] ∧ Dt K G v d := by
  cases h with
  | cons h hs => cases hs; exact ⟨_, rfl, h⟩
theorem dtsN {vs : List V} (h : DtAll K G vs (d :: ds)) : ∃ v ws, vs = v :: ws ∧ Dt K G v d ∧ DtAll K G ws ds := by
  cases h with
  | cons h hs => exact ⟨_, _, rfl, h, hs⟩
theorem dts2 {vs : List V} (h : DtAll K G vs [d1, d2]) : ∃ v w, vs = [v, w] ∧ Dt K G v d1 ∧ Dt K G w d2 := by
  obtain ⟨v, ws, rfl, h1, hs⟩ := dtsN h
  obtain ⟨w, rfl, h2⟩ := dts1 hs
  exact ⟨v, w, rfl, h1, h2⟩
theorem dts3 {d3 : PyData} {vs : List V} (h : DtAll K G vs [d1, d2, d3]) : ∃ v w x, vs = [v, w, x] ∧ Dt K G v d1 ∧ Dt K G w d2 ∧ Dt K G x d3 := by
  obtain ⟨v, ws, rfl, h1, hs⟩ := dtsN h
  obtain ⟨w, x, rfl, h2, h3⟩ := dts2 hs
  exact ⟨v, w, x, rfl, h1, h2, h3⟩
theorem dts4 {d3 d4 : PyData} {vs : List V} (h : DtAll K G vs [d1, d2, d3, d4]) : ∃ v w x y, vs = [v, w, x, y] ∧ Dt K G v d1 ∧ Dt K G w d2 ∧ Dt K G x d3 ∧ Dt K G y d4 := by
  obtain ⟨v, ws, rfl, h1, hs⟩ := dtsN h
  obtain ⟨w, x, y, rfl, h2, h3, h4⟩ := dts3 hs
  exact ⟨v, w, x, y, rfl, h1, h2, h3, h4⟩
theorem dts5 {d3 d4 d5 : PyData} {vs : List V} (h : DtAll K G vs [d1, d2, d3, d4, d5]) : ∃ v w x y z, vs = [v, w, x, y, z] ∧ Dt K G v d1 ∧ Dt K G w d2 ∧ Dt K G x d3 ∧ Dt K G y d4 ∧ Dt K G z d5 := by
  obtain ⟨v, ws, rfl, h1, hs⟩ := dtsN h
  obtain ⟨w, x, y, z, rfl, h2, h3, h4, h5⟩ := dts4 hs
  exact ⟨v, w, x, y, z, rfl, h1, h2, h3, h4, h5⟩
/-! tests -/
theorem et_test (h : ED K G te σ (.bool b)) : ET K G (tTest te) σ b := fun G1 H a gh Q q => h G1 H a gh _ fun v G2 H2 e hv => ⟨b, dt_bool hv, q G2 H2 e⟩
theorem et_B (h : ED K G te σ (.bool b)) : ET K G (tB te) σ b := fun G1 H a gh Q q => h G1 H a gh _ fun v G2 H2 e hv => ⟨b, dt_bool hv, q G2 H2 e⟩
theorem et_yes : ET K G tYes σ true := fun G1 H a gh Q q => q G1 H (Ext.refl gh)
theorem et_not (h : ET K G t σ b) : ET K G (tNot t) σ (!b) := fun G1 H a gh Q q => h G1 H a gh _ fun G2 H2 e => q G2 H2 e
theorem et_and (h : ET K G t σ b) (h2 : b = true → ET K G u σ c) : ET K G (tAnd t u) σ (b && c) := fun G1 H a gh Q q => h G1 H a gh _ fun G2 H2 e => by
  cases b with
  | true => exact iteT (h2 rfl G2 H2 (a.trans e.gg) e.gh Q fun G3 H3 e3 => q G3 H3 (e.same e3))
  | false => exact iteF (q G2 H2 e)
theorem et_or (h : ET K G t σ b) (h2 : b = false → ET K G u σ c) : ET K G (tOr t u) σ (b || c) := fun G1 H a gh Q q => h G1 H a gh _ fun G2 H2 e => by
  cases b with
  | true => exact iteT (q G2 H2 e)
  | false => exact iteF (h2 rfl G2 H2 (a.trans e.gg) e.gh Q fun G3 H3 e3 => q G3 H3 (e.same e3))
theorem ed_and (h : ED K G ta σ (.bool b)) (h2 : b = true → ED K G tb σ (.bool c)) : ED K G (tAndV ta tb) σ (.bool (b && c)) := fun G1 H a gh Q q => h G1 H a gh _ fun v G2 H2 e hv => ⟨b, dt_bool hv, by
  cases b with
  | true => exact iteT (h2 rfl G2 H2 (a.trans e.gg) e.gh Q fun v G3 H3 e3 hv => q v G3 H3 (e.same e3) hv)
  | false => exact iteF (q _ G2 H2 e (.bl _))⟩
theorem ed_or (h : ED K G ta σ (.bool b)) (h2 : b = false → ED K G tb σ (.bool c)) : ED K G (tOrV ta tb) σ (.bool (b || c)) := fun G1 H a gh Q q => h G1 H a gh _ fun v G2 H2 e hv => ⟨b, dt_bool hv, by
  cases b with
  | true => exact iteT (q _ G2 H2 e (.bl _))
  | false => exact iteF (h2 rfl G2 H2 (a.trans e.gg) e.gh Q fun v G3 H3 e3 hv => q v G3 H3 (e.same e3) hv)⟩
theorem ed_not (h : ED K G ta σ (.bool b)) : ED K G (tNotV ta) σ (.bool (!b)) := fun G1 H a gh Q q => h G1 H a gh _ fun v G2 H2 e hv => ⟨b, dt_bool hv, q _ G2 H2 e (.bl _)⟩
theorem ed_if (h : ET K G t σ b) (h1 : b = true → ED K G ta σ d) (h2 : b = false → ED K G tb σ d) : ED K G (tIf t ta tb) σ d := fun G1 H a gh Q q => h G1 H a gh _ fun G2 H2 e => by
  cases b with
  | true => exact iteT (h1 rfl G2 H2 (a.trans e.gg) e.gh Q fun v G3 H3 e3 hv => q v G3 H3 (e.same e3) hv)
  | false => exact iteF (h2 rfl G2 H2 (a.trans e.gg) e.gh Q fun v G3 H3 e3 hv => q v G3 H3 (e.same e3) hv)
/-! arguments, displays, calls -/
theorem ea_nil : EA K G tNil σ [] := fun G1 H a gh Q q => q [] G1 H (Ext.refl gh) .nil
theorem ea_cons (h : ED K G ta σ d) (hs : EA K G tas σ ds) : EA K G (tCons ta tas) σ (d :: ds) := fun G1 H a gh Q q => h G1 H a gh _ fun v G2 H2 e hv => hs G2 H2 (a.trans e.gg) e.gh _ fun vs G3 H3 e3 hvs => q _ G3 H3 (e.same e3) (.cons (same_dt e3.gg hv) hvs)
theorem ed_tup (h : EA K G tas σ ds) (hl : ds.length ≤ 1000 := by first | decide | simp) : ED K G (tTup tas) σ (.tuple ds) := fun G1 H a gh Q q => h G1 H a gh _ fun vs G2 H2 e hvs =>
  ⟨by rw [dts_len hvs]; exact szn _ hl, fun p hp => q _ _ _ (e.same (Ext.new e.gh hp)) (.tup (.inl upd_same) (same_dts (same_new (e.gh.free hp)) hvs))⟩
theorem ed_lst (h : EA K G tas σ ds) (hl : ds.length ≤ 1000 := by first | decide | simp) : ED K G (tLst tas) σ (.list ds) := fun G1 H a gh Q q => h G1 H a gh _ fun vs G2 H2 e hvs =>
  ⟨by rw [dts_len hvs]; exact szn _ hl, fun p hp => q _ _ _ (e.same (Ext.new e.gh hp)) (.lst upd_same (same_dts (same_new (e.gh.free hp)) hvs))⟩
theorem ed_cb {rr : List V → Hp → VK → Prop} (h : EA K G tas σ ds) (hr : CBD K rr ds d) : ED K G (tCB rr tas) σ d := fun G1 H a gh Q q => h G1 H a gh _ fun vs G2 H2 e hvs => hr vs G2 H2 e.gh hvs Q fun v G3 H3 e3 hv => q v G3 H3 (e.same e3) hv
theorem ed_fn {R : List PyData → PyData → Prop} {E : XK} (h : EA K G tas σ ds) (hr : R ds d) : ED K G (tCall (PFn K R) [] E tas) σ d := fun G1 H a gh Q q => h G1 H a gh _ fun vs G2 H2 e hvs => by
  rw [List.append_nil]
  exact ⟨G2, ds, d, e.gh, hvs, hr, fun v G3 H3 e3 hv => q v G3 H3 (e.same e3) hv⟩
theorem ed_m1 {rr : V → List V → Hp → VK → Prop} {a : Str} (ho : ED K G ta σ (.str a)) (he : ED K G te σ d2) (hr : MD K rr (.str a) [d2] d) : ED K G (tM1 rr ta te) σ d := fun G1 H g gh Q q => ho G1 H g gh _ fun x G2 H2 e2 hx => ⟨⟨a, dt_str hx⟩,
  he G2 H2 (g.trans e2.gg) e2.gh _ fun y G3 H3 e3 hy => hr x [y] G3 H3 e3.gh (same_dt e3.gg hx) (.cons hy .nil) Q fun v G4 H4 e4 hv => q v G4 H4 ((e2.same e3).same e4) hv⟩
theorem ed_un {f : Int → Int} {i : Int} (h : ED K G ta σ (.int i)) : ED K G (tUn (rU fun i => .int (f i)) ta) σ (.int (f i)) := fun G1 H a gh Q q => h G1 H a gh _ fun v G2 H2 e hv => ⟨i, dt_int hv, q _ G2 H2 e (.int _)⟩
/-! built-ins by data -/
/-- isinstance(e, T) -/
theorem ed_isi {T : String} {ans : Bool} (h : ED K G ta σ d) (hk : kitB (tyD d) T = some ans) (ho : isObjD d = false := by rfl) : ED K G (tCB (rIsi K) (tCons ta (tCons (tC (.ty T)) tNil))) σ (.bool ans) := fun G1 H a gh Q q => h G1 H a gh _ fun v G2 H2 e hv =>
  ⟨v, .ty T, _, _, ans, rfl, .ty T, ty_of hv e.gh ho, kit_ty hk, q _ G2 H2 e (.bl _)⟩
theorem cb_lenL : CBD K (fun xs H Q => ∃ x n, xs = [x] ∧ LenV K x H n ∧ Q (.int n) H) [.list ds] (.int ds.length) := fun vs G H gh h Q q => by
  cases h with
  | cons h hs =>
    cases hs
    obtain ⟨a, xs, rfl, hl, hx⟩ := dt_list h gh
    exact ⟨_, ds.length, rfl, .inl ⟨xs, hl, (dts_len hx).symm⟩, q _ G H (Ext.refl gh) (.int _)⟩
theorem cb_lenT : CBD K (fun xs H Q => ∃ x n, xs = [x] ∧ LenV K x H n ∧ Q (.int n) H) [.tuple ds] (.int ds.length) := fun vs G H gh h Q q => by
  cases h with
  | cons h hs =>
    cases hs
    obtain ⟨a, xs, rfl, hl, hx⟩ := dt_tuple h gh
    exact ⟨_, ds.length, rfl, .inr ⟨xs, hl, (dts_len hx).symm⟩, q _ G H (Ext.refl gh) (.int _)⟩
theorem cb_lenS {z : Str} (hz : z.length ≤ sizeLine) : CBD K (fun xs H Q => ∃ x n, xs = [x] ∧ LenV K x H n ∧ Q (.int n) H) [.str z] (.int z.length) := fun vs G H gh h Q q => by
  cases h with
  | cons h hs =>
    cases hs
    rw [dt_str h]
    exact ⟨_, z.length, rfl, ⟨hz, rfl⟩, q _ G H (Ext.refl gh) (.int _)⟩
theorem dts_bools : ∀ {xs : List V} {bs : List Bool}, DtAll K G xs (bs.map PyData.bool) → xs = bs.map V.bl
  | _, [], .nil => rfl
  | _, n :: ns, .cons a b => by rw [dt_bool a, dts_bools b]; rfl
theorem bools_dts : ∀ (ns : List Bool), DtAll K G (ns.map V.bl) (ns.map PyData.bool)
  | [] => .nil
  | n :: ns => .cons (.bl n) (bools_dts ns)
theorem cb_all {bs : List Bool} : CBD K (rAll K) [.list (bs.map PyData.bool)] (.bool (bs.all id)) := fun vs G H gh h Q q => by
  cases h with
  | cons h hs =>
    cases hs
    obtain ⟨a, xs, rfl, hl, hx⟩ := dt_list h gh
    rw [dts_bools hx] at hl
    exact ⟨a, bs, rfl, hl, q _ G H (Ext.refl gh) (.bl _)⟩
theorem cb_sum {ns : List Int} : CBD K (rSum K) [.list (ns.map PyData.int)] (.int ns.sum) := fun vs G H gh h Q q => by
  cases h with
  | cons h hs =>
    cases hs
    obtain ⟨a, xs, rfl, hl, hx⟩ := dt_list h gh
    rw [dts_ints hx] at hl
    exact ⟨a, ns, rfl, hl, q _ G H (Ext.refl gh) (.int _)⟩
theorem md_join {a : Str} {ys : List Str} (hz : (ys.map (·.length)).sum + ys.length * a.length ≤ 16777216) : MD K (fun x xs H Q => ∃ a p, ∃ ys : List Str, x = .str a ∧ xs = [.ref p] ∧ (SqL K H p (ys.map V.str) ∨ SqT K H p (ys.map V.str)) ∧ (ys.map (·.length)).sum + ys.length * a.length ≤ 16777216 ∧ Q (.str (Txt.join a ys)) H)
    (.str a) [.list (ys.map PyData.str)] (.str (Txt.join a ys)) := fun x vs G H gh hx h Q q => by
  cases h with
  | cons h hs =>
    cases hs
    obtain ⟨p, xs, rfl, hl, hxs⟩ := dt_list h gh
    rw [dts_strs hxs] at hl
    rw [dt_str hx]
    exact ⟨a, p, ys, rfl, rfl, .inl hl, hz, q _ G H (Ext.refl gh) (.str _)⟩
theorem md_sindex {a b : Str} {i : Nat} {rest : List Nat} (h : Builtin.Str.occurrences a b 0 a.length 1 = i :: rest) : MD K (fun x xs H Q => ∃ a b i rest, x = .str a ∧ xs = [.str b] ∧ Builtin.Str.occurrences a b 0 a.length 1 = i :: rest ∧ Q (.int (i : Nat)) H) (.str a) [.str b] (.int i) := fun x vs G H gh hx hv Q q => by
  cases hv with
  | cons hv hs =>
    cases hs
    rw [dt_str hx, dt_str hv]
    exact ⟨a, b, i, rest, rfl, rfl, h, q _ G H (Ext.refl gh) (.int _)⟩
end
end S

namespace S
open PySem L2
/-! ### what is walked, by data -/
structure DW (K : PySem.W.Frag) (G : Hp) (J : It) (n : Nat) (f : Nat → PyData) : Prop where
  goes : ∀ i H, i < n → Same G H → J.go i H
  stops : ∀ H, Same G H → J.stop n H
  yields : ∀ i H x H' G1, i < n → Same G G1 → Same G1 H → J.yld i H x H' → ∃ G2, Ext [] G1 H G2 H' ∧ Dt K G2 x (f i)
/-- the iterable gives n items, f i the i-th -/
def EI (K : PySem.W.Frag) (G : Hp) (wi : TI) (σ : L2.St) (n : Nat) (f : Nat → PyData) : Prop := ∀ G1 H, Same G G1 → Same G1 H → ∀ R : It → Hp → Prop, (∀ J G2 H2, Ext [] G1 H G2 H2 → DW K G2 J n f → R J H2) → wi σ H R
section
variable {K : PySem.W.Frag} {G G' : Hp} {σ : L2.St} {ta tb te : TE} {t u : TT} {tas : TA} {d d1 d2 : PyData} {ds es : List PyData} {v : V} {r : R2} {b c : Bool}
theorem dw_list {a : Addr} {xs : List V} (hl : SqL K G a xs) (hs : DtAll K G xs ds) : DW K G (Itl K a) ds.length (fun i => ds.getD i .none) where
  goes := fun i H hi gh => by
    have e := dts_len hs
    exact ⟨xs, xs[i], gh.seq hl, by simp [e, hi]⟩
  stops := fun H gh => ⟨xs, gh.seq hl, by rw [dts_len hs]; exact Nat.le_refl _⟩
  yields := fun i H x H' G1 hi g1 gh y => by
    obtain ⟨rfl, hx⟩ := y
    obtain ⟨d, h1, h2⟩ := dts_at' hs (hx xs ((g1.trans gh).seq hl))
    refine ⟨G1, Ext.refl gh, ?_⟩
    rw [List.getD_eq_getElem?_getD, h1]
    exact same_dt g1 h2
theorem dw_tup {a : Addr} {xs : List V} (hl : SqT K G a xs) (hs : DtAll K G xs ds) : DW K G (Itt K a) ds.length (fun i => ds.getD i .none) where
  goes := fun i H hi gh => by
    have e := dts_len hs
    exact ⟨xs, xs[i], same_tup gh hl, by simp [e, hi]⟩
  stops := fun H gh => ⟨xs, same_tup gh hl, by rw [dts_len hs]; exact Nat.le_refl _⟩
  yields := fun i H x H' G1 hi g1 gh y => by
    obtain ⟨rfl, hx⟩ := y
    obtain ⟨d, h1, h2⟩ := dts_at' hs (hx xs (same_tup (g1.trans gh) hl))
    refine ⟨G1, Ext.refl gh, ?_⟩
    rw [List.getD_eq_getElem?_getD, h1]
    exact same_dt g1 h2
theorem dw_str {z : Str} : DW K G (Its z) z.cps.size (fun i => .str ⟨#[z.cps.getD i 0]⟩) where
  goes := fun i H hi _ => hi
  stops := fun H _ => Nat.le_refl _
  yields := fun i H x H' G1 hi g1 gh y => by
    obtain ⟨rfl, c, hc, rfl⟩ := y
    refine ⟨G1, Ext.refl gh, ?_⟩
    rw [Array.getD_eq_getD_getElem?, hc]
    exact .str _
theorem dw_range {lo : Int} {n : Nat} : DW K G (Itr lo n) n (fun i => .int (lo + i)) where
  goes := fun i H hi _ => hi
  stops := fun H _ => Nat.le_refl _
  yields := fun i H x H' G1 hi g1 gh y => by
    obtain ⟨rfl, rfl⟩ := y
    exact ⟨G1, Ext.refl gh, .int _⟩
theorem dw_enum {a : Addr} {xs : List V} (hl : SqL K G a xs) (hs : DtAll K G xs ds) : DW K G (Ite K a) ds.length (fun i => .tuple [.int (i : Nat), ds.getD i .none]) where
  goes := fun i H hi gh => by
    have e := dts_len hs
    exact ⟨xs, xs[i], gh.seq hl, by simp [e, hi]⟩
  stops := fun H gh => ⟨xs, gh.seq hl, by rw [dts_len hs]; exact Nat.le_refl _⟩
  yields := fun i H x H' G1 hi g1 gh y => by
    obtain ⟨T, z, rfl, hT, rfl, hx⟩ := y
    obtain ⟨d, h1, h2⟩ := dts_at' hs (hx xs ((g1.trans gh).seq hl))
    refine ⟨_, Ext.new gh hT, ?_⟩
    rw [List.getD_eq_getElem?_getD, h1]
    exact .tup (.inl upd_same) (.cons (.int _) (.cons (same_dt (g1.trans (same_new (gh.free hT))) h2) .nil))
theorem dw_zip {a a2 : Addr} {xs ys : List V} (hl : SqL K G a xs) (hs : DtAll K G xs ds) (hl2 : SqL K G a2 ys) (hs2 : DtAll K G ys es) : DW K G (Itz K a a2) (min ds.length es.length) (fun i => .tuple [ds.getD i .none, es.getD i .none]) where
  goes := fun i H hi gh => by
    have e := dts_len hs
    have e2 := dts_len hs2
    exact ⟨xs, ys, xs[i], ys[i], gh.seq hl, gh.seq hl2, by simp [show i < xs.length by omega], by simp [show i < ys.length by omega]⟩
  stops := fun H gh => by
    have e := dts_len hs
    have e2 := dts_len hs2
    exact ⟨xs, ys, gh.seq hl, gh.seq hl2, by omega⟩
  yields := fun i H x H' G1 hi g1 gh y => by
    obtain ⟨T, z, z2, rfl, hT, rfl, hx, hx2⟩ := y
    obtain ⟨d, h1, h2⟩ := dts_at' hs (hx xs ((g1.trans gh).seq hl))
    obtain ⟨d', h3, h4⟩ := dts_at' hs2 (hx2 ys ((g1.trans gh).seq hl2))
    refine ⟨_, Ext.new gh hT, ?_⟩
    rw [List.getD_eq_getElem?_getD, h1, List.getD_eq_getElem?_getD, h3]
    have e := g1.trans (same_new (o := .tup [z, z2]) (gh.free hT))
    exact .tup (.inl upd_same) (.cons (same_dt e h2) (.cons (same_dt e h4) .nil))
theorem ei_list (h : ED K G te σ (.list ds)) : EI K G (iList K te) σ ds.length (fun i => ds.getD i .none) := fun G1 H a gh R q => h G1 H a gh _ fun v G2 H2 e hv => by
  obtain ⟨p, xs, rfl, hl, hs⟩ := dt_list hv (Same.refl G2)
  exact ⟨p, rfl, ⟨xs, e.gh.seq hl⟩, q _ G2 H2 e (dw_list hl hs)⟩
theorem ei_tup (h : ED K G te σ (.tuple ds)) : EI K G (iTup K te) σ ds.length (fun i => ds.getD i .none) := fun G1 H a gh R q => h G1 H a gh _ fun v G2 H2 e hv => by
  obtain ⟨p, xs, rfl, hl, hs⟩ := dt_tuple hv (Same.refl G2)
  exact ⟨p, rfl, ⟨xs, same_tup e.gh hl⟩, q _ G2 H2 e (dw_tup hl hs)⟩
theorem ei_str {z : Str} (h : ED K G te σ (.str z)) : EI K G (iStr te) σ z.cps.size (fun i => .str ⟨#[z.cps.getD i 0]⟩) := fun G1 H a gh R q => h G1 H a gh _ fun v G2 H2 e hv => ⟨z, dt_str hv, q _ G2 H2 e dw_str⟩
theorem ei_range1 {j : Int} (h : EA K G tas σ [.int j]) (h0 : 0 ≤ j) (h1 : j < 2 ^ 62) : EI K G (iRng1 tas) σ j.toNat (fun i => .int i) := fun G1 H a gh R q => h G1 H a gh _ fun vs G2 H2 e hvs => by
  cases hvs with
  | cons hv hs =>
    cases hs
    rw [dt_int hv]
    refine ⟨j, rfl, by omega, h1, q _ G2 H2 e ?_⟩
    have w := dw_range (K := K) (G := G2) (lo := 0) (n := j.toNat)
    simp only [Int.zero_add] at w
    exact w
theorem ei_range2 {i j : Int} (h : EA K G tas σ [.int i, .int j]) (hb : -(2 ^ 62) ≤ i ∧ i < 2 ^ 62 ∧ -(2 ^ 62) ≤ j ∧ j < 2 ^ 62) : EI K G (iRng2 tas) σ (j - i).toNat (fun k => .int (i + k)) := fun G1 H a gh R q => h G1 H a gh _ fun vs G2 H2 e hvs => by
  cases hvs with
  | cons hv hs =>
    cases hs with
    | cons hv2 hs =>
      cases hs
      rw [dt_int hv, dt_int hv2]
      exact ⟨i, j, rfl, hb, q _ G2 H2 e dw_range⟩
theorem ei_enum (h : EA K G tas σ [.list ds]) : EI K G (iEnum K tas) σ ds.length (fun i => .tuple [.int (i : Nat), ds.getD i .none]) := fun G1 H a gh R q => h G1 H a gh _ fun vs G2 H2 e hvs => by
  cases hvs with
  | cons hv hs =>
    cases hs
    obtain ⟨p, xs, rfl, hl, hs⟩ := dt_list hv (Same.refl G2)
    exact ⟨p, xs, rfl, e.gh.seq hl, q _ G2 H2 e (dw_enum hl hs)⟩
theorem ei_zip (h : EA K G tas σ [.list ds, .list es]) : EI K G (iZip K tas) σ (min ds.length es.length) (fun i => .tuple [ds.getD i .none, es.getD i .none]) := fun G1 H a gh R q => h G1 H a gh _ fun vs G2 H2 e hvs => by
  cases hvs with
  | cons hv hs =>
    cases hs with
    | cons hv2 hs2 =>
      cases hs2
      obtain ⟨p, xs, rfl, hl, hs⟩ := dt_list hv (Same.refl G2)
      obtain ⟨p2, ys, rfl, hl2, hs2⟩ := dt_list hv2 (Same.refl G2)
      exact ⟨p, p2, xs, ys, rfl, e.gh.seq hl, e.gh.seq hl2, q _ G2 H2 e (dw_zip hl hs hl2 hs2)⟩

/-! ### targets -/
/-- the target takes x, of data d; behind it the slots are as B tells -/
def EG (K : PySem.W.Frag) (g : TG) (σ : L2.St) (d : PyData) (B : Hp → L2.St → Prop) : Prop := ∀ G H x, Same G H → Dt K G x d → ∀ Q : L2.St → Hp → Prop, (∀ σ2, B G σ2 → Q σ2 H) → g x σ H Q
theorem eg_name {j : Nat} : EG K (gName j) σ d (fun G σ2 => ∃ x, Dt K G x d ∧ σ2 = σ.set j (some x)) := fun G H x gh hx Q q => q _ ⟨x, hx, rfl⟩
theorem eg_tup2 {i j : Nat} : EG K (gTup K 2 (gCons (gName i) (gCons (gName j) gNil))) σ (.tuple [d1, d2]) (fun G σ2 => ∃ x y, Dt K G x d1 ∧ Dt K G y d2 ∧ σ2 = (σ.set i (some x)).set j (some y)) := fun G H x gh hx Q q => by
  obtain ⟨a, xs, rfl, hl, hs⟩ := dt_tuple hx gh
  cases hs with
  | cons h1 hs =>
    cases hs with
    | cons h2 hs =>
      cases hs
      exact ⟨a, _, rfl, hl, rfl, _, _, rfl, _, _, rfl, rfl, q _ ⟨_, _, h1, h2, rfl⟩⟩
theorem eg_tup3 {i j k : Nat} {d3 : PyData} : EG K (gTup K 3 (gCons (gName i) (gCons (gName j) (gCons (gName k) gNil)))) σ (.tuple [d1, d2, d3]) (fun G σ2 => ∃ x y z, Dt K G x d1 ∧ Dt K G y d2 ∧ Dt K G z d3 ∧ σ2 = ((σ.set i (some x)).set j (some y)).set k (some z)) := fun G H x gh hx Q q => by
  obtain ⟨a, xs, rfl, hl, hs⟩ := dt_tuple hx gh
  cases hs with
  | cons h1 hs =>
    cases hs with
    | cons h2 hs =>
      cases hs with
      | cons h3 hs =>
        cases hs
        exact ⟨a, _, rfl, hl, rfl, _, _, rfl, _, _, rfl, _, _, rfl, rfl, q _ ⟨_, _, _, h1, h2, h3, rfl⟩⟩

/-! ### comprehensions -/
/-- what n turns give: p tells which, h what -/
def outs (n : Nat) (p : Nat → Bool) (h : Nat → PyData) : List PyData := ((List.range n).filter p).map h
theorem outs_yes {n : Nat} {p : Nat → Bool} {h : Nat → PyData} (e : p n = true) : outs (n + 1) p h = outs n p h ++ [h n] := by
  unfold outs
  rw [List.range_succ, List.filter_append, List.map_append, List.filter_cons, if_pos e] <;> rfl
theorem outs_no {n : Nat} {p : Nat → Bool} {h : Nat → PyData} (e : p n = false) : outs (n + 1) p h = outs n p h := by
  unfold outs
  rw [List.range_succ, List.filter_append, List.map_append, List.filter_cons, if_neg (by rw [e]; decide)]
  show _ ++ [] = _
  rw [List.append_nil]
theorem outs_len (n : Nat) (p : Nat → Bool) (h : Nat → PyData) : (outs n p h).length ≤ n := by
  unfold outs
  rw [List.length_map]
  have q := List.length_filter_le p (List.range n)
  rw [List.length_range] at q
  exact q
theorem outs_map {α : Type} {xs : List α} {f : α → PyData} {h : Nat → PyData} (e : ∀ i x, xs[i]? = some x → h i = f x) : outs xs.length (fun _ => true) h = xs.map f := by
  unfold outs
  rw [List.filter_eq_self.mpr (by simp)]
  apply List.ext_getElem?
  intro i
  simp only [List.getElem?_map]
  by_cases hi : i < xs.length
  · simp [hi, e i xs[i] (by simp [hi])]
  · simp [hi]
theorem sz_list {n : Nat} (h : n < 100000) : n < sizeLine := Nat.lt_of_lt_of_le h (by decide)
theorem ed_lc2 {wi : TI} {g : TG} {tt : TT} {te : TE} {vs : List Nat} {n : Nat} {f h : Nat → PyData} {p : Nat → Bool} {B : Nat → Hp → L2.St → Prop} (hi : EI K G wi σ n f) (hn : n < 100000) (hb : ∀ i G1 H x, i < n → Same G G1 → Same G1 H → Dt K G1 x (f i) → ∀ Q : L2.St → Hp → Prop, (∀ σ2, B i G1 σ2 → Q σ2 H) → g x (wipe σ vs) H Q)
    (hw : ∀ i G1 σ2, i < n → B i G1 σ2 → wipe σ2 vs = wipe σ vs) (ht : ∀ i G1 σ2, i < n → Same G G1 → B i G1 σ2 → ET K G1 tt σ2 (p i)) (he : ∀ i G1 σ2, i < n → Same G G1 → B i G1 σ2 → p i = true → ED K G1 te σ2 (h i)) :
    ED K G (tLc wi g tt te vs) σ (.list (outs n p h)) := fun G1 H a gh Q q => hi G1 H a gh _ fun J G2 H2 e2 W D hD => by
  refine ⟨fun i m H' => m = n - i ∧ i ≤ n ∧ ∃ G' acc, Ext [] G2 H2 G' H' ∧ G' D = none ∧ H' D = some (.lst acc) ∧ DtAll K G' acc (outs i p h), ⟨n, by simp, Nat.zero_le _, G2, [], Ext.cell e2.gh hD, e2.gh.free hD, upd_same, .nil⟩, ?_⟩
  rintro i m H' ⟨rfl, hin, G', acc, e, gD, hacc, hds⟩
  have gsame : Same G2 H' := e.gg.trans e.gh
  by_cases hlt : i < n
  · refine .inr ⟨W.goes i H' hlt gsame, fun H'' => i + 1 ≤ n ∧ ∃ G' acc, Ext [] G2 H2 G' H'' ∧ G' D = none ∧ H'' D = some (.lst acc) ∧ DtAll K G' acc (outs (i + 1) p h), fun H'' ⟨h1, h2⟩ => ⟨n - (i + 1), by omega, rfl, h1, h2⟩, fun x H3 y => ?_⟩
    obtain ⟨G3, e3, hx⟩ := W.yields i H' x H3 G' hlt e.gg e.gh y
    have eG : Same G G3 := ((a.trans e2.gg).trans e.gg).trans e3.gg
    refine hb i G3 H3 x hlt eG e3.gh hx _ fun σ2 hσ => ⟨hw i G3 σ2 hlt hσ, ?_⟩
    refine ht i G3 σ2 hlt eG hσ G3 H3 (Same.refl G3) e3.gh _ fun G4 H4 e4 => ?_
    have e24 : Ext [] G2 H2 G4 H4 := (e.same e3).same e4
    have gD4 : G4 D = none := (e3.same e4).free gD hacc
    have hacc4 : H4 D = some (.lst acc) := (e3.same e4).keep hacc (by simp)
    have hds4 : DtAll K G4 acc (outs i p h) := same_dts (e3.same e4).gg hds
    cases hp : p i with
    | false => exact iteF ⟨hlt, G4, acc, e24, gD4, hacc4, by rw [outs_no hp]; exact hds4⟩
    | true =>
      refine iteT ?_
      refine (he i G3 σ2 hlt eG hσ hp).mono e4.gg G4 H4 (Same.refl G4) e4.gh _ fun w G5 H5 e5 hwd => ?_
      have l := outs_len i p h
      have l2 := dts_len hds4
      refine ⟨acc, e5.keep hacc4 (by simp), sz_list (by omega), hlt, G5, acc ++ [w], (e24.same e5).trans (Ext.put e5.gh (e5.free gD4 hacc4) (e5.keep hacc4 (by simp))) fun z hz => .inr (by rw [List.mem_singleton] at hz; rw [hz]; exact hD), e5.free gD4 hacc4, upd_same, ?_⟩
      rw [outs_yes hp]
      exact dts_app (same_dts e5.gg hds4) (.cons hwd .nil)
  · have ei : i = n := by omega
    subst ei
    refine .inl ⟨W.stops H' gsame, ?_⟩
    have ek := Ext.know e.gh hacc gD e hD
    exact q _ _ H' (e2.same ek) (.lst upd_same (same_dts (same_new gD) hds))

theorem ed_lc {wi : TI} {g : TG} {tt : TT} {te : TE} {vs : List Nat} {n : Nat} {f h : Nat → PyData} {p : Nat → Bool} {B : Nat → Hp → L2.St → Prop} (hi : EI K G wi σ n f) (hn : n < 100000) (hb : ∀ i, i < n → EG K g (wipe σ vs) (f i) (B i))
    (hw : ∀ i G1 σ2, i < n → B i G1 σ2 → wipe σ2 vs = wipe σ vs) (ht : ∀ i G1 σ2, i < n → Same G G1 → B i G1 σ2 → ET K G1 tt σ2 (p i)) (he : ∀ i G1 σ2, i < n → Same G G1 → B i G1 σ2 → p i = true → ED K G1 te σ2 (h i)) :
    ED K G (tLc wi g tt te vs) σ (.list (outs n p h)) := ed_lc2 hi hn (fun i G1 H x hi _ gh hx => hb i hi G1 H x gh hx) hw ht he

/-! ### statements that return data, or go on -/
def ES (K : PySem.W.Frag) (G : Hp) (ts : TS) (σ : L2.St) (R : PyData → Prop) (N : Hp → L2.St → Prop) : Prop := ∀ G1 H, Same G G1 → Same G1 H → ∀ D : Ends, (∀ v d G2 H2, Ext [] G1 H G2 H2 → Dt K G2 v d → R d → D.rt v H2) → (∀ σ' G2 H2, Ext [] G1 H G2 H2 → N G2 σ' → D.nx σ' H2) → ts D σ H
variable {R : PyData → Prop} {N M : Hp → L2.St → Prop} {ts tz tw : TS}
theorem ES.mono (h : ES K G ts σ R N) (e : Same G G') : ES K G' ts σ R N := fun G1 H a => h G1 H (e.trans a)
theorem es_ret (h : ED K G te σ d) (hr : R d) : ES K G (tRet te) σ R N := fun G1 H a gh D hrt hnx => h G1 H a gh _ fun v G2 H2 e hv => hrt v d G2 H2 e hv hr
theorem es_next (h : ∀ G1, Same G G1 → N G1 σ) : ES K G tNext σ R N := fun G1 H a gh D hrt hnx => hnx σ G1 H (Ext.refl gh) (h G1 a)
theorem es_seq (h : ES K G ts σ R M) (k : ∀ G1 σ1, Same G G1 → M G1 σ1 → ES K G1 tz σ1 R N) : ES K G (tSeq ts tz) σ R N := fun G1 H a gh D hrt hnx =>
  h G1 H a gh { D with nx := tz D } hrt fun σ1 G2 H2 e hm => k G2 σ1 (a.trans e.gg) hm G2 H2 (Same.refl G2) e.gh D (fun v d G3 H3 e3 => hrt v d G3 H3 (e.same e3)) (fun σ' G3 H3 e3 => hnx σ' G3 H3 (e.same e3))
theorem es_cut (h : ES K G ts σ R M) (k : ∀ G1 σ1, Same G G1 → M G1 σ1 → ES K G1 tz σ1 R N) : ES K G (tCut ts tz) σ R N := fun G1 H a gh D hrt hnx =>
  ⟨tz D, h G1 H a gh { D with nx := tz D } hrt fun σ1 G2 H2 e hm => k G2 σ1 (a.trans e.gg) hm G2 H2 (Same.refl G2) e.gh D (fun v d G3 H3 e3 => hrt v d G3 H3 (e.same e3)) (fun σ' G3 H3 e3 => hnx σ' G3 H3 (e.same e3)), fun _ _ z => z⟩
theorem es_asg {i : Nat} (h : ED K G te σ d) (k : ∀ G1 x, Same G G1 → Dt K G1 x d → N G1 (σ.set i (some x))) : ES K G (tAsg te (gName i)) σ R N := fun G1 H a gh D hrt hnx => h G1 H a gh _ fun v G2 H2 e hv => hnx _ G2 H2 e (k G2 v (a.trans e.gg) hv)
/-- x = e, then the rest -/
theorem es_set {i : Nat} (h : ED K G te σ d) (k : ∀ G1 x, Same G G1 → Dt K G1 x d → ES K G1 tz (σ.set i (some x)) R N) : ES K G (tSeq (tAsg te (gName i)) tz) σ R N :=
  es_seq (M := fun G1 σ1 => ∃ x, Dt K G1 x d ∧ σ1 = σ.set i (some x)) (es_asg h fun G1 x a hx => ⟨x, hx, rfl⟩) fun G1 σ1 a ⟨x, hx, e⟩ => by rw [e]; exact k G1 x a hx
/-- a target of any kind -/
theorem es_asgG {g : TG} {B : Hp → L2.St → Prop} (h : ED K G te σ d) (hb : EG K g σ d B) (k : ∀ G1 σ1, Same G G1 → B G1 σ1 → ES K G1 tz σ1 R N) : ES K G (tSeq (tAsg te g) tz) σ R N :=
  es_seq (M := B) (fun G1 H a gh D hrt hnx => h G1 H a gh _ fun v G2 H2 e hv => hb G2 H2 v e.gh hv _ fun σ2 hσ => hnx σ2 G2 H2 e hσ) k
theorem es_if (h : ET K G t σ b) (h1 : b = true → ES K G ts σ R N) (h2 : b = false → ES K G tz σ R N) : ES K G (tIfS t ts tz) σ R N := fun G1 H a gh D hrt hnx => h G1 H a gh _ fun G2 H2 e => by
  cases b with
  | true => exact iteT ((h1 rfl).mono (a.trans e.gg) G2 H2 (Same.refl G2) e.gh D (fun v d G3 H3 e3 => hrt v d G3 H3 (e.same e3)) (fun σ' G3 H3 e3 => hnx σ' G3 H3 (e.same e3)))
  | false => exact iteF ((h2 rfl).mono (a.trans e.gg) G2 H2 (Same.refl G2) e.gh D (fun v d G3 H3 e3 => hrt v d G3 H3 (e.same e3)) (fun σ' G3 H3 e3 => hnx σ' G3 H3 (e.same e3)))
/-- if t: .. (and nothing else), then the rest -/
theorem es_when (h : ET K G t σ b) (h1 : b = true → ES K G (tSeq ts tz) σ R N) (h2 : b = false → ES K G tz σ R N) : ES K G (tSeq (tIfS t ts tNext) tz) σ R N := fun G1 H a gh D hrt hnx => h G1 H a gh _ fun G2 H2 e => by
  cases b with
  | true => exact iteT ((h1 rfl).mono (a.trans e.gg) G2 H2 (Same.refl G2) e.gh D (fun v d G3 H3 e3 => hrt v d G3 H3 (e.same e3)) (fun σ' G3 H3 e3 => hnx σ' G3 H3 (e.same e3)))
  | false => exact iteF ((h2 rfl).mono (a.trans e.gg) G2 H2 (Same.refl G2) e.gh D (fun v d G3 H3 e3 => hrt v d G3 H3 (e.same e3)) (fun σ' G3 H3 e3 => hnx σ' G3 H3 (e.same e3)))
theorem es_retSeq (h : ED K G te σ d) (hr : R d) : ES K G (tSeq (tRet te) tz) σ R N := es_seq (M := fun _ _ => False) (es_ret h hr) fun _ _ _ z => z.elim
theorem es_drop (h : ED K G te σ d) (k : ∀ G1, Same G G1 → N G1 σ) : ES K G (tDrop te) σ R N := fun G1 H a gh D hrt hnx => h G1 H a gh _ fun v G2 H2 e hv => hnx _ G2 H2 e (k G2 (a.trans e.gg))
theorem es_for {wi : TI} {g : TG} {n : Nat} {f : Nat → PyData} {B : Nat → L2.St → Hp → L2.St → Prop} (hi : EI K G wi σ n f) (I : Nat → Hp → L2.St → Prop) (h0 : ∀ G1, Same G G1 → I 0 G1 σ) (mono : ∀ i G1 G2 σ1, Same G1 G2 → I i G1 σ1 → I i G2 σ1)
    (hb : ∀ i G1 σ1, i < n → Same G G1 → I i G1 σ1 → EG K g σ1 (f i) (B i σ1)) (hs : ∀ i G1 σ1 σ2, i < n → Same G G1 → I i G1 σ1 → B i σ1 G1 σ2 → ES K G1 ts σ2 R (I (i + 1))) (hd : ∀ G1 σ1, Same G G1 → I n G1 σ1 → N G1 σ1) :
    ES K G (tFor wi g ts) σ R N := fun G1 H a gh D hrt hnx => hi G1 H a gh _ fun J G2 H2 e2 W => by
  refine ⟨fun i m σ' H' => m = n - i ∧ i ≤ n ∧ ∃ G', Ext [] G2 H2 G' H' ∧ I i G' σ', ⟨n, by simp, Nat.zero_le _, G2, Ext.refl e2.gh, h0 G2 (a.trans e2.gg)⟩, ?_⟩
  rintro i m σ' H' ⟨rfl, hin, G', e, hI⟩
  have gsame : Same G2 H' := e.gg.trans e.gh
  by_cases hlt : i < n
  · refine .inr ⟨W.goes i H' hlt gsame, fun σ'' H'' => i + 1 ≤ n ∧ ∃ G', Ext [] G2 H2 G' H'' ∧ I (i + 1) G' σ'', fun σ'' H'' ⟨h1, h2⟩ => ⟨n - (i + 1), by omega, rfl, h1, h2⟩, fun x H3 y => ?_⟩
    obtain ⟨G3, e3, hx⟩ := W.yields i H' x H3 G' hlt e.gg e.gh y
    have eG : Same G G3 := ((a.trans e2.gg).trans e.gg).trans e3.gg
    have hI3 := mono i _ _ _ e3.gg hI
    refine hb i G3 σ' hlt eG hI3 G3 H3 x e3.gh hx _ fun σ2 hσ => ?_
    exact hs i G3 σ' σ2 hlt eG hI3 hσ G3 H3 (Same.refl G3) e3.gh _ (fun v d G4 H4 e4 => hrt v d G4 H4 (e2.same ((e.same e3).same e4))) fun σ4 G4 H4 e4 hI4 => ⟨hlt, G4, (e.same e3).same e4, hI4⟩
  · have ei : i = n := by omega
    subst ei
    exact .inl ⟨W.stops H' gsame, hnx σ' G' H' (e2.same e) (hd G' σ' (((a.trans e2.gg)).trans e.gg) hI)⟩
end

/-! ### loops that draw: I tells of what is known, of the heap and of the slots -/
section
variable {K : PySem.W.Frag} {G G0 H : Hp} {σ : L2.St} {D : Ends}
/-- the loop itself, over a walk by data -/
theorem loop_imp {J : It} {g : TG} {tb : TS} {n : Nat} {f : Nat → PyData} (W : DW K G0 J n f) (gh : Same G0 H) (I : Nat → Hp → Hp → L2.St → Prop) (h0 : I 0 G0 H σ)
    (hs : ∀ i G1 H1 σ1 x G2 H2, i < n → I i G1 H1 σ1 → Same G0 G1 → Ext [] G1 H1 G2 H2 → Dt K G2 x (f i) → g x σ1 H2 fun σ2 H3 => tb { D with nx := fun σ' H' => ∃ G', Same G1 G' ∧ Same G' H' ∧ I (i + 1) G' H' σ', ct := fun σ' H' => ∃ G', Same G1 G' ∧ Same G' H' ∧ I (i + 1) G' H' σ', bk := D.nx } σ2 H3)
    (hd : ∀ G1 H1 σ1, Same G0 G1 → Same G1 H1 → I n G1 H1 σ1 → D.nx σ1 H1) :
    ∃ W : Nat → Nat → L2.St → Hp → Prop, (∃ m, W 0 m σ H) ∧ ∀ i m σ H, W i m σ H →
      (J.stop i H ∧ D.nx σ H) ∨ (J.go i H ∧ ∃ N : L2.St → Hp → Prop, (∀ σ' H', N σ' H' → ∃ m', m' < m ∧ W (i + 1) m' σ' H') ∧ ∀ x H', J.yld i H x H' → g x σ H' fun σ2 H2 => tb { D with nx := N, ct := N, bk := D.nx } σ2 H2) := by
  refine ⟨fun i m σ' H' => m = n - i ∧ i ≤ n ∧ ∃ G', Same G0 G' ∧ Same G' H' ∧ I i G' H' σ', ⟨n, by simp, Nat.zero_le _, G0, Same.refl G0, gh, h0⟩, ?_⟩
  rintro i m σ' H' ⟨rfl, hin, G', e, gh', hI⟩
  by_cases hlt : i < n
  · refine .inr ⟨W.goes i H' hlt (e.trans gh'), fun σ'' H'' => ∃ G'', Same G' G'' ∧ Same G'' H'' ∧ I (i + 1) G'' H'' σ'', fun σ'' H'' ⟨G'', h1, h2, h3⟩ => ⟨n - (i + 1), by omega, rfl, hlt, G'', e.trans h1, h2, h3⟩, fun x H3 y => ?_⟩
    obtain ⟨G3, e3, hx⟩ := W.yields i H' x H3 G' hlt e gh' y
    exact hs i G' H' σ' x G3 H3 hlt hI e e3 hx
  · have ei : i = n := by omega
    subst ei
    exact .inl ⟨W.stops H' (e.trans gh'), hd G' H' σ' e gh' hI⟩
theorem for_imp {wi : TI} {g : TG} {tb : TS} {n : Nat} {f : Nat → PyData} (hi : EI K G wi σ n f) (g0 : Same G G0) (gh : Same G0 H) (I : Nat → Hp → Hp → L2.St → Prop) (h0 : ∀ G1 H1, Ext [] G0 H G1 H1 → I 0 G1 H1 σ)
    (hs : ∀ i G1 H1 σ1 x G2 H2, i < n → I i G1 H1 σ1 → Same G0 G1 → Ext [] G1 H1 G2 H2 → Dt K G2 x (f i) → g x σ1 H2 fun σ2 H3 => tb { D with nx := fun σ' H' => ∃ G', Same G1 G' ∧ Same G' H' ∧ I (i + 1) G' H' σ', ct := fun σ' H' => ∃ G', Same G1 G' ∧ Same G' H' ∧ I (i + 1) G' H' σ', bk := D.nx } σ2 H3)
    (hd : ∀ G1 H1 σ1, Same G0 G1 → Same G1 H1 → I n G1 H1 σ1 → D.nx σ1 H1) : tFor wi g tb D σ H := hi G0 H g0 gh _ fun J G2 H2 e2 W =>
  loop_imp W e2.gh I (h0 G2 H2 e2) (fun i G1 H1 σ1 x G3 H3 hi hI g1 => hs i G1 H1 σ1 x G3 H3 hi hI (e2.gg.trans g1)) fun G1 H1 σ1 g1 => hd G1 H1 σ1 (e2.gg.trans g1)
end

/-! ### a pure def by its body -/
section
variable {P : Program} {w : World} {K : PySem.W.Frag} {mg : Str → Option Value} {base : Heap}
theorem FnIn.pure {x : Str} {st : Stmt} {N ps : List Str} {k : Nat} {R : List PyData → PyData → Prop} (F : FnIn K mg x st) (S : FnScope N ps (defScope st)) (len : ∀ ds d, R ds d → ds.length = ps.length)
    (hb : ∀ (kV doc pm : Value) (an : Option Addr) (cdv ct : Value) (us : List Value), us.length = ps.length → bindArgs (PySem.W.fnOf x x (defArgs st) (defBody st) (defScope st) .none kV doc pm an cdv ct) ⟨us, []⟩ = pure (ps.zip us))
    (body : ∀ (f : Addr) (cdv : Value) (A : Around) (outer : List Env) (s : Shared) (H : Hp) (E : XK), Room k (A.deeper (PyProof.Rows.envOfC x (defScope st) s.heap.objs.size f cdv)) →
      ∃ t, PSs (cxOf CX0 P w K mg base N x (defScope st) f cdv A outer s H E).nox (defBody st) t ∧ ∀ G vs ds d, DtAll K G vs ds → R ds d → ES K G t (start N vs) (fun d' => d' = d) (fun _ _ => d = .none)) : Has P w K mg base CX0 (k + 1) x ps (PFn K R) := by
  refine F.ok S (fun vs H Q E ⟨G, ds, d, gh, hv, hr, q⟩ => (dts_len hv).trans (len ds d hr)) hb (fun f cdv A outer s H vs Q E hr ⟨G, ds, d, gh, hv, hR, q⟩ => ?_)
  obtain ⟨t, ht, hs⟩ := body f cdv A outer s H E hr
  refine ⟨t, ht, hs G vs ds d hv hR G H (Same.refl G) gh _ (fun v d' G2 H2 e hv' e' => ?_) (fun σ' G2 H2 e e' => ?_)⟩
  · subst e'
    exact q v G2 H2 e hv'
  · exact q .non G2 H2 e (by rw [e']; exact .non)
end
end S

namespace S
open PySem L2
/-! ### evaluation that draws: an effect is some cells that change, with a word I n of them that holds behind n draws -/
structure Eff where
  M : List Addr
  I : Nat → Hp → Hp → Prop
  keep : ∀ {n G H G' H' M'}, I n G H → Ext M' G H G' H' → (∀ a ∈ M, a ∉ M') → I n G' H'
  up : ∀ {n m G H}, n ≤ m → I n G H → I m G H
  trk : ∀ {n G H}, I n G H → ∀ a ∈ M, ∃ o, H a = some o
  unk : ∀ {n G H}, I n G H → ∀ a ∈ M, G a = none
  know : ∀ {n G H G'}, I n G H → Same G G' → (∀ a ∈ M, G' a = none) → I n G' H
abbrev lim : Nat := 2 ^ 40
def EV (ε : Eff) (K : PySem.W.Frag) (c : Nat) (G : Hp) (te : TE) (σ : L2.St) (P : PyData → Prop) : Prop := ∀ G1 H n, Same G G1 → Same G1 H → ε.I n G1 H → n + c ≤ lim → ∀ Q : VK, (∀ v d G2 H2, Ext ε.M G1 H G2 H2 → ε.I (n + c) G2 H2 → Dt K G2 v d → P d → Q v H2) → te σ H Q
def AV (ε : Eff) (K : PySem.W.Frag) (c : Nat) (G : Hp) (ta : TA) (σ : L2.St) (P : List PyData → Prop) : Prop := ∀ G1 H n, Same G G1 → Same G1 H → ε.I n G1 H → n + c ≤ lim → ∀ Q : List V → Hp → Prop, (∀ vs ds G2 H2, Ext ε.M G1 H G2 H2 → ε.I (n + c) G2 H2 → DtAll K G2 vs ds → P ds → Q vs H2) → ta σ H Q
def TV (ε : Eff) (K : PySem.W.Frag) (c : Nat) (G : Hp) (tt : TT) (σ : L2.St) (P : Bool → Prop) : Prop := ∀ G1 H n, Same G G1 → Same G1 H → ε.I n G1 H → n + c ≤ lim → ∀ Q : Bool → Hp → Prop, (∀ b G2 H2, Ext ε.M G1 H G2 H2 → ε.I (n + c) G2 H2 → P b → Q b H2) → tt σ H Q
section
variable {ε : Eff} {K : PySem.W.Frag} {c c1 c2 : Nat} {G G' H : Hp} {σ : L2.St} {ta tb te : TE} {t u : TT} {tas : TA} {d : PyData} {ds : List PyData} {r : R2} {b : Bool} {P P1 P2 P' : PyData → Prop} {Ps Ps' : List PyData → Prop} {Pb Pb2 : Bool → Prop}
theorem Ext.toM {M : List Addr} {G H G' H' : Hp} (e : Ext [] G H G' H') : Ext M G H G' H' := e.mono fun _ h => nomatch h
theorem Eff.stay (ε : Eff) {n : Nat} {G H G' H' : Hp} (h : ε.I n G H) (e : Ext [] G H G' H') : ε.I n G' H' := ε.keep h e fun _ _ h => nomatch h
theorem EV.mono (h : EV ε K c G te σ P) (e : Same G G') : EV ε K c G' te σ P := fun G1 H n a => h G1 H n (e.trans a)
theorem EV.imp (h : EV ε K c G te σ P) (k : ∀ d, P d → P' d) : EV ε K c G te σ P' := fun G1 H n a gh hI hl Q q => h G1 H n a gh hI hl Q fun v d G2 H2 e hI2 hv hp => q v d G2 H2 e hI2 hv (k d hp)
theorem EV.up (h : EV ε K c G te σ P) (k : c ≤ c2) : EV ε K c2 G te σ P := fun G1 H n a gh hI hl Q q => h G1 H n a gh hI (by omega) Q fun v d G2 H2 e hI2 hv hp => q v d G2 H2 e (ε.up (by omega) hI2) hv hp
theorem AV.up (h : AV ε K c G tas σ Ps) (k : c ≤ c2) : AV ε K c2 G tas σ Ps := fun G1 H n a gh hI hl Q q => h G1 H n a gh hI (by omega) Q fun v d G2 H2 e hI2 hv hp => q v d G2 H2 e (ε.up (by omega) hI2) hv hp
theorem TV.imp (h : TV ε K c G t σ Pb) (k : ∀ b, Pb b → Pb2 b) : TV ε K c G t σ Pb2 := fun G1 H n a gh hI hl Q q => h G1 H n a gh hI hl Q fun b G2 H2 e hI2 hp => q b G2 H2 e hI2 (k b hp)
theorem ev_ed (h : ED K G te σ d) : EV ε K 0 G te σ (fun d' => d' = d) := fun G1 H n a gh hI hl Q q => h G1 H a gh Q fun v G2 H2 e hv => q v d G2 H2 e.toM (ε.stay hI e) hv rfl
theorem tv_et (h : ET K G t σ b) : TV ε K 0 G t σ (fun b' => b' = b) := fun G1 H n a gh hI hl Q q => h G1 H a gh Q fun G2 H2 e => q b G2 H2 e.toM (ε.stay hI e) rfl
theorem av_ea (h : EA K G tas σ ds) : AV ε K 0 G tas σ (fun ds' => ds' = ds) := fun G1 H n a gh hI hl Q q => h G1 H a gh Q fun v G2 H2 e hv => q v ds G2 H2 e.toM (ε.stay hI e) hv rfl
theorem ev_op (ha : EV ε K c1 G ta σ P1) (hb : EV ε K c2 G tb σ P2) (hr : ∀ d1 d2, P1 d1 → P2 d2 → ∃ d, R2D K r d1 d2 d ∧ P d) : EV ε K (c1 + c2) G (tOp r ta tb) σ P := fun G1 H n a gh hI hl Q q =>
  ha G1 H n a gh hI (by omega) _ fun x d1 G2 H2 e2 hI2 hx p1 => hb G2 H2 (n + c1) (a.trans e2.gg) e2.gh hI2 (by omega) _ fun y d2 G3 H3 e3 hI3 hy p2 => by
    obtain ⟨d, hd, hp⟩ := hr d1 d2 p1 p2
    refine hd x y G3 H3 e3.gh (same_dt e3.gg hx) hy Q fun v G4 H4 e4 hv => q v d G4 H4 ((e2.trans e3 fun _ h => .inl h).same e4) ?_ hv hp
    have z := ε.stay hI3 e4
    rw [Nat.add_assoc] at z
    exact z
theorem ev_un {f : Int → Int} (h : EV ε K c G ta σ P1) (k : ∀ d, P1 d → ∃ i, d = .int i ∧ P (.int (f i))) : EV ε K c G (tUn (rU fun i => .int (f i)) ta) σ P := fun G1 H n a gh hI hl Q q => h G1 H n a gh hI hl _ fun v d G2 H2 e hI2 hv hp => by
  obtain ⟨i, rfl, hp2⟩ := k d hp
  exact ⟨i, dt_int hv, q _ _ G2 H2 e hI2 (.int _) hp2⟩
theorem av_nil : AV ε K 0 G tNil σ (fun ds => ds = []) := av_ea ea_nil
theorem av_cons (h : EV ε K c1 G ta σ P) (hs : AV ε K c2 G tas σ Ps) : AV ε K (c1 + c2) G (tCons ta tas) σ (fun ds => ∃ d ds', ds = d :: ds' ∧ P d ∧ Ps ds') := fun G1 H n a gh hI hl Q q =>
  h G1 H n a gh hI (by omega) _ fun x d1 G2 H2 e2 hI2 hx p1 => hs G2 H2 (n + c1) (a.trans e2.gg) e2.gh hI2 (by omega) _ fun ys ds' G3 H3 e3 hI3 hy p2 =>
    q _ _ G3 H3 (e2.trans e3 fun _ h => .inl h) (by rw [← Nat.add_assoc]; exact hI3) (.cons (same_dt e3.gg hx) hy) ⟨d1, ds', rfl, p1, p2⟩
theorem ev_lst (h : AV ε K c G tas σ Ps) (hl : ∀ ds, Ps ds → ds.length ≤ 1000) : EV ε K c G (tLst tas) σ (fun d => ∃ ds, d = .list ds ∧ Ps ds) := fun G1 H n a gh hI hlim Q q => h G1 H n a gh hI hlim _ fun vs ds G2 H2 e hI2 hvs hp =>
  ⟨by rw [dts_len hvs]; exact szn _ (hl ds hp), fun p hp' => q _ _ _ _ (e.same (Ext.new e.gh hp')) (ε.stay hI2 (Ext.new e.gh hp')) (.lst upd_same (same_dts (same_new (e.gh.free hp')) hvs)) ⟨ds, rfl, hp⟩⟩
theorem ev_tup (h : AV ε K c G tas σ Ps) (hl : ∀ ds, Ps ds → ds.length ≤ 1000) : EV ε K c G (tTup tas) σ (fun d => ∃ ds, d = .tuple ds ∧ Ps ds) := fun G1 H n a gh hI hlim Q q => h G1 H n a gh hI hlim _ fun vs ds G2 H2 e hI2 hvs hp =>
  ⟨by rw [dts_len hvs]; exact szn _ (hl ds hp), fun p hp' => q _ _ _ _ (e.same (Ext.new e.gh hp')) (ε.stay hI2 (Ext.new e.gh hp')) (.tup (.inl upd_same) (same_dts (same_new (e.gh.free hp')) hvs)) ⟨ds, rfl, hp⟩⟩
theorem ev_fn {R : List PyData → PyData → Prop} {E : XK} (h : AV ε K c G tas σ Ps) (hr : ∀ ds, Ps ds → ∃ d, R ds d ∧ P d) : EV ε K c G (tCall (PFn K R) [] E tas) σ P := fun G1 H n a gh hI hlim Q q => h G1 H n a gh hI hlim _ fun vs ds G2 H2 e hI2 hvs hp => by
  rw [List.append_nil]
  obtain ⟨d, hd, hp2⟩ := hr ds hp
  exact ⟨G2, ds, d, e.gh, hvs, hd, fun v G3 H3 e3 hv => q v d G3 H3 (e.same e3) (ε.stay hI2 e3) hv hp2⟩
theorem ev_cb {rr : List V → Hp → VK → Prop} (h : AV ε K c G tas σ Ps) (hr : ∀ ds, Ps ds → ∃ d, CBD K rr ds d ∧ P d) : EV ε K c G (tCB rr tas) σ P := fun G1 H n a gh hI hlim Q q => h G1 H n a gh hI hlim _ fun vs ds G2 H2 e hI2 hvs hp => by
  obtain ⟨d, hd, hp2⟩ := hr ds hp
  exact hd vs G2 H2 e.gh hvs Q fun v G3 H3 e3 hv => q v d G3 H3 (e.same e3) (ε.stay hI2 e3) hv hp2
theorem ev_m1 {rr : V → List V → Hp → VK → Prop} {z : Str} (ho : ED K G ta σ (.str z)) (he : EV ε K c G te σ P1) (hr : ∀ d, P1 d → ∃ d', MD K rr (.str z) [d] d' ∧ P d') : EV ε K c G (tM1 rr ta te) σ P := fun G1 H n a gh hI hlim Q q => ho G1 H a gh _ fun x G2 H2 e2 hx => ⟨⟨z, dt_str hx⟩,
  he G2 H2 n (a.trans e2.gg) e2.gh (ε.stay hI e2) hlim _ fun y d G3 H3 e3 hI3 hy hp => by
    obtain ⟨d', hd, hp2⟩ := hr d hp
    exact hd x [y] G3 H3 e3.gh (same_dt e3.gg hx) (.cons hy .nil) Q fun v G4 H4 e4 hv => q v d' G4 H4 ((e2.toM.trans e3 fun _ h => .inl h).same e4) (ε.stay hI3 e4) hv hp2⟩
theorem tv_test (h : EV ε K c G te σ (fun d => ∃ b, d = .bool b ∧ Pb b)) : TV ε K c G (tTest te) σ Pb := fun G1 H n a gh hI hl Q q => h G1 H n a gh hI hl _ fun v d G2 H2 e hI2 hv ⟨b, hd, hp⟩ => ⟨b, by subst hd; exact dt_bool hv, q b G2 H2 e hI2 hp⟩
theorem tv_B (h : EV ε K c G te σ (fun d => ∃ b, d = .bool b ∧ Pb b)) : TV ε K c G (tB te) σ Pb := fun G1 H n a gh hI hl Q q => h G1 H n a gh hI hl _ fun v d G2 H2 e hI2 hv ⟨b, hd, hp⟩ => ⟨b, by subst hd; exact dt_bool hv, q b G2 H2 e hI2 hp⟩
theorem tv_not (h : TV ε K c G t σ (fun b => Pb (!b))) : TV ε K c G (tNot t) σ Pb := fun G1 H n a gh hI hl Q q => h G1 H n a gh hI hl _ fun b G2 H2 e hI2 hp => q _ G2 H2 e hI2 hp
/-- a test with either answer -/
theorem TV.any (h : TV ε K c G t σ Pb) : TV ε K c G t σ (fun _ => True) := h.imp fun _ _ => trivial
/-- comprehensions whose element draws -/
theorem ev_lc {wi : TI} {g : TG} {te : TE} {vs : List Nat} {m : Nat} {f : Nat → PyData} {P : Nat → PyData → Prop} {B : Nat → Hp → L2.St → Prop} (hi : EI K G wi σ m f) (hn : m < 100000) (hb : ∀ i, i < m → EG K g (wipe σ vs) (f i) (B i))
    (hw : ∀ i G1 σ2, i < m → B i G1 σ2 → wipe σ2 vs = wipe σ vs) (he : ∀ i G1 σ2, i < m → Same G G1 → B i G1 σ2 → EV ε K c G1 te σ2 (P i)) :
    EV ε K (m * c) G (tLc wi g tYes te vs) σ (fun d => ∃ ds, d = .list ds ∧ ds.length = m ∧ ∀ i x, ds[i]? = some x → P i x) := fun G1 H n a gh hI hlim Q q => hi G1 H a gh _ fun J G2 H2 e2 W D hD => by
  have hI2 := ε.stay hI e2
  have hDM : D ∉ ε.M := fun z => by
    obtain ⟨o, ho⟩ := ε.trk hI2 D z
    rw [hD] at ho
    cases ho
  have hMD : ∀ a ∈ ε.M, a ∉ [D] := fun a ha z => hDM (by rw [List.mem_singleton] at z; rw [← z]; exact ha)
  refine ⟨fun i k H' => k = m - i ∧ i ≤ m ∧ ∃ G' acc ds, Ext ε.M G2 H2 G' H' ∧ G' D = none ∧ H' D = some (.lst acc) ∧ DtAll K G' acc ds ∧ ds.length = i ∧ (∀ j x, ds[j]? = some x → P j x) ∧ ε.I (n + i * c) G' H',
    ⟨m, by simp, Nat.zero_le _, G2, [], [], Ext.cell e2.gh hD, e2.gh.free hD, upd_same, .nil, rfl, fun _ _ z => by simp at z, by rw [Nat.zero_mul]; exact ε.stay hI2 (Ext.cell e2.gh hD)⟩, ?_⟩
  rintro i k H' ⟨rfl, hin, G', acc, ds, e, gD, hacc, hds, hlen, hP, hI'⟩
  have gsame : Same G2 H' := e.gg.trans e.gh
  by_cases hlt : i < m
  · have hle : (i + 1) * c ≤ m * c := Nat.mul_le_mul_right c hlt
    have hsc : (i + 1) * c = i * c + c := Nat.succ_mul i c
    refine .inr ⟨W.goes i H' hlt gsame, fun H'' => ∃ G' acc ds, Ext ε.M G2 H2 G' H'' ∧ G' D = none ∧ H'' D = some (.lst acc) ∧ DtAll K G' acc ds ∧ ds.length = i + 1 ∧ (∀ j x, ds[j]? = some x → P j x) ∧ ε.I (n + (i + 1) * c) G' H'', fun H'' h => ⟨m - (i + 1), by omega, rfl, hlt, h⟩, fun x H3 y => ?_⟩
    obtain ⟨G3, e3, hx⟩ := W.yields i H' x H3 G' hlt e.gg e.gh y
    refine hb i hlt G3 H3 x e3.gh hx _ fun σ2 hσ => ⟨hw i G3 σ2 hlt hσ, ?_⟩
    unfold tYes
    refine iteT ?_
    have eG : Same G G3 := ((a.trans e2.gg).trans e.gg).trans e3.gg
    refine he i G3 σ2 hlt eG hσ G3 H3 (n + i * c) (Same.refl G3) e3.gh (ε.stay hI' e3) (by omega) _ fun w d G5 H5 e5 hI5 hwd hpd => ?_
    have gD5 : G5 D = none := e5.free (e3.free gD hacc) (e3.keep hacc (by simp))
    have hacc5 : H5 D = some (.lst acc) := e5.keep (e3.keep hacc (by simp)) hDM
    have l2 := dts_len hds
    have ep := Ext.put (o := .lst (acc ++ [w])) e5.gh gD5 hacc5
    refine ⟨acc, hacc5, sz_list (by omega), G5, acc ++ [w], ds ++ [d], ((e.same e3).trans e5 fun _ h => .inl h).trans ep fun z hz => .inr (by rw [List.mem_singleton] at hz; rw [hz]; exact hD), gD5, upd_same, dts_app (same_dts (e3.gg.trans e5.gg) hds) (.cons hwd .nil), by rw [List.length_append, hlen]; rfl, fun j y hy => ?_, ?_⟩
    · by_cases hj : j < ds.length
      · rw [List.getElem?_append_left hj] at hy
        exact hP j y hy
      · rw [List.getElem?_append_right (by omega)] at hy
        have : j - ds.length = 0 := by
          cases q : j - ds.length with
          | zero => rfl
          | succ q' => rw [q] at hy; simp at hy
        rw [this] at hy
        have e1 : d = y := by simpa using hy
        have e2 : j = i := by omega
        subst e1 e2
        exact hpd
    · have z := ε.keep hI5 ep hMD
      rw [hsc, ← Nat.add_assoc]
      exact z
  · have ei : i = m := by omega
    subst ei
    refine .inl ⟨W.stops H' gsame, ?_⟩
    have ek := Ext.know e.gh hacc gD e hD
    have hI3 : ε.I (n + i * c) (upd G' D (.lst acc)) H' := ε.know hI' (same_new gD) fun a ha => by
      have z : a ≠ D := fun z => hDM (z ▸ ha)
      rw [upd_ne z]
      exact ε.unk hI' a ha
    exact q _ _ _ H' (e2.toM.trans ek fun _ h => .inl h) hI3 (.lst upd_same (same_dts (same_new gD) hds)) ⟨ds, rfl, hlen, hP⟩
/-! menus -/
theorem avl_nil : AV ε K 0 G tNil σ (fun ds => ds.length = 0 ∧ ∀ x ∈ ds, P x) := fun G1 H n a gh hI hl Q q => q [] [] G1 H (Ext.refl gh) hI .nil ⟨rfl, fun _ h => nomatch h⟩
theorem avl_cons {m : Nat} (h : EV ε K c1 G ta σ P) (hs : AV ε K c2 G tas σ (fun ds => ds.length = m ∧ ∀ x ∈ ds, P x)) : AV ε K (c1 + c2) G (tCons ta tas) σ (fun ds => ds.length = m + 1 ∧ ∀ x ∈ ds, P x) := fun G1 H n a gh hI hl Q q =>
  av_cons h hs G1 H n a gh hI hl Q fun vs ds G2 H2 e hI2 hv ⟨d, ds', hd, p1, p2, p3⟩ => q vs ds G2 H2 e hI2 hv ⟨by rw [hd, List.length_cons, p2], fun x hx => by
    rw [hd] at hx
    rcases List.mem_cons.mp hx with z | z
    · rw [z]; exact p1
    · exact p3 x z⟩
/-- an item of a list at a drawn place -/
theorem ev_ixL {m : Nat} (ha : EV ε K c1 G ta σ (fun d => ∃ ds, d = .list ds ∧ ds.length = m ∧ ∀ x ∈ ds, P x)) (hb : EV ε K c2 G tb σ (fun d => ∃ r : Int, d = .int r ∧ 0 ≤ r ∧ r < m)) : EV ε K (c1 + c2) G (tOp (rIxL K) ta tb) σ P :=
  ev_op ha hb fun d1 d2 ⟨ds, e1, hl, hp⟩ ⟨r, e2, r0, r1⟩ => by
    subst e1 e2
    obtain ⟨x, h1, h2⟩ := atI_in (xs := ds) r0 (by omega)
    exact ⟨x, r2_ixL h1, hp x (List.mem_of_getElem? h2)⟩
theorem ev_ixL0 {m : Nat} (ha : AV ε K c1 G tas σ (fun ds => ds.length = m ∧ ∀ x ∈ ds, P x)) (hm : m ≤ 1000) (hb : EV ε K c2 G tb σ (fun d => ∃ r : Int, d = .int r ∧ 0 ≤ r ∧ r < m)) : EV ε K (c1 + c2) G (tOp (rIxL K) (tLst tas) tb) σ P :=
  ev_ixL (ev_lst ha fun ds h => by omega) hb
/-- a sign of a text at a drawn place -/
theorem ev_ixS {z : Str} (ha : ED K G ta σ (.str z)) (hz : z.length ≤ 10000) (hb : EV ε K c G tb σ (fun d => ∃ r : Int, d = .int r ∧ 0 ≤ r ∧ r < z.length)) : EV ε K c G (tOp rIxS ta tb) σ (fun d => ∃ x ∈ z.cps.toList, d = .str ⟨#[x]⟩) :=
  EV.up (ev_op (ev_ed ha) hb fun d1 d2 e1 ⟨r, e2, r0, r1⟩ => by
    subst e1 e2
    obtain ⟨x, h1, h2⟩ := atI_in (xs := z.cps.toList) r0 (by rw [Array.length_toList]; exact r1)
    exact ⟨_, r2_ixS (Nat.le_trans hz (by decide)) h1, x, List.mem_of_getElem? h2, rfl⟩) (by omega)
/-- ints: any one comes out -/
def isI (d : PyData) : Prop := ∃ i : Int, d = .int i
theorem ev_ints {g : Int → Int → Int} (ha : EV ε K c1 G ta σ isI) (hb : EV ε K c2 G tb σ isI) : EV ε K (c1 + c2) G (tOp (rI0 fun i j => .int (g i j)) ta tb) σ isI :=
  ev_op ha hb fun d1 d2 ⟨i, e1⟩ ⟨j, e2⟩ => by subst e1 e2; exact ⟨_, r2_i, _, rfl⟩
theorem ev_d (h : ED K G te σ d) (hp : P d) : EV ε K 0 G te σ P := (ev_ed h).imp fun _ e => e ▸ hp

/-! ### statements that draw -/
def SS (ε : Eff) (K : PySem.W.Frag) (c : Nat) (G : Hp) (ts : TS) (σ : L2.St) (R : PyData → Prop) (N : Hp → L2.St → Prop) : Prop := ∀ G1 H n, Same G G1 → Same G1 H → ε.I n G1 H → n + c ≤ lim → ∀ D : Ends,
  (∀ v d G2 H2, Ext ε.M G1 H G2 H2 → ε.I (n + c) G2 H2 → Dt K G2 v d → R d → D.rt v H2) → (∀ σ' G2 H2, Ext ε.M G1 H G2 H2 → ε.I (n + c) G2 H2 → N G2 σ' → D.nx σ' H2) → ts D σ H
variable {R : PyData → Prop} {N M : Hp → L2.St → Prop} {ts tz : TS}
theorem SS.mono (h : SS ε K c G ts σ R N) (e : Same G G') : SS ε K c G' ts σ R N := fun G1 H n a => h G1 H n (e.trans a)
theorem SS.up (h : SS ε K c G ts σ R N) (k : c ≤ c2) : SS ε K c2 G ts σ R N := fun G1 H n a gh hI hl D hrt hnx => h G1 H n a gh hI (by omega) D (fun v d G2 H2 e hI2 => hrt v d G2 H2 e (ε.up (by omega) hI2)) fun σ' G2 H2 e hI2 => hnx σ' G2 H2 e (ε.up (by omega) hI2)
theorem ss_es (h : ES K G ts σ R N) : SS ε K 0 G ts σ R N := fun G1 H n a gh hI hl D hrt hnx => h G1 H a gh D (fun v d G2 H2 e => hrt v d G2 H2 e.toM (ε.stay hI e)) fun σ' G2 H2 e => hnx σ' G2 H2 e.toM (ε.stay hI e)
theorem ss_ret (h : EV ε K c G te σ P) (hr : ∀ d, P d → R d) : SS ε K c G (tRet te) σ R N := fun G1 H n a gh hI hl D hrt hnx => h G1 H n a gh hI hl _ fun v d G2 H2 e hI2 hv hp => hrt v d G2 H2 e hI2 hv (hr d hp)
theorem ss_seq (h : SS ε K c1 G ts σ R M) (k : ∀ G1 σ1, Same G G1 → M G1 σ1 → SS ε K c2 G1 tz σ1 R N) : SS ε K (c1 + c2) G (tSeq ts tz) σ R N := fun G1 H n a gh hI hl D hrt hnx =>
  h G1 H n a gh hI (by omega) { D with nx := tz D } (fun v d G2 H2 e hI2 => hrt v d G2 H2 e (ε.up (by omega) hI2)) fun σ1 G2 H2 e hI2 hm => k G2 σ1 (a.trans e.gg) hm G2 H2 (n + c1) (Same.refl G2) e.gh hI2 (by omega) D
    (fun v d G3 H3 e3 hI3 => hrt v d G3 H3 (e.trans e3 fun _ h => .inl h) (by rw [← Nat.add_assoc]; exact hI3)) (fun σ' G3 H3 e3 hI3 => hnx σ' G3 H3 (e.trans e3 fun _ h => .inl h) (by rw [← Nat.add_assoc]; exact hI3))
theorem ss_set {i : Nat} (h : EV ε K c1 G te σ P) (k : ∀ G1 x d, Same G G1 → Dt K G1 x d → P d → SS ε K c2 G1 tz (σ.set i (some x)) R N) : SS ε K (c1 + c2) G (tSeq (tAsg te (gName i)) tz) σ R N :=
  ss_seq (M := fun G1 σ1 => ∃ x d, Dt K G1 x d ∧ P d ∧ σ1 = σ.set i (some x)) (fun G1 H n a gh hI hl D hrt hnx => h G1 H n a gh hI hl _ fun v d G2 H2 e hI2 hv hp => hnx _ G2 H2 e hI2 ⟨v, d, hv, hp, rfl⟩) fun G1 σ1 a ⟨x, d, hx, hp, e⟩ => by rw [e]; exact k G1 x d a hx hp
theorem ss_if (h : TV ε K c1 G t σ Pb) (h1 : Pb true → SS ε K c2 G ts σ R N) (h2 : Pb false → SS ε K c2 G tz σ R N) : SS ε K (c1 + c2) G (tIfS t ts tz) σ R N := fun G1 H n a gh hI hl D hrt hnx => h G1 H n a gh hI (by omega) _ fun b G2 H2 e hI2 hb => by
  cases b with
  | true => exact iteT (h1 hb G2 H2 (n + c1) (a.trans e.gg) e.gh hI2 (by omega) D (fun v d G3 H3 e3 hI3 => hrt v d G3 H3 (e.trans e3 fun _ h => .inl h) (by rw [← Nat.add_assoc]; exact hI3)) (fun σ' G3 H3 e3 hI3 => hnx σ' G3 H3 (e.trans e3 fun _ h => .inl h) (by rw [← Nat.add_assoc]; exact hI3)))
  | false => exact iteF (h2 hb G2 H2 (n + c1) (a.trans e.gg) e.gh hI2 (by omega) D (fun v d G3 H3 e3 hI3 => hrt v d G3 H3 (e.trans e3 fun _ h => .inl h) (by rw [← Nat.add_assoc]; exact hI3)) (fun σ' G3 H3 e3 hI3 => hnx σ' G3 H3 (e.trans e3 fun _ h => .inl h) (by rw [← Nat.add_assoc]; exact hI3)))
theorem ss_when (h : TV ε K c1 G t σ Pb) (h1 : Pb true → SS ε K c2 G (tSeq ts tz) σ R N) (h2 : Pb false → SS ε K c2 G tz σ R N) : SS ε K (c1 + c2) G (tSeq (tIfS t ts tNext) tz) σ R N := fun G1 H n a gh hI hl D hrt hnx => h G1 H n a gh hI (by omega) _ fun b G2 H2 e hI2 hb => by
  cases b with
  | true => exact iteT (h1 hb G2 H2 (n + c1) (a.trans e.gg) e.gh hI2 (by omega) D (fun v d G3 H3 e3 hI3 => hrt v d G3 H3 (e.trans e3 fun _ h => .inl h) (by rw [← Nat.add_assoc]; exact hI3)) (fun σ' G3 H3 e3 hI3 => hnx σ' G3 H3 (e.trans e3 fun _ h => .inl h) (by rw [← Nat.add_assoc]; exact hI3)))
  | false => exact iteF (h2 hb G2 H2 (n + c1) (a.trans e.gg) e.gh hI2 (by omega) D (fun v d G3 H3 e3 hI3 => hrt v d G3 H3 (e.trans e3 fun _ h => .inl h) (by rw [← Nat.add_assoc]; exact hI3)) (fun σ' G3 H3 e3 hI3 => hnx σ' G3 H3 (e.trans e3 fun _ h => .inl h) (by rw [← Nat.add_assoc]; exact hI3)))
theorem ss_retSeq (h : EV ε K c G te σ P) (hr : ∀ d, P d → R d) : SS ε K c G (tSeq (tRet te) tz) σ R N := fun G1 H n a gh hI hl D hrt hnx => h G1 H n a gh hI hl _ fun v d G2 H2 e hI2 hv hp => hrt v d G2 H2 e hI2 hv (hr d hp)
end

/-! ### defs that draw: the state stands among the arguments (none), the others are data -/
inductive DtO (K : PySem.W.Frag) (p : Addr) (G : Hp) : V → Option PyData → Prop
  | st : DtO K p G (.ref p) none
  | dt {v : V} {d : PyData} : Dt K G v d → DtO K p G v (some d)
abbrev DtOs (K : PySem.W.Frag) (p : Addr) (G : Hp) : List V → List (Option PyData) → Prop := Paired (DtO K p G)
def SFn (ef : Addr → Eff) (K : PySem.W.Frag) (c : Nat) (Pre : List (Option PyData) → Prop) (R : List (Option PyData) → PyData → Prop) : Sp := fun vs H Q _ => ∃ (G : Hp) (p : Addr) (n : Nat) (os : List (Option PyData)), Same G H ∧ (ef p).I n G H ∧ n + c ≤ lim ∧ DtOs K p G vs os ∧ Pre os ∧
  ∀ v d G' H', Ext (ef p).M G H G' H' → (ef p).I (n + c) G' H' → Dt K G' v d → R os d → Q v H'
def AO (ε : Eff) (K : PySem.W.Frag) (p : Addr) (c : Nat) (G : Hp) (ta : TA) (σ : L2.St) (P : List (Option PyData) → Prop) : Prop := ∀ G1 H n, Same G G1 → Same G1 H → ε.I n G1 H → n + c ≤ lim → ∀ Q : List V → Hp → Prop, (∀ vs os G2 H2, Ext ε.M G1 H G2 H2 → ε.I (n + c) G2 H2 → DtOs K p G2 vs os → P os → Q vs H2) → ta σ H Q
theorem dtos_same {K : PySem.W.Frag} {p : Addr} {G G' : Hp} (e : Same G G') : ∀ {vs : List V} {os : List (Option PyData)}, DtOs K p G vs os → DtOs K p G' vs os
  | _, _, .nil => .nil
  | _, _, .cons (.st) hs => .cons .st (dtos_same e hs)
  | _, _, .cons (.dt h) hs => .cons (.dt (same_dt e h)) (dtos_same e hs)
section
variable {ef : Addr → Eff} {K : PySem.W.Frag} {p : Addr} {c c1 c2 : Nat} {G : Hp} {σ : L2.St} {ta te : TE} {tas : TA} {d : PyData} {P : PyData → Prop} {Ps : List (Option PyData) → Prop}
theorem ao_nil : AO (ef p) K p 0 G tNil σ (fun os => os = []) := fun G1 H n a gh hI hl Q q => q [] [] G1 H (Ext.refl gh) hI .nil rfl
theorem ao_st {i : Nat} (h : σ[i]? = some (some (.ref p))) (hs : AO (ef p) K p c G tas σ Ps) : AO (ef p) K p c G (tCons (tVar i) tas) σ (fun os => ∃ os', os = none :: os' ∧ Ps os') := fun G1 H n a gh hI hl Q q =>
  ⟨_, h, hs G1 H n a gh hI hl _ fun vs os G2 H2 e hI2 hv hp => q _ _ G2 H2 e hI2 (.cons .st hv) ⟨os, rfl, hp⟩⟩
theorem ao_cons (h : EV (ef p) K c1 G ta σ P) (hs : AO (ef p) K p c2 G tas σ Ps) : AO (ef p) K p (c1 + c2) G (tCons ta tas) σ (fun os => ∃ d os', os = some d :: os' ∧ P d ∧ Ps os') := fun G1 H n a gh hI hl Q q =>
  h G1 H n a gh hI (by omega) _ fun x d G2 H2 e2 hI2 hx hp => hs G2 H2 (n + c1) (a.trans e2.gg) e2.gh hI2 (by omega) _ fun vs os G3 H3 e3 hI3 hv hps =>
    q _ _ G3 H3 (e2.trans e3 fun _ h => .inl h) (by rw [← Nat.add_assoc]; exact hI3) (.cons (.dt (same_dt e3.gg hx)) hv) ⟨d, os, rfl, hp, hps⟩
theorem ev_sfn {Pre : List (Option PyData) → Prop} {R : List (Option PyData) → PyData → Prop} {E : XK} (h : AO (ef p) K p c1 G tas σ Ps) (hr : ∀ os, Ps os → Pre os ∧ ∀ d, R os d → P d) : EV (ef p) K (c1 + c) G (tCall (SFn ef K c Pre R) [] E tas) σ P := fun G1 H n a gh hI hl Q q => h G1 H n a gh hI (by omega) _ fun vs os G2 H2 e hI2 hv hps => by
  rw [List.append_nil]
  obtain ⟨h1, h2⟩ := hr os hps
  exact ⟨G2, p, n + c1, os, e.gh, hI2, by omega, hv, h1, fun v d G3 H3 e3 hI3 hv3 hR => q v d G3 H3 (e.trans e3 fun _ h => .inl h) (by rw [← Nat.add_assoc]; exact hI3) hv3 (h2 d hR)⟩
end
section
variable {P : Program} {w : World} {K : PySem.W.Frag} {mg : Str → Option Value} {base : Heap} {ef : Addr → Eff}
theorem paired_len {α β : Type} {F : α → β → Prop} : ∀ {xs : List α} {ys : List β}, Paired F xs ys → xs.length = ys.length
  | _, _, .nil => rfl
  | _, _, .cons _ h => by simp [paired_len h]
theorem FnIn.draw {x : Str} {st : Stmt} {N ps : List Str} {k c : Nat} {Pre : List (Option PyData) → Prop} {R : List (Option PyData) → PyData → Prop} (F : FnIn K mg x st) (S : FnScope N ps (defScope st)) (len : ∀ os, Pre os → os.length = ps.length)
    (hb : ∀ (kV doc pm : Value) (an : Option Addr) (cdv ct : Value) (us : List Value), us.length = ps.length → bindArgs (PySem.W.fnOf x x (defArgs st) (defBody st) (defScope st) .none kV doc pm an cdv ct) ⟨us, []⟩ = Pure.pure (ps.zip us))
    (body : ∀ (f : Addr) (cdv : Value) (A : Around) (outer : List Env) (s : Shared) (H : Hp) (E : XK), Room k (A.deeper (PyProof.Rows.envOfC x (defScope st) s.heap.objs.size f cdv)) →
      ∃ t, PSs (cxOf CX0 P w K mg base N x (defScope st) f cdv A outer s H E).nox (defBody st) t ∧ ∀ G p vs os, DtOs K p G vs os → Pre os → SS (ef p) K c G t (start N vs) (R os) (fun _ _ => R os .none)) : Has P w K mg base CX0 (k + 1) x ps (SFn ef K c Pre R) := by
  refine F.ok S (fun vs H Q E ⟨G, p, n, os, gh, hI, hl, hv, hp, q⟩ => (paired_len hv).trans (len os hp)) hb (fun f cdv A outer s H vs Q E hr ⟨G, p, n, os, gh, hI, hl, hv, hp, q⟩ => ?_)
  obtain ⟨t, ht, hs⟩ := body f cdv A outer s H E hr
  refine ⟨t, ht, hs G p vs os hv hp G H n (Same.refl G) gh hI hl _ (fun v d G2 H2 e hI2 hv hR => q v d G2 H2 e hI2 hv hR) (fun σ' G2 H2 e hI2 hR => q .non .none G2 H2 e hI2 .non hR)⟩
end
end S

namespace S
open PySem L2
/-! ### texts by their signs -/
def mkS (l : List Nat) : Str := ⟨l.toArray⟩
theorem mkS_list (l : List Nat) : (mkS l).cps.toList = l := rfl
theorem mkS_len (l : List Nat) : (mkS l).length = l.length := by show l.toArray.size = _; simp
theorem mkS_of (x : Str) : x = mkS x.cps.toList := by cases x; rfl
theorem mkS_inj {l m : List Nat} (h : mkS l = mkS m) : l = m := by
  have := congrArg (fun x : Str => x.cps.toList) h
  exact this
theorem mkS_app (l m : List Nat) : mkS l ++ mkS m = mkS (l ++ m) := by
  show Str.append _ _ = _
  unfold Str.append mkS
  simp
theorem mkS_size (l : List Nat) : (mkS l).cps.size = l.length := mkS_len l
theorem mkS_getD (l : List Nat) (i : Nat) : (mkS l).cps.getD i 0 = l.getD i 0 := by
  rw [Array.getD_eq_getD_getElem?, List.getD_eq_getElem?_getD]
  show (l.toArray[i]?).getD 0 = _
  rw [List.getElem?_toArray]
/-- one sign -/
abbrev sg (c : Nat) : Str := ⟨#[c]⟩
theorem joinL_flat : ∀ ps : List (List Nat), TL.joinL [] ps = ps.flatten
  | [] => rfl
  | [p] => by simp [TL.joinL]
  | p :: q :: r => by
    rw [TL.joinL, joinL_flat (q :: r)]
    simp
theorem join_texts (ls : List (List Nat)) : Txt.join "" (ls.map mkS) = mkS ls.flatten := by
  have h : TL.tl (Txt.join "" (ls.map mkS)) = ls.flatten := by
    rw [TL.join_eq, TL.tl_join]
    have e : (ls.map mkS).map TL.tl = ls := by
      rw [List.map_map]
      exact List.map_id'' (fun l => rfl) ls
    rw [e, show TL.tl ("" : Str) = [] from by decide +kernel, joinL_flat]
  rw [mkS_of (Txt.join "" (ls.map mkS))]
  exact congrArg mkS h
theorem flat_one : ∀ l : List Nat, (l.map fun c => [c]).flatten = l
  | [] => rfl
  | a :: l => by rw [List.map_cons, List.flatten_cons, flat_one l]; rfl
theorem join_signs (l : List Nat) : Txt.join "" (l.map sg) = mkS l := by
  have e : l.map sg = (l.map fun c => [c]).map mkS := by
    rw [List.map_map]
    rfl
  rw [e, join_texts]
  congr 1
  exact flat_one l
theorem cutS_mk (l : List Nat) (lo hi : Option Int) : cutS (mkS l) lo hi = mkS ((l.drop (HT.sIx l.length 0 lo)).take (HT.sIx l.length l.length hi - HT.sIx l.length 0 lo)) := by
  unfold cutS
  rw [mkS_len]
  rfl
theorem strOk_mk {l : List Nat} (h : ∀ c ∈ l, c < 1114112) : PyData.strOk (mkS l) = true := by
  unfold PyData.strOk mkS
  simp only [List.all_toArray, List.all_eq_true, decide_eq_true_eq]
  exact h
theorem sum_sg (l : List Nat) : ((l.map sg).map (·.length)).sum = l.length := by
  induction l with
  | nil => rfl
  | cons a l ih =>
    rw [List.map_cons, List.map_cons, List.sum_cons, ih, List.length_cons]
    show 1 + l.length = _
    omega
/-! ### data that may be compared -/
def ShD (n : Nat) (d : PyData) : Prop := d.canLay0 = true ∧ d.depth ≤ n
theorem ShD.ok {n : Nat} {d : PyData} (h : ShD n d) (hn : n ≤ 64 := by decide) : SeqAt.shaped d = true := by
  unfold SeqAt.shaped
  rw [h.1, decide_eq_true (Nat.le_trans h.2 hn)]
  rfl
theorem sh_int {n : Nat} {i : Int} : ShD n (.int i) := ⟨by simp [PyData.canLay0], by simp [PyData.depth]⟩
theorem sh_bool {n : Nat} {b : Bool} : ShD n (.bool b) := ⟨by simp [PyData.canLay0], by simp [PyData.depth]⟩
theorem sh_none {n : Nat} : ShD n .none := ⟨by simp [PyData.canLay0], by simp [PyData.depth]⟩
theorem sh_str {n : Nat} {z : Str} (h : PyData.strOk z = true) : ShD n (.str z) := ⟨by simp [PyData.canLay0, h], by simp [PyData.depth]⟩
theorem sh_txt {n : Nat} {l : List Nat} (h : ∀ c ∈ l, c < 1114112) : ShD n (.str (mkS l)) := sh_str (strOk_mk h)
theorem sh_all {n : Nat} : ∀ {ds : List PyData}, (∀ x ∈ ds, ShD n x) → PyData.canLayAll0 ds = true ∧ PyData.depthAll ds ≤ n
  | [], _ => ⟨by simp [PyData.canLayAll0], by simp [PyData.depthAll]⟩
  | d :: ds, h => by
    obtain ⟨h1, h2⟩ := h d (by simp)
    obtain ⟨h3, h4⟩ := sh_all (ds := ds) fun x hx => h x (by simp [hx])
    refine ⟨by simp [PyData.canLayAll0, h1, h3], ?_⟩
    rw [PyData.depthAll]
    omega
theorem sh_list {n : Nat} {ds : List PyData} (h : ∀ x ∈ ds, ShD n x) : ShD (n + 1) (.list ds) := by
  obtain ⟨h1, h2⟩ := sh_all h
  exact ⟨by simp [PyData.canLay0, h1], by rw [PyData.depth]; omega⟩
theorem sh_tuple {n : Nat} {ds : List PyData} (h : ∀ x ∈ ds, ShD n x) : ShD (n + 1) (.tuple ds) := by
  obtain ⟨h1, h2⟩ := sh_all h
  exact ⟨by simp [PyData.canLay0, h1], by rw [PyData.depth]; omega⟩
theorem ShD.up {n m : Nat} {d : PyData} (h : ShD n d) (k : n ≤ m) : ShD m d := ⟨h.1, Nat.le_trans h.2 k⟩
/-- f tells things apart -/
def EqF {α : Type} [DecidableEq α] (f : α → PyData) : Prop := ∀ x y, PyData.eqv (f x) (f y) = decide (x = y)
theorem eqf_int : EqF PyData.int := fun x y => by rw [PyData.eqv]; exact Bool.eq_iff_iff.mpr (by simp)
theorem eqf_bool : EqF PyData.bool := fun x y => by rw [PyData.eqv]; exact Bool.eq_iff_iff.mpr (by simp)
theorem eqf_str : EqF PyData.str := fun x y => by rw [PyData.eqv]; exact Bool.eq_iff_iff.mpr (by simp)
theorem eqf_txt : EqF (fun l => PyData.str (mkS l)) := fun x y => by
  rw [eqf_str]
  by_cases h : x = y
  · subst h; simp
  · rw [decide_eq_false h, decide_eq_false fun e => h (mkS_inj e)]
theorem eqvAll_map {α : Type} [DecidableEq α] {f : α → PyData} (h : EqF f) : ∀ xs ys : List α, PyData.eqvAll (xs.map f) (ys.map f) = decide (xs = ys)
  | [], [] => by simp [PyData.eqvAll]
  | [], y :: ys => by simp [PyData.eqvAll]
  | x :: xs, [] => by simp [PyData.eqvAll]
  | x :: xs, y :: ys => by
    rw [List.map_cons, List.map_cons, PyData.eqvAll, h x y, eqvAll_map h xs ys]
    exact Bool.eq_iff_iff.mpr (by simp)
theorem eqf_list {α : Type} [DecidableEq α] {f : α → PyData} (h : EqF f) : EqF (fun xs : List α => PyData.list (xs.map f)) := fun xs ys => by rw [PyData.eqv]; exact eqvAll_map h xs ys
theorem eqf_tuple {α : Type} [DecidableEq α] {f : α → PyData} (h : EqF f) : EqF (fun xs : List α => PyData.tuple (xs.map f)) := fun xs ys => by rw [PyData.eqv]; exact eqvAll_map h xs ys
theorem eqv_nil {ds : List PyData} : PyData.eqv (.list ds) (.list []) = ds.isEmpty := by
  rw [PyData.eqv]
  cases ds with
  | nil => simp [PyData.eqvAll]
  | cons a l => simp [PyData.eqvAll]
section
variable {K : PySem.W.Frag} {G : Hp} {σ : L2.St} {ta tb tc te : TE} {d d1 d2 d3 : PyData} {ds es : List PyData} {b c : Bool} {r r' : R2} {to tp : TO}
/-- a text of signs that were gathered -/
theorem md_joinS (l : List Nat) (h : l.length ≤ 10000) : MD K (fun x xs H Q => ∃ a p, ∃ ys : List Str, x = .str a ∧ xs = [.ref p] ∧ (SqL K H p (ys.map V.str) ∨ SqT K H p (ys.map V.str)) ∧ (ys.map (·.length)).sum + ys.length * a.length ≤ 16777216 ∧ Q (.str (Txt.join a ys)) H)
    (.str "") [.list (l.map fun c => .str (sg c))] (.str (mkS l)) := by
  have m := md_join (K := K) (a := "") (ys := l.map sg) (by rw [sum_sg, show Str.length "" = 0 from by decide +kernel]; omega)
  rw [join_signs, List.map_map] at m
  exact m
theorem r2_inS {x : Nat} {z : Str} : R2D K (fun x y H Q => ∃ (c : Nat) (z : Str), x = .str ⟨#[c]⟩ ∧ y = .str z ∧ Q (.bl (decide (c ∈ z.cps.toList))) H) (.str (sg x)) (.str z) (.bool (decide (x ∈ z.cps.toList))) := fun v w G H gh hx hy Q q => by
  rw [dt_str hx, dt_str hy]
  exact ⟨x, z, rfl, rfl, q _ G H (Ext.refl gh) (.bl _)⟩
theorem r2_inNotS {x : Nat} {z : Str} : R2D K (fun x y H Q => ∃ (c : Nat) (z : Str), x = .str ⟨#[c]⟩ ∧ y = .str z ∧ Q (.bl (!decide (c ∈ z.cps.toList))) H) (.str (sg x)) (.str z) (.bool (!decide (x ∈ z.cps.toList))) := fun v w G H gh hx hy Q q => by
  rw [dt_str hx, dt_str hy]
  exact ⟨x, z, rfl, rfl, q _ G H (Ext.refl gh) (.bl _)⟩
/-- a < b < c -/
theorem ed_chain (ha : ED K G ta σ d1) (hb : ED K G tb σ d2) (hr : R2D K r d1 d2 (.bool b)) (hc : ED K G tc σ d3) (hr' : R2D K r' d2 d3 (.bool c)) : ED K G (tChain r r' ta tb tc) σ (.bool (b && c)) := fun G1 H a gh Q q =>
  ha G1 H a gh _ fun x G2 H2 e2 hx => hb G2 H2 (a.trans e2.gg) e2.gh _ fun y G3 H3 e3 hy => hr x y G3 H3 e3.gh (same_dt e3.gg hx) hy _ fun z G4 H4 e4 hz => ⟨b, dt_bool hz, by
    have e24 := (e2.same e3).same e4
    cases b with
    | false => exact iteF (q _ G4 H4 e24 (.bl _))
    | true => exact iteT (hc G4 H4 (a.trans e24.gg) e24.gh _ fun w G5 H5 e5 hw => hr' y w G5 H5 e5.gh (same_dt (e4.gg.trans e5.gg) hy) hw Q fun v G6 H6 e6 hv => q v G6 H6 ((e24.same e5).same e6) hv)⟩
/-- slices -/
theorem eo_none : EO K G tNoPart σ none := fun G1 H a gh Q q => q G1 H (Ext.refl gh)
theorem eo_some {i : Int} (h : ED K G te σ (.int i)) : EO K G (tPart te) σ (some i) := fun G1 H a gh Q q => h G1 H a gh _ fun v G2 H2 e hv => ⟨i, dt_int hv, q G2 H2 e⟩
def cutD (ds : List PyData) (lo hi : Option Int) : List PyData := (ds.drop (HT.sIx ds.length 0 lo)).take (HT.sIx ds.length ds.length hi - HT.sIx ds.length 0 lo)
theorem dts_cut {xs : List V} {lo hi : Option Int} (h : DtAll K G xs ds) : DtAll K G (cutV xs lo hi) (cutD ds lo hi) := by
  unfold cutV cutD
  rw [dts_len h]
  exact dts_take _ (dts_drop _ h)
theorem ed_slL {lo hi : Option Int} (h : ED K G te σ (.list ds)) (hl : EO K G to σ lo) (hh : EO K G tp σ hi) : ED K G (tSl (rSlL K) te to tp) σ (.list (cutD ds lo hi)) := fun G1 H a gh Q q =>
  h G1 H a gh _ fun x G2 H2 e2 hx => hl G2 H2 (a.trans e2.gg) e2.gh _ fun G3 H3 e3 => hh G3 H3 ((a.trans e2.gg).trans e3.gg) e3.gh _ fun G4 H4 e4 => by
    obtain ⟨p, xs, rfl, hq, hs⟩ := dt_list (same_dt (e3.gg.trans e4.gg) hx) e4.gh
    refine ⟨p, xs, rfl, hq, fun l hl => q _ _ _ (((e2.same e3).same e4).same (Ext.new e4.gh hl)) (.lst upd_same (dts_cut (same_dts (same_new (e4.gh.free hl)) hs)))⟩
theorem ed_slS {l : List Nat} {lo hi : Option Int} (h : ED K G te σ (.str (mkS l))) (hl : EO K G to σ lo) (hh : EO K G tp σ hi) (hz : l.length ≤ 10000) : ED K G (tSl rSlS te to tp) σ (.str (mkS ((l.drop (HT.sIx l.length 0 lo)).take (HT.sIx l.length l.length hi - HT.sIx l.length 0 lo)))) := fun G1 H a gh Q q =>
  h G1 H a gh _ fun x G2 H2 e2 hx => hl G2 H2 (a.trans e2.gg) e2.gh _ fun G3 H3 e3 => hh G3 H3 ((a.trans e2.gg).trans e3.gg) e3.gh _ fun G4 H4 e4 => by
    rw [dt_str hx]
    refine ⟨_, rfl, by rw [mkS_len]; exact Nat.le_trans hz (by decide), ?_⟩
    rw [cutS_mk]
    exact q _ G4 H4 ((e2.same e3).same e4) (.str _)
/-- t[a:b]: a new tuple, or the same one -/
theorem ed_slT {lo hi : Option Int} (h : ED K G te σ (.tuple ds)) (hl : EO K G to σ lo) (hh : EO K G tp σ hi) : ED K G (tSl (rSlA K) te to tp) σ (.tuple (cutD ds lo hi)) := fun G1 H a gh Q q =>
  h G1 H a gh _ fun x G2 H2 e2 hx => hl G2 H2 (a.trans e2.gg) e2.gh _ fun G3 H3 e3 => hh G3 H3 ((a.trans e2.gg).trans e3.gg) e3.gh _ fun G4 H4 e4 => by
    have hx4 := same_dt (e3.gg.trans e4.gg) hx
    obtain ⟨p, xs, rfl, hq, hs⟩ := dt_tuple hx4 e4.gh
    refine ⟨p, xs, rfl, hq, fun ⟨z1, z2⟩ => q _ _ _ ((e2.same e3).same e4) ?_, fun _ l hl => q _ _ _ (((e2.same e3).same e4).same (Ext.new e4.gh hl)) (.tup (.inl upd_same) (dts_cut (same_dts (same_new (e4.gh.free hl)) hs)))⟩
    have e : cutD ds lo hi = ds := by
      unfold cutD
      rw [dts_len hs] at z1 z2
      rw [z1, z2]
      simp
    rw [e]
    exact hx4
theorem r2_cat (h : ds.length + es.length ≤ 10000) (n1 : intHead ds = false) (n2 : intHead es = false) : R2D K rCat (.list ds) (.list es) (.list (ds ++ es)) := fun x y G H gh hx hy Q q => by
  obtain ⟨a, xs, rfl, h1, h2⟩ := dt_lst hx gh n1
  obtain ⟨a', ys, rfl, h3, h4⟩ := dt_lst hy gh n2
  exact ⟨_, _, _, _, rfl, rfl, h1, h3, by rw [dts_len h2, dts_len h4]; exact Nat.le_trans h (by decide), fun p hp => q _ _ _ (Ext.new gh hp) (.lst upd_same (dts_app (same_dts (same_new (gh.free hp)) h2) (same_dts (same_new (gh.free hp)) h4)))⟩
theorem r2_catT (h : ds.length + es.length ≤ 10000) : R2D K (rCatA K) (.tuple ds) (.tuple es) (.tuple (ds ++ es)) := fun x y G H gh hx hy Q q => by
  obtain ⟨a, xs, rfl, h1, h2⟩ := dt_tuple hx gh
  obtain ⟨a', ys, rfl, h3, h4⟩ := dt_tuple hy gh
  refine ⟨_, _, _, _, rfl, rfl, h1, h3, by rw [dts_len h2, dts_len h4]; exact Nat.le_trans h (by decide), fun e => q _ _ _ (Ext.refl gh) ?_, fun _ e => q _ _ _ (Ext.refl gh) ?_, fun _ _ p hp => q _ _ _ (Ext.new gh hp) (.tup (.inl upd_same) (dts_app (same_dts (same_new (gh.free hp)) h2) (same_dts (same_new (gh.free hp)) h4)))⟩
  · subst e
    cases h2
    exact hy
  · subst e
    cases h4
    rw [List.append_nil]
    exact hx
/-- list(xs), list(t), tuple(xs) -/
theorem cb_listL : CBD K (fun xs H Q => ∃ p ys, xs = [.ref p] ∧ (SqL K H p ys ∨ SqT K H p ys) ∧ ∀ l, H l = none → Q (.ref l) (upd H l (.lst ys))) [.list ds] (.list ds) := fun vs G H gh h Q q => by
  obtain ⟨v, rfl, hv⟩ := dts1 h
  obtain ⟨a, xs, rfl, hl, hs⟩ := dt_list hv gh
  exact ⟨a, xs, rfl, .inl hl, fun l hl => q _ _ _ (Ext.new gh hl) (.lst upd_same (same_dts (same_new (gh.free hl)) hs))⟩
theorem cb_listT : CBD K (fun xs H Q => ∃ p ys, xs = [.ref p] ∧ (SqL K H p ys ∨ SqT K H p ys) ∧ ∀ l, H l = none → Q (.ref l) (upd H l (.lst ys))) [.tuple ds] (.list ds) := fun vs G H gh h Q q => by
  obtain ⟨v, rfl, hv⟩ := dts1 h
  obtain ⟨a, xs, rfl, hl, hs⟩ := dt_tuple hv gh
  exact ⟨a, xs, rfl, .inr hl, fun l hl => q _ _ _ (Ext.new gh hl) (.lst upd_same (same_dts (same_new (gh.free hl)) hs))⟩
theorem ed_dict0 : ED K G tDNewK σ (.dict []) := fun G1 H a gh Q q p hp => q _ _ _ (Ext.new gh hp) (.dct upd_same .nil)
end
end S

/-! zip of two texts -/
namespace S
open PySem PySem.Spec PyProof.Rows L2
def ItzS (x y : Str) : It :=
  ⟨fun i _ => i < x.cps.size ∧ i < y.cps.size,
    fun i H v H' => ∃ T c1 c2, v = .ref T ∧ H T = none ∧ H' = upd H T (.tup [.str ⟨#[c1]⟩, .str ⟨#[c2]⟩]) ∧ x.cps[i]? = some c1 ∧ y.cps[i]? = some c2,
    fun i _ => i ≤ x.cps.size ∧ i ≤ y.cps.size ∧ (i = x.cps.size ∨ i = y.cps.size)⟩
theorem turn_zipS {P : Program} {w : World} {K : PySem.W.Frag} {elts : List Expr} {kk : Nat} {tpos : Pos} {x y : Str} {t1 t2 : Tok} {z TI TO i1 i2 : Addr} (D : ZipSep2 z TI TO i1 i2 [i1] [i2]) :
    Turn P w K (.Tuple elts kk tpos) (ItzS x y) [z, TI, TO, i1, i2] z (fun i h => IsZip h z TI TO .none ∧ IsTupOf2 h TI (.ref i1) (.ref i2) ∧ (∃ a b, IsTupOf2 h TO a b) ∧ h.IsStrIter i1 (strIterType x) x t1 i ∧ h.IsStrIter i2 (strIterType y) y t2 i) where
  mem := by simp
  obj := fun i h st c hc => by
    obtain ⟨hz, hTI, ⟨x, y, hTO⟩, ⟨o1, e1, _, d1⟩, ⟨o2, e2, _, d2⟩⟩ := st
    have e' : c = z ∨ c = TI ∨ c = TO ∨ c = i1 ∨ c = i2 := by simpa using hc
    rcases e' with q | q | q | q | q
    · rw [q]; exact ⟨_, hz, fun v q => nomatch q⟩
    · rw [q]; exact ⟨_, hTI, fun v q => nomatch q⟩
    · rw [q]; exact ⟨_, hTO, fun v q => nomatch q⟩
    · rw [q]; exact ⟨o1, e1, fun v q => by rw [d1] at q; cases q⟩
    · rw [q]; exact ⟨o2, e2, fun v q => by rw [d2] at q; cases q⟩
  keep := fun i h h' st k => by
    obtain ⟨hz, hTI, ⟨x, y, hTO⟩, ⟨o1, e1, r1⟩, ⟨o2, e2, r2⟩⟩ := st
    exact ⟨k z (by simp) _ hz, k TI (by simp) _ hTI, ⟨x, y, k TO (by simp) _ hTO⟩, ⟨o1, k i1 (by simp) o1 e1, r1⟩, ⟨o2, k i2 (by simp) o2 e2, r2⟩⟩
  item := by
    intro X hP hw hK hc i pins s σ H E I hf st hg
    subst hP hw hK
    obtain ⟨hz, hTI, ⟨x0, y0, hTO⟩, h1, h2⟩ := st
    obtain ⟨hg1, hg2⟩ := hg
    have hzl : z < s.heap.objs.size := Heap.lt_size hz
    have D1 := Draws.text (prog := X.prog) (w := X.w) (A := X.A.in1) (I.ok.hd hc) i1 x t1
    have D2 := Draws.text (prog := X.prog) (w := X.w) (A := X.A.in1) (I.ok.hd hc) i2 y t2
    refine wpAny_pyNext_zipD2_item D D1 D2 hz hTI hTO h1 h2 hg1 hg2 fun u u2 h' tk p1 p2 z' TO' h1' h2' hT hsz hk => ?_
    obtain ⟨c1, tu, hc1, rfl⟩ := p1
    obtain ⟨c2, tu2, hc2, rfl⟩ := p2
    refine ⟨_, rfl, wpAny_letOwnedTupleGo_zip (s := { s with heap := h', toks := tk }) z' fun h'' z'' sb => ?_⟩
    have hT2 : h''.get? s.heap.objs.size = some { cls := .type "tuple", data := .seq #[.str ⟨#[c1]⟩ tu, .str ⟨#[c2]⟩ tu2] } := (sb.2 _ (Nat.ne_of_gt hzl)).trans hT
    have new : ObjOk X.prog X.w (upd H s.heap.objs.size (.tup [.str ⟨#[c1]⟩, .str ⟨#[c2]⟩])) h'' s.heap.objs.size (.tup [.str ⟨#[c1]⟩, .str ⟨#[c2]⟩]) :=
      ⟨by show 2 ≤ sizeLine; decide, [.str ⟨#[c1]⟩ tu, .str ⟨#[c2]⟩ tu2], .cons ⟨_, rfl⟩ (.cons ⟨_, rfl⟩ .nil), ⟨_, hT2, rfl, _, rfl⟩⟩
    have I1 : Inv X pins σ (upd H s.heap.objs.size (.tup [.str ⟨#[c1]⟩, .str ⟨#[c2]⟩])) { s with heap := h'', toks := tk } :=
      I.turnedNew (t' := tk) (ch := [z, TI, TO, i1, i2]) (fun c o hb q => (sb.2 c (fun q' => hb (by simp [q']))).trans (hk c o (fun q' => hb (by simp [q'])) (fun q' => hb (by simp [q'])) (fun q' => hb (by simp [q'])) (fun q' => hb (by simp [q'])) q)) hf (Nat.le_refl _) new
    have zi1 : i1 ≠ z := D.zi1.symm
    have zi2 : i2 ≠ z := D.zi2.symm
    refine ⟨.ref s.heap.objs.size, _, I1, rfl, ⟨_, c1, c2, rfl, I.hok.fresh (Nat.le_refl _), rfl, hc1, hc2⟩, ⟨z'', ?_, ⟨.str ⟨#[c1]⟩ tu, .str ⟨#[c2]⟩ tu2, ?_⟩, ?_, ?_⟩, fun c hcm => ?_⟩
    · exact (sb.2 _ D.TIz).trans (hk _ _ D.TIz D.TITO D.TIi1 D.TIi2 hTI)
    · exact (sb.2 _ D.TOz).trans TO'
    · obtain ⟨o1, e1, r1⟩ := h1'
      exact ⟨o1, (sb.2 _ zi1).trans e1, r1⟩
    · obtain ⟨o2, e2, r2⟩ := h2'
      exact ⟨o2, (sb.2 _ zi2).trans e2, r2⟩
    · have hlt : c < s.heap.objs.size := by
        have e' : c = z ∨ c = TI ∨ c = TO ∨ c = i1 ∨ c = i2 := by simpa using hcm
        rcases e' with q | q | q | q | q
        · rw [q]; exact hzl
        · rw [q]; exact Heap.lt_size hTI
        · rw [q]; exact Heap.lt_size hTO
        · rw [q]; obtain ⟨_, e1, _⟩ := h1; exact Heap.lt_size e1
        · rw [q]; obtain ⟨_, e2, _⟩ := h2; exact Heap.lt_size e2
      rw [upd_ne (Nat.ne_of_lt hlt)]
      exact (hf c hcm).1
  done := by
    intro X hP hw hK hc i pins s σ H E I hf st hg
    subst hP hw hK
    obtain ⟨hz, hTI, ⟨x0, y0, hTO⟩, h1, h2⟩ := st
    obtain ⟨l1, l2, he⟩ := hg
    have D1 := Draws.text (prog := X.prog) (w := X.w) (A := X.A.in1) (I.ok.hd hc) i1 x t1
    have D2 := Draws.text (prog := X.prog) (w := X.w) (A := X.A.in1) (I.ok.hd hc) i2 y t2
    exact wpAny_pyNext_zipD2_end D D1 D2 hz hTI hTO h1 h2 l1 l2 he fun h' tk hk => ⟨rfl, I.turnedL (t' := tk) (ch := [z, TI, TO, i1, i2]) (fun c o hb q =>
      hk c o (fun q' => hb (by simp [q'])) (fun q' => hb (by simp [q'])) (fun q' => hb (by simp [q'])) (fun q' => hb (by simp [q'])) q) hf⟩
  self := fun A i s Q E st h => wpAny_pyIter_zip st.1 h
/-- zip of two texts -/
def iZipS (ta : TA) : TI := fun σ H R => ta σ H fun vs H1 => ∃ x y, vs = [.str x, .str y] ∧ R (ItzS x y) H1
theorem pi_zipS {X : Cx} {e e2 : Expr} {ta : TA} {p pos tpos : Pos} {elts : List Expr} {kk : Nat} (hg : Gl X "zip") (hm : X.mg "zip" = none) (ha : PA X [e, e2] ta)
    (hs : starEach [e, e2] X.env = (false, eval e X.env) :: starEach [e2] X.env := by rfl) (hpl : (backTo pos (starEach [e2] X.env)).any (·.1) = false := by rfl) :
    PI X (.Tuple elts kk tpos) (.Call (.Name "zip" p) [e, e2] [] pos) (iZipS ta) := by
  refine ⟨fun pins s σ H R I h => ?_⟩
  refine Call_ (ld_blt I hg hm PyProof.Rows.boot_zip (PyProof.Rows.callWith_type1 (thn (ha.run pos pins s σ H _ I h) fun us s1 ⟨vs, H1, I1, r1, q1⟩ => ?_) hs hpl))
  obtain ⟨x, y, ex, q⟩ := q1
  subst ex
  cases r1 with
  | cons r rr =>
    cases rr with
    | cons r' rr =>
      cases rr
      obtain ⟨t1, rfl⟩ := r
      obtain ⟨t2, rfl⟩ := r'
      have fresh5 : ∀ c, c ∈ [s1.heap.objs.size + 4, s1.heap.objs.size + 2, s1.heap.objs.size + 3, s1.heap.objs.size, s1.heap.objs.size + 1] → FpOk X pins H1 c := fun c hcm => by
        have e' : c = s1.heap.objs.size + 4 ∨ c = s1.heap.objs.size + 2 ∨ c = s1.heap.objs.size + 3 ∨ c = s1.heap.objs.size ∨ c = s1.heap.objs.size + 1 := by simpa using hcm
        have hle : s1.heap.objs.size ≤ c := by
          rcases e' with z | z | z | z | z
          · rw [z]; exact Nat.le_add_right _ _
          · rw [z]; exact Nat.le_add_right _ _
          · rw [z]; exact Nat.le_add_right _ _
          · rw [z]; exact Nat.le_refl _
          · rw [z]; exact Nat.le_add_right _ _
        exact I1.fpOk hle (I1.hok.fresh hle)
      refine zip_begins2 (begins_text x t1) (begins_text y t2) trivial trivial fun h' hz hTI hTO h1 h2 hsz hk => wpAny_pyIter_zip hz ?_
      have I2 : Inv X pins σ H1 { s1 with heap := h' } := I1.kept (t' := s1.toks) hk
      have D : ZipSep2 (s1.heap.objs.size + 4) (s1.heap.objs.size + 2) (s1.heap.objs.size + 3) s1.heap.objs.size (s1.heap.objs.size + 1) [s1.heap.objs.size] [s1.heap.objs.size + 1] := by
        constructor <;> simp
      exact ⟨s1.heap.objs.size + 4, [s1.heap.objs.size + 4, s1.heap.objs.size + 2, s1.heap.objs.size + 3, s1.heap.objs.size, s1.heap.objs.size + 1], _, _, H1, rfl, I2, turn_zipS D, ⟨hz, hTI, ⟨_, _, hTO⟩, ⟨_, h1, rfl, rfl⟩, ⟨_, h2, rfl, rfl⟩⟩, fresh5, q⟩
end S

namespace S
open PySem L2
/-! ### what is new, what is forgotten -/
/-- of what is known in G', all that wasn't tracked in H -/
def news (H G' : Hp) : Hp := fun a => match H a with | none => G' a | some _ => none
theorem news_le {H G : Hp} : Same (news H G) G := fun a u h => by
  unfold news at h
  cases e : H a with
  | none => rw [e] at h; exact h
  | some o => rw [e] at h; cases h
theorem news_at {H G : Hp} {a : Addr} {u : HO} (h : H a = none) (g : G a = some u) : news H G a = some u := by
  unfold news
  rw [h]
  exact g
theorem news_of {H G : Hp} {a : Addr} {u : HO} (h : news H G a = some u) : H a = none ∧ G a = some u := by
  refine ⟨?_, news_le a u h⟩
  cases e : H a with
  | none => rfl
  | some o => unfold news at h; rw [e] at h; cases h
theorem news_mono {H H1 G G1 : Hp} (d : ∀ a, H1 a = none → H a = none) (g : Same G G1) : Same (news H1 G) (news H G1) := fun a u h => by
  obtain ⟨h1, h2⟩ := news_of h
  exact news_at (d a h1) (g a u h2)
def hide (l : Addr) (G : Hp) : Hp := fun a => if a = l then none else G a
theorem hide_ne {l a : Addr} {G : Hp} (h : a ≠ l) : hide l G a = G a := if_neg h
theorem hide_self {l : Addr} {G : Hp} : hide l G l = none := if_pos rfl
theorem hide_of {l a : Addr} {G : Hp} {u : HO} (h : hide l G a = some u) : a ≠ l ∧ G a = some u := by
  by_cases e : a = l
  · subst e; rw [hide_self] at h; cases h
  · rw [hide_ne e] at h; exact ⟨e, h⟩
theorem hide_le {l : Addr} {G : Hp} : Same (hide l G) G := fun a u h => (hide_of h).2
/-- what was known while it stood still isn't any longer -/
theorem Ext.unknow {M : List Addr} {G H G' H' : Hp} {l : Addr} {o : HO} (e : Ext M (upd G l o) H G' H') (hg : G l = none) (h : H l = some o) : Ext M G H (hide l G') H' := by
  refine ⟨fun a u q => ?_, hide_le.trans e.gh, e.hh, fun a u q => ?_, e.dm, e.tp⟩
  · have z : a ≠ l := ne_of_none q hg
    rw [hide_ne z]
    exact e.gg a u (by rw [upd_ne z]; exact q)
  · obtain ⟨z, q⟩ := hide_of q
    rcases e.nw a u q with y | y
    · rw [upd_ne z] at y; exact .inl y
    · exact .inr y
/-- a new thing that was known is written -/
theorem Ext.forget {M : List Addr} {G H G' H' : Hp} {l : Addr} {o o' : HO} (e : Ext M G H G' H') (gh : Same G H) (hl : H l = none) (h' : H' l = some o') : Ext M G H (hide l G') (upd H' l o) := by
  refine ⟨fun a u q => ?_, fun a u q => ?_, fun a u q n => ?_, fun a u q => e.nw a u (hide_of q).2, fun a q => ?_, fun a u q t => ?_⟩
  · have z : a ≠ l := ne_of_none q (gh.free hl)
    rw [hide_ne z]
    exact e.gg a u q
  · obtain ⟨z, q⟩ := hide_of q
    rw [upd_ne z]
    exact e.gh a u q
  · rw [upd_ne (ne_of_none q hl)]
    exact e.hh a u q n
  · by_cases z : a = l
    · subst z; exact hl
    · rw [upd_ne z] at q; exact e.dm a q
  · by_cases z : a = l
    · subst z; exact .inl hl
    · rw [upd_ne z] at q; exact e.tp a u q t
theorem news_hide {H G : Hp} {l : Addr} {o : HO} (h : H l = some o) : Same (news H G) (hide l G) := fun a u q => by
  obtain ⟨h1, h2⟩ := news_of q
  rw [hide_ne (fun z => by rw [z, h] at h1; cases h1)]
  exact h2
/-! ### evaluation to new data -/
def EF (K : PySem.W.Frag) (G : Hp) (te : TE) (σ : L2.St) (d : PyData) : Prop := ∀ G1 H, Same G G1 → Same G1 H → ∀ Q : VK, (∀ v G2 H2, Ext [] G1 H G2 H2 → Dt K (news H G2) v d → Q v H2) → te σ H Q
def FFn (K : PySem.W.Frag) (R : List PyData → PyData → Prop) : Sp := fun vs H Q _ => ∃ (G : Hp) (ds : List PyData) (d : PyData), Same G H ∧ DtAll K G vs ds ∧ R ds d ∧ ∀ v G' H', Ext [] G H G' H' → Dt K (news H G') v d → Q v H'
theorem ffn_pfn {K : PySem.W.Frag} {R : List PyData → PyData → Prop} {vs : List V} {H : Hp} {Q : VK} {E : XK} (h : PFn K R vs H Q E) : FFn K R vs H Q E := by
  obtain ⟨G, ds, d, gh, hv, hr, q⟩ := h
  exact ⟨G, ds, d, gh, hv, hr, fun v G' H' e hv' => q v G' H' e (same_dt news_le hv')⟩
section
variable {K : PySem.W.Frag} {G G' : Hp} {σ : L2.St} {ta te : TE} {tas : TA} {d : PyData} {ds : List PyData}
theorem EF.ed (h : EF K G te σ d) : ED K G te σ d := fun G1 H a gh Q q => h G1 H a gh Q fun v G2 H2 e hv => q v G2 H2 e (same_dt news_le hv)
theorem EF.mono (h : EF K G te σ d) (e : Same G G') : EF K G' te σ d := fun G1 H a => h G1 H (e.trans a)
/-- list(xs) of texts -/
theorem ef_listS {ss : List Str} (h : ED K G te σ (.list (ss.map PyData.str))) : EF K G (tCB (fun xs H Q => ∃ p ys, xs = [.ref p] ∧ (SqL K H p ys ∨ SqT K H p ys) ∧ ∀ l, H l = none → Q (.ref l) (upd H l (.lst ys))) (tCons te tNil)) σ (.list (ss.map PyData.str)) := fun G1 H a gh Q q => h G1 H a gh _ fun v G2 H2 e hv => by
  obtain ⟨p, xs, rfl, hl, hs⟩ := dt_list hv e.gh
  rw [dts_strs hs] at hl
  refine ⟨p, _, rfl, .inl hl, fun l hl => q _ _ _ (e.same (Ext.new e.gh hl)) (.lst (news_at (e.dm l hl) upd_same) (strs_dts ss))⟩
theorem ef_fn {R : List PyData → PyData → Prop} {E : XK} (h : EA K G tas σ ds) (hr : R ds d) : EF K G (tCall (FFn K R) [] E tas) σ d := fun G1 H a gh Q q => h G1 H a gh _ fun vs G2 H2 e hvs => by
  rw [List.append_nil]
  exact ⟨G2, ds, d, e.gh, hvs, hr, fun v G3 H3 e3 hv => q v G3 H3 (e.same e3) (same_dt (news_mono e.dm (Same.refl G3)) hv)⟩
end
/-! ### instances that are only read -/
def lookD (f : Str) : List (PyData × PyData) → Option PyData
  | [] => none
  | (k, d) :: r => match k with
    | .str g => if f == g then some d else lookD f r
    | _ => lookD f r
section
variable {K : PySem.W.Frag} {G G' H : Hp} {σ : L2.St} {ta te : TE} {tas : TA} {d : PyData} {ds : List PyData} {C D : Addr} {os : List (PyData × PyData)} {f m : Str} {v : V}
theorem dt_obj (h : Dt K G v (dObj C os)) (gh : Same G H) : ∃ a dx fs, v = .ref a ∧ H a = some (.ins C dx fs) ∧ DtFs K G fs os := by
  generalize e : dObj C os = d at h
  cases h with
  | dct h hs =>
    unfold dObj at e
    cases hs with
    | nil => cases e
    | @cons k _ _ _ _ _ _ =>
      cases k with
      | inl i => simp [keyD] at e
      | inr x => simp [keyD] at e
  | obj h hs =>
    simp only [dObj, PyData.dict.injEq, List.cons.injEq, Prod.mk.injEq, true_and, PyData.int.injEq] at e
    obtain ⟨e1, rfl⟩ := e
    have e2 : C = _ := Int.ofNat.inj e1
    subst e2
    exact ⟨_, _, _, rfl, gh _ _ h, hs⟩
  | _ => cases e
theorem dtf_look : ∀ {fs : List (Str × V)} {os : List (PyData × PyData)}, DtFs K G fs os → lookD f os = some d → ∃ v, fs.lookup f = some v ∧ Dt K G v d
  | _, _, .nil, e => by cases e
  | _, _, @DtFs.cons _ _ g v vs d' ds' h hs, e => by
    have e : (if f == g then some d' else lookD f ds') = some d := e
    rw [List.lookup_cons]
    cases q : f == g with
    | true => rw [if_pos q] at e; cases e; exact ⟨_, rfl, h⟩
    | false => rw [if_neg (by rw [q]; decide)] at e; exact dtf_look hs e
theorem dtf_none : ∀ {fs : List (Str × V)} {os : List (PyData × PyData)}, DtFs K G fs os → lookD f os = none → fs.lookup f = none
  | _, _, .nil, _ => rfl
  | _, _, @DtFs.cons _ _ g v vs d' ds' h hs, e => by
    have e : (if f == g then some d' else lookD f ds') = none := e
    rw [List.lookup_cons]
    cases q : f == g with
    | true => rw [if_pos q] at e; cases e
    | false => rw [if_neg (by rw [q]; decide)] at e; exact dtf_none hs e
/-- e.f -/
theorem ed_fld (c : Cls K C) (n : NoAttr K C f) (h : ED K G ta σ (dObj C os)) (l : lookD f os = some d) : ED K G (tFld K ta f) σ d := fun G1 H a gh Q q => h G1 H a gh _ fun v G2 H2 e hv => by
  obtain ⟨p, dx, fs, rfl, hp, hf⟩ := dt_obj hv e.gh
  obtain ⟨w, h1, h2⟩ := dtf_look hf l
  exact ⟨p, C, dx, fs, w, rfl, hp, c, n, h1, q w G2 H2 e h2⟩
/-- o.m(..), m pure -/
theorem ed_mth {R : List PyData → PyData → Prop} {E : XK} (ho : ED K G ta σ (dObj C os)) (l : lookD m os = none) (h : EA K G tas σ ds) (hr : R (dObj C os :: ds) d) : ED K G (tMeth C m (PFn K R) [] E ta tas) σ d := fun G1 H a gh Q q => ho G1 H a gh _ fun v G2 H2 e hv => by
  obtain ⟨p, dx, fs, rfl, hp, hf⟩ := dt_obj hv e.gh
  refine ⟨p, dx, fs, rfl, hp, dtf_none hf l, h G2 H2 (a.trans e.gg) e.gh _ fun vs G3 H3 e3 hvs => ?_⟩
  rw [List.append_nil]
  exact ⟨G3, _, d, e3.gh, .cons (same_dt e3.gg hv) hvs, hr, fun v G4 H4 e4 hv => q v G4 H4 ((e.same e3).same e4) hv⟩
theorem ef_mth {R : List PyData → PyData → Prop} {E : XK} (ho : ED K G ta σ (dObj C os)) (l : lookD m os = none) (h : EA K G tas σ ds) (hr : R (dObj C os :: ds) d) : EF K G (tMeth C m (FFn K R) [] E ta tas) σ d := fun G1 H a gh Q q => ho G1 H a gh _ fun v G2 H2 e hv => by
  obtain ⟨p, dx, fs, rfl, hp, hf⟩ := dt_obj hv e.gh
  refine ⟨p, dx, fs, rfl, hp, dtf_none hf l, h G2 H2 (a.trans e.gg) e.gh _ fun vs G3 H3 e3 hvs => ?_⟩
  rw [List.append_nil]
  exact ⟨G3, _, d, e3.gh, .cons (same_dt e3.gg hv) hvs, hr, fun v G4 H4 e4 hv => q v G4 H4 ((e.same e3).same e4) (same_dt (news_mono (fun x hx => e.dm x (e3.dm x hx)) (Same.refl G4)) hv)⟩
/-- isinstance(o, D), D a class of the program -/
structure IsO (K : PySem.W.Frag) (C : Addr) : Prop where
  cl : Cls K C
  ha : PySem.W.findIn K (.ref C) "__class__" = some (some (.builtin "object.__class__"))
  hn : PySem.W.specialIn K (.builtin "object.__class__") "__get__" = some (some (.builtin "getset_descriptor.__get__"))
  htk : PySem.W.takesIn K (.builtin "object.__class__") = some true
  hm : PySem.W.mroIn K C (.type "object") = some true
theorem ed_isiO {ans : Bool} (h : ED K G ta σ (dObj C os)) (o : IsO K C) (hk : PySem.W.kitOne K (.ref C) (.ref D) = some ans) : ED K G (tCB (rIsi K) (tCons ta (tCons (tC (.ref D)) tNil))) σ (.bool ans) := fun G1 H a gh Q q => h G1 H a gh _ fun v G2 H2 e hv => by
  obtain ⟨p, dx, fs, rfl, hp, hf⟩ := dt_obj hv e.gh
  exact ⟨_, _, _, _, ans, rfl, .own D, .base (.ins hp o.cl o.ha o.hn o.htk o.hm), hk, q _ G2 H2 e (.bl _)⟩
end
/-! ### a statement that is never reached -/
theorem ps_dead {X : Cx} {st : Stmt} : PS X st (fun _ _ _ => False) := ⟨fun _ _ _ _ _ _ h => h.elim⟩
theorem pss_dead {X : Cx} {st : List Stmt} : PSs X st (fun _ _ _ => False) := ⟨fun _ _ _ _ _ _ h => h.elim⟩
/-! ### methods -/
def HasM (P : Program) (w : World) (K : PySem.W.Frag) (mg : Str → Option Value) (base : Heap) (CX : CXT) (k : Nat) (C : Addr) (m : Str) (ps : List Str) (sp : Sp) : Prop :=
  ∃ (f : Addr) (fd : FuncData), FnOk P w K mg base CX k f fd ps sp ∧ Meth K C m f ∧ Binds K fd ps []
theorem HasM.weak {P : Program} {w : World} {K : PySem.W.Frag} {mg : Str → Option Value} {base : Heap} {CX : CXT} {k : Nat} {C : Addr} {m : Str} {ps : List Str} {R : List PyData → PyData → Prop} (h : HasM P w K mg base CX k C m ps (FFn K R)) : HasM P w K mg base CX k C m ps (PFn K R) := by
  obtain ⟨f, fd, F, hm, b⟩ := h
  exact ⟨f, fd, F.imp fun _ _ _ _ => ffn_pfn, hm, b⟩
section
variable {X : Cx} {j k : Nat} {C : Addr} {m x : Str} {ps : List Str} {sp : Sp} {o e : Expr} {es : List Expr} {ta : TE} {t : TA} {p pos apos : Pos} {pl : Sem Bool}
theorem pe_mth (he : PE X o ta) (c : Cls X.K C) (h : HasM X.prog X.w X.K X.mg X.base CX0 k C m ps sp) (hr : Room j X.A) (hk : k ≤ j) (ha : PA X (e :: es) t)
    (hst : starEach (e :: es) X.env = (false, eval e X.env) :: starEach es X.env := by rfl) (hpl : (backTo pos (starEach es X.env)).any (·.1) = false := by rfl)
    (ht : eval (.Call (.Attribute o m apos) (e :: es) [] pos) X.env = (do
      let ov ← eval o X.env
      standAt apos.atName
      let (f, first) ← holding [ov] (getMethod ov m pl)
      callWith pos f first (backTo pos (starEach (e :: es) X.env)) (backToKw pos (keywordEach [] X.env))) := by rfl) :
    PE X (.Call (.Attribute o m apos) (e :: es) [] pos) (tMeth C m sp [] E0 ta t) := by
  obtain ⟨f, fd, F, hm, b⟩ := h
  exact pe_meth he c hm F (hr.mono hk) b .nil pass0 ha hst hpl ht
theorem pe_mth0 (he : PE X o ta) (c : Cls X.K C) (h : HasM X.prog X.w X.K X.mg X.base CX0 k C m ps sp) (hr : Room j X.A) (hk : k ≤ j)
    (ht : eval (.Call (.Attribute o m apos) [] [] pos) X.env = (do
      let ov ← eval o X.env
      standAt apos.atName
      let (f, first) ← holding [ov] (getMethod ov m pl)
      callWith pos f first (backTo pos (starEach [] X.env)) (backToKw pos (keywordEach [] X.env))) := by rfl) :
    PE X (.Call (.Attribute o m apos) [] [] pos) (tMeth C m sp [] E0 ta tNil) := by
  obtain ⟨f, fd, F, hm, b⟩ := h
  exact pe_meth0 he c hm F (hr.mono hk) b .nil pass0 ht
/-- C(..) -/
def HasI (P : Program) (w : World) (K : PySem.W.Frag) (mg : Str → Option Value) (base : Heap) (CX : CXT) (k : Nat) (x : Str) (C : Addr) (ps : List Str) (sp : Sp) : Prop :=
  ∃ (f : Addr) (fd : FuncData), FnOk P w K mg base CX k f fd ps sp ∧ Mk K C f ∧ Binds K fd ps [] ∧ mg x = some (.ref C)
theorem pe_new (h : HasI X.prog X.w X.K X.mg X.base CX0 k x C ps sp) (hr : Room j X.A) (hk : k + 1 ≤ j) (hg : Gl X x) (ha : PA X (e :: es) t) (hdb : (x == ("__debug__" : Str)) = false := by decide)
    (he : starEach (e :: es) X.env = (false, eval e X.env) :: starEach es X.env := by rfl) (hpl : (backTo pos (starEach es X.env)).any (·.1) = false := by rfl) :
    PE X (.Call (.Name x p) (e :: es) [] pos) (tMake C sp [] E0 t) := by
  obtain ⟨f, fd, F, M, b, hm⟩ := h
  exact pe_make M F (hr.mono hk) hg hm b .nil pass0 ha hdb he hpl
/-- C.m(..), m a plain def of the class -/
def HasC (P : Program) (w : World) (K : PySem.W.Frag) (mg : Str → Option Value) (base : Heap) (CX : CXT) (k : Nat) (C : Addr) (m : Str) (ps : List Str) (sp : Sp) : Prop :=
  ∃ (f : Addr) (fd : FuncData) (mc : Value), FnOk P w K mg base CX k f fd ps sp ∧ ClX.CRead K C mc ∧ ClX.CVal K C mc m (.ref f) (.ref f) ∧ PySem.W.keepIn K (.ref f) = true ∧ Binds K fd ps []
def tCFun (C : Addr) (sp : Sp) (E : XK) (ta : TE) (t : TA) : TE := fun σ H Q => ta σ H fun x H1 => x = .ref C ∧ t σ H1 fun vs H2 => sp (vs ++ []) H2 Q E
theorem pe_cfun (he : PE X o ta) (h : HasC X.prog X.w X.K X.mg X.base CX0 k C m ps sp) (hr : Room j X.A) (hk : k ≤ j) (ha : PA X (e :: es) t)
    (hst : starEach (e :: es) X.env = (false, eval e X.env) :: starEach es X.env := by rfl) (hpl : (backTo pos (starEach es X.env)).any (·.1) = false := by rfl)
    (ht : eval (.Call (.Attribute o m apos) (e :: es) [] pos) X.env = (do
      let ov ← eval o X.env
      standAt apos.atName
      let (f, first) ← holding [ov] (getMethod ov m pl)
      callWith pos f first (backTo pos (starEach (e :: es) X.env)) (backToKw pos (keywordEach [] X.env))) := by rfl) :
    PE X (.Call (.Attribute o m apos) (e :: es) [] pos) (tCFun C sp E0 ta t) := by
  obtain ⟨f, fd, mc, F, r, c, kp, b⟩ := h
  refine ⟨fun pins s σ H Q I h => ?_⟩
  refine PySem.W.methodCall_KW (pl := pl) (thn (he.run pins s σ H _ I h) fun u s1 ⟨y, H1, I1, rx, ex, q⟩ => ?_) ht
  subst ex
  obtain rfl : u = Value.ref C := rx
  refine PySem.W.method_cls I1.kIn r.ga (ClX.getcval_ok I1 r c fun s2 I2 => ?_)
  refine PySem.W.callWith_K (h₀ := X.base) I.ok.mod.kin kp (thn (ha.run pos pins s2 σ H1 _ I2 q) fun us s3 ⟨vs, H2, I3, r3, q2⟩ => ⟨I3.kIn, ?_⟩) hst hpl
  exact run_fn F (hr.mono hk) b .nil pass0 I3 r3 q2
end
/-- a method's def as the top has left it -/
def MethIn (K : PySem.W.Frag) (C : Addr) (m q : Str) (st : Stmt) : Prop := ∃ (f : Addr) (fd : FuncData), Fun K m q st f fd ∧ Meth K C m f
theorem meth_mk {K : PySem.W.Frag} {C : Addr} {m q : Str} {st : Stmt} {f : Addr} {oc : Value} {od an : Option Addr} {osl : Array (Option Value)} {kV doc pm cdv ct : Value} (a : PySem.W.findIn K (.ref C) m = some (some (.ref f))) (i : PySem.W.isFn K (.ref f) = true)
    (l : K.lookup f = some ⟨oc, od, .func (PySem.W.fnOf m q (defArgs st) (defBody st) (defScope st) .none kV doc pm an cdv ct), osl⟩) (c : PySem.W.codeIn K cdv q = true) (k : PySem.W.keepIn K (.ref f) = true) : MethIn K C m q st := ⟨f, _, fun_mk l c k, a, i, k⟩
/-- .. and read off the class itself -/
def CfunIn (K : PySem.W.Frag) (C : Addr) (m q : Str) (st : Stmt) : Prop := ∃ (f : Addr) (fd : FuncData) (mc : Value), Fun K m q st f fd ∧ ClX.CRead K C mc ∧ ClX.CVal K C mc m (.ref f) (.ref f)
theorem cfun_mk {K : PySem.W.Frag} {C : Addr} {m q : Str} {st : Stmt} {f : Addr} {oc mc : Value} {od an : Option Addr} {osl : Array (Option Value)} {kV doc pm cdv ct : Value} (rd : PySem.W.readsIn K C mc = true) (ga : PySem.W.specialIn K (.ref C) "__getattribute__" = some (some (.builtin "type.__getattribute__"))) (a : PySem.W.findCls K (.ref C) mc m = some (.val (.ref f)))
    (l : K.lookup f = some ⟨oc, od, .func (PySem.W.fnOf m q (defArgs st) (defBody st) (defScope st) .none kV doc pm an cdv ct), osl⟩) (c : PySem.W.codeIn K cdv q = true) (k : PySem.W.keepIn K (.ref f) = true) : CfunIn K C m q st := ⟨f, _, mc, fun_mk l c k, ⟨rd, ga⟩, ⟨a, rfl⟩⟩
def InitIn (K : PySem.W.Frag) (mg : Str → Option Value) (x : Str) (C : Addr) (q : Str) (st : Stmt) : Prop := ∃ (f : Addr) (fd : FuncData), Fun K "__init__" q st f fd ∧ Mk K C f ∧ mg x = some (.ref C)
theorem init_mk {K : PySem.W.Frag} {C : Addr} {q : Str} {st : Stmt} {f : Addr} {oc : Value} {od an : Option Addr} {osl : Array (Option Value)} {kV doc pm cdv ct : Value} (m : PySem.W.makesIn K C = true) (a : PySem.W.findIn K (.ref C) "__init__" = some (some (.ref f))) (i : PySem.W.isFn K (.ref f) = true) (kc : PySem.W.keepIn K (.ref C) = true)
    (l : K.lookup f = some ⟨oc, od, .func (PySem.W.fnOf "__init__" q (defArgs st) (defBody st) (defScope st) .none kV doc pm an cdv ct), osl⟩) (c : PySem.W.codeIn K cdv q = true) (k : PySem.W.keepIn K (.ref f) = true) : ∃ (f : Addr) (fd : FuncData), Fun K "__init__" q st f fd ∧ Mk K C f := ⟨f, _, fun_mk l c k, m, a, i, kc⟩
section
variable {P : Program} {w : World} {K : PySem.W.Frag} {mg : Str → Option Value} {base : Heap} {C : Addr} {m x q : Str} {st : Stmt} {N ps : List Str} {k : Nat} {sp : Sp} {R : List PyData → PyData → Prop}
theorem MethIn.ok (F : MethIn K C m q st) (S : FnScope N ps (defScope st)) (len : ∀ vs H Q E, sp vs H Q E → vs.length = ps.length)
    (hb : ∀ (kV doc pm : Value) (an : Option Addr) (cdv ct : Value) (us : List Value), us.length = ps.length → bindArgs (PySem.W.fnOf m q (defArgs st) (defBody st) (defScope st) .none kV doc pm an cdv ct) ⟨us, []⟩ = Pure.pure (ps.zip us))
    (hbody : ∀ (f : Addr) (cdv : Value) (A : Around) (outer : List Env) (s : Shared) (H : Hp) (vs : List V) (Q : VK) (E : XK), Room k (A.deeper (PyProof.Rows.envOfC q (defScope st) s.heap.objs.size f cdv)) → sp vs H Q E →
      ∃ t, PSs (cxOf CX0 P w K mg base N q (defScope st) f cdv A outer s H E).nox (defBody st) t ∧ t { nx := fun _ H' => Q .non H', rt := Q } (start N vs) H) : HasM P w K mg base CX0 (k + 1) C m ps sp := by
  obtain ⟨f, fd, F, hm⟩ := F
  exact ⟨f, fd, F.ok S len (hbody f), hm, F.binds hb⟩
theorem CfunIn.ok (F : CfunIn K C m q st) (S : FnScope N ps (defScope st)) (len : ∀ vs H Q E, sp vs H Q E → vs.length = ps.length)
    (hb : ∀ (kV doc pm : Value) (an : Option Addr) (cdv ct : Value) (us : List Value), us.length = ps.length → bindArgs (PySem.W.fnOf m q (defArgs st) (defBody st) (defScope st) .none kV doc pm an cdv ct) ⟨us, []⟩ = Pure.pure (ps.zip us))
    (hbody : ∀ (f : Addr) (cdv : Value) (A : Around) (outer : List Env) (s : Shared) (H : Hp) (vs : List V) (Q : VK) (E : XK), Room k (A.deeper (PyProof.Rows.envOfC q (defScope st) s.heap.objs.size f cdv)) → sp vs H Q E →
      ∃ t, PSs (cxOf CX0 P w K mg base N q (defScope st) f cdv A outer s H E).nox (defBody st) t ∧ t { nx := fun _ H' => Q .non H', rt := Q } (start N vs) H) : HasC P w K mg base CX0 (k + 1) C m ps sp := by
  obtain ⟨f, fd, mc, F, r, c⟩ := F
  exact ⟨f, fd, mc, F.ok S len (hbody f), r, c, F.kp, F.binds hb⟩
theorem InitIn.ok (F : InitIn K mg x C q st) (S : FnScope N ps (defScope st)) (len : ∀ vs H Q E, sp vs H Q E → vs.length = ps.length)
    (hb : ∀ (kV doc pm : Value) (an : Option Addr) (cdv ct : Value) (us : List Value), us.length = ps.length → bindArgs (PySem.W.fnOf "__init__" q (defArgs st) (defBody st) (defScope st) .none kV doc pm an cdv ct) ⟨us, []⟩ = Pure.pure (ps.zip us))
    (hbody : ∀ (f : Addr) (cdv : Value) (A : Around) (outer : List Env) (s : Shared) (H : Hp) (vs : List V) (Q : VK) (E : XK), Room k (A.deeper (PyProof.Rows.envOfC q (defScope st) s.heap.objs.size f cdv)) → sp vs H Q E →
      ∃ t, PSs (cxOf CX0 P w K mg base N q (defScope st) f cdv A outer s H E).nox (defBody st) t ∧ t { nx := fun _ H' => Q .non H', rt := Q } (start N vs) H) : HasI P w K mg base CX0 (k + 1) x C ps sp := by
  obtain ⟨f, fd, F, M, hm⟩ := F
  exact ⟨f, fd, F.ok S len (hbody f), M, F.binds hb, hm⟩
theorem MethIn.pure (F : MethIn K C m q st) (S : FnScope N ps (defScope st)) (len : ∀ ds d, R ds d → ds.length = ps.length)
    (hb : ∀ (kV doc pm : Value) (an : Option Addr) (cdv ct : Value) (us : List Value), us.length = ps.length → bindArgs (PySem.W.fnOf m q (defArgs st) (defBody st) (defScope st) .none kV doc pm an cdv ct) ⟨us, []⟩ = Pure.pure (ps.zip us))
    (body : ∀ (f : Addr) (cdv : Value) (A : Around) (outer : List Env) (s : Shared) (H : Hp) (E : XK), Room k (A.deeper (PyProof.Rows.envOfC q (defScope st) s.heap.objs.size f cdv)) →
      ∃ t, PSs (cxOf CX0 P w K mg base N q (defScope st) f cdv A outer s H E).nox (defBody st) t ∧ ∀ G vs ds d, DtAll K G vs ds → R ds d → ES K G t (start N vs) (fun d' => d' = d) (fun _ _ => d = .none)) : HasM P w K mg base CX0 (k + 1) C m ps (PFn K R) := by
  refine F.ok S (fun vs H Q E ⟨G, ds, d, gh, hv, hr, q⟩ => (dts_len hv).trans (len ds d hr)) hb (fun f cdv A outer s H vs Q E hr ⟨G, ds, d, gh, hv, hR, q⟩ => ?_)
  obtain ⟨t, ht, hs⟩ := body f cdv A outer s H E hr
  refine ⟨t, ht, hs G vs ds d hv hR G H (Same.refl G) gh _ (fun v d' G2 H2 e hv' e' => ?_) (fun σ' G2 H2 e e' => ?_)⟩
  · subst e'
    exact q v G2 H2 e hv'
  · exact q .non G2 H2 e (by rw [e']; exact .non)
theorem MethIn.fresh (F : MethIn K C m q st) (S : FnScope N ps (defScope st)) (len : ∀ ds d, R ds d → ds.length = ps.length)
    (hb : ∀ (kV doc pm : Value) (an : Option Addr) (cdv ct : Value) (us : List Value), us.length = ps.length → bindArgs (PySem.W.fnOf m q (defArgs st) (defBody st) (defScope st) .none kV doc pm an cdv ct) ⟨us, []⟩ = Pure.pure (ps.zip us))
    (body : ∀ (f : Addr) (cdv : Value) (A : Around) (outer : List Env) (s : Shared) (H : Hp) (E : XK), Room k (A.deeper (PyProof.Rows.envOfC q (defScope st) s.heap.objs.size f cdv)) →
      ∃ t, PSs (cxOf CX0 P w K mg base N q (defScope st) f cdv A outer s H E).nox (defBody st) t ∧ ∀ G vs ds d, DtAll K G vs ds → R ds d → ∀ H, Same G H → ∀ D : Ends, (∀ v G2 H2, Ext [] G H G2 H2 → Dt K (news H G2) v d → D.rt v H2) → t D (start N vs) H) : HasM P w K mg base CX0 (k + 1) C m ps (FFn K R) := by
  refine F.ok S (fun vs H Q E ⟨G, ds, d, gh, hv, hr, q⟩ => (dts_len hv).trans (len ds d hr)) hb (fun f cdv A outer s H vs Q E hr ⟨G, ds, d, gh, hv, hR, q⟩ => ?_)
  obtain ⟨t, ht, hs⟩ := body f cdv A outer s H E hr
  exact ⟨t, ht, hs G vs ds d hv hR H gh _ q⟩
end
/-! ### __init__: a new instance's fields, all new -/
def IFn (K : PySem.W.Frag) (okC : Addr → Prop) (R : List PyData → List (PyData × PyData) → Prop) : Sp := fun vs H Q _ => ∃ (G : Hp) (x C dx : Addr) (ws : List V) (ds : List PyData) (os : List (PyData × PyData)), vs = .ref x :: ws ∧ okC C ∧ Same G H ∧ G x = none ∧ H x = some (.ins C dx []) ∧ DtAll K G ws ds ∧ R ds os ∧
  ∀ G' H' dx' fs, Ext [x] G H G' H' → H' x = some (.ins C dx' fs) → DtFs K (news H G') fs os → Q .non H'
theorem ef_make {K : PySem.W.Frag} {G : Hp} {σ : L2.St} {tas : TA} {ds : List PyData} {C : Addr} {okC : Addr → Prop} {R : List PyData → List (PyData × PyData) → Prop} {os : List (PyData × PyData)} {E : XK} (h : EA K G tas σ ds) (hc : okC C) (hr : R ds os) : EF K G (tMake C (IFn K okC R) [] E tas) σ (dObj C os) := fun G1 H a gh Q q => h G1 H a gh _ fun vs G2 H2 e hvs => by
  intro x dx hx hdx ne
  rw [List.append_nil]
  have hx3 : upd H2 dx (.own x) x = none := by rw [upd_ne ne.symm]; exact hx
  have e3 : Ext [] G2 H2 G2 (upd H2 dx (.own x)) := Ext.cell e.gh hdx
  have e4 : Ext [] G2 (upd H2 dx (.own x)) G2 (upd (upd H2 dx (.own x)) x (.ins C dx [])) := Ext.cell e3.gh hx3
  have e04 := (e.same e3).same e4
  refine ⟨G2, x, C, dx, vs, ds, os, rfl, hc, e4.gh, e.gh.free hx, upd_same, hvs, hr, fun G' H' dx' fs e5 hx' hf => ⟨rfl, ?_⟩⟩
  have hxH : H x = none := e.dm x hx
  have e05 : Ext [] G1 H G' H' := e04.trans e5 fun z hz => .inr (by rw [List.mem_singleton] at hz; rw [hz]; exact hxH)
  have gx : G' x = none := e5.free (e.gh.free hx) upd_same
  refine q _ _ _ (Ext.know e5.gh hx' gx e05 hxH) (.obj (news_at hxH upd_same) (same_dtf (fun b u z => ?_) hf))
  obtain ⟨z1, z2⟩ := news_of z
  have nb : b ≠ x := fun z => by rw [z, upd_same] at z1; cases z1
  exact news_at (e04.dm b z1) (by rw [upd_ne nb]; exact z2)
/-! ### zip of two texts, by data -/
section
variable {K : PySem.W.Frag} {G : Hp} {σ : L2.St} {tas : TA}
theorem dw_zipS {k l : List Nat} : DW K G (ItzS (mkS k) (mkS l)) (min k.length l.length) (fun i => .tuple [.str (sg (k.getD i 0)), .str (sg (l.getD i 0))]) where
  goes := fun i H hi _ => by show i < (mkS k).cps.size ∧ i < (mkS l).cps.size; rw [mkS_size, mkS_size]; omega
  stops := fun H _ => by show min k.length l.length ≤ (mkS k).cps.size ∧ min k.length l.length ≤ (mkS l).cps.size ∧ (min k.length l.length = (mkS k).cps.size ∨ min k.length l.length = (mkS l).cps.size); rw [mkS_size, mkS_size]; omega
  yields := fun i H x H' G1 hi g1 gh y => by
    obtain ⟨T, c1, c2, rfl, hT, rfl, h1, h2⟩ := y
    refine ⟨_, Ext.new gh hT, ?_⟩
    have e1 : k.getD i 0 = c1 := by rw [← mkS_getD, Array.getD_eq_getD_getElem?, h1]; rfl
    have e2 : l.getD i 0 = c2 := by rw [← mkS_getD, Array.getD_eq_getD_getElem?, h2]; rfl
    rw [e1, e2]
    exact .tup (.inl upd_same) (.cons (.str _) (.cons (.str _) .nil))
theorem ei_zipS {k l : List Nat} (h : EA K G tas σ [.str (mkS k), .str (mkS l)]) : EI K G (iZipS tas) σ (min k.length l.length) (fun i => .tuple [.str (sg (k.getD i 0)), .str (sg (l.getD i 0))]) := fun G1 H a gh R q => h G1 H a gh _ fun vs G2 H2 e hvs => by
  obtain ⟨v, w, rfl, h1, h2⟩ := dts2 hvs
  rw [dt_str h1, dt_str h2]
  exact ⟨_, _, rfl, q _ G2 H2 e dw_zipS⟩
end
end S

namespace S
open PySem L2
/-! ### x = []; for ..: ..; x.append(e): what is gathered, with draws -/
def SA (ε : Eff) (K : PySem.W.Frag) (c : Nat) (G : Hp) (l : Addr) (ts : TS) (σ : L2.St) (P : PyData → Prop) (N : Hp → L2.St → Prop) : Prop := ∀ G1 H n xs, Same G G1 → Same G1 H → ε.I n G1 H → G1 l = none → H l = some (.lst xs) → l ∉ ε.M → n + c ≤ lim → xs.length < 100000 → ∀ D : Ends,
  (∀ σ' v d G2 H2, Ext (l :: ε.M) G1 H G2 H2 → ε.I (n + c) G2 H2 → H2 l = some (.lst (xs ++ [v])) → Dt K G2 v d → P d → N G2 σ' → D.nx σ' H2) → ts D σ H
section
variable {ε : Eff} {K : PySem.W.Frag} {c c1 c2 : Nat} {G G' H : Hp} {σ : L2.St} {l : Addr} {te : TE} {ts tz rest body : TS} {P P1 : PyData → Prop} {N M : Hp → L2.St → Prop} {R : PyData → Prop} {i j m : Nat}
theorem SA.up (h : SA ε K c G l ts σ P N) (k : c ≤ c2) : SA ε K c2 G l ts σ P N := fun G1 H n xs a gh hI g0 h0 hM hl hz D q => h G1 H n xs a gh hI g0 h0 hM (by omega) hz D fun σ' v d G2 H2 e hI2 => q σ' v d G2 H2 e (ε.up (by omega) hI2)
theorem sa_app (hj : σ[j]? = some (some (.ref l))) (h : EV ε K c G te σ P) (hN : ∀ G1, Same G G1 → N G1 σ) : SA ε K c G l (tDrop (tBM K "list" rAppend (tVar j) (tCons te tNil))) σ P N := fun G1 H n xs a gh hI g0 h0 hM hl hz D q => by
  refine ⟨_, hj, .inl ⟨rfl, xs, SqL.of h0⟩, h G1 H n a gh hI hl _ fun v d G2 H2 e hI2 hv hp => ?_⟩
  have h2 : H2 l = some (.lst xs) := e.keep h0 hM
  have g2 : G2 l = none := e.free g0 h0
  have ep := Ext.put (o := .lst (xs ++ [v])) e.gh g2 h2
  refine ⟨l, xs, v, rfl, rfl, h2, sz_list (by omega), q σ v d G2 _ ((e.mono fun x hx => .inl (List.mem_cons_of_mem _ hx)).trans ep fun z hz => .inl (by rw [List.mem_singleton] at hz; rw [hz]; exact List.mem_cons_self)) (ε.keep hI2 ep fun b hb z => hM (by rw [List.mem_singleton] at z; rw [← z]; exact hb)) upd_same hv hp (hN G2 (a.trans e.gg))⟩
theorem sa_set (h : EV ε K c1 G te σ P1) (k : ∀ G1 x d, Same G G1 → Dt K G1 x d → P1 d → SA ε K c2 G1 l tz (σ.set i (some x)) P N) : SA ε K (c1 + c2) G l (tSeq (tAsg te (gName i)) tz) σ P N := fun G1 H n xs a gh hI g0 h0 hM hl hz D q =>
  h G1 H n a gh hI (by omega) _ fun v d G2 H2 e hI2 hv hp => k G2 v d (a.trans e.gg) hv hp G2 H2 (n + c1) xs (Same.refl G2) e.gh hI2 (e.free g0 h0) (e.keep h0 hM) hM (by omega) hz D fun σ' v d G3 H3 e3 hI3 => q σ' v d G3 H3 ((e.mono fun x hx => .inl (List.mem_cons_of_mem _ hx)).trans e3 fun _ h => .inl h) (by rw [← Nat.add_assoc]; exact hI3)
theorem sa_es (h : ES K G ts σ (fun _ => False) M) (k : ∀ G1 σ1, Same G G1 → M G1 σ1 → SA ε K c G1 l tz σ1 P N) : SA ε K c G l (tSeq ts tz) σ P N := fun G1 H n xs a gh hI g0 h0 hM hl hz D q =>
  h G1 H a gh { D with nx := tz D } (fun _ _ _ _ _ _ z => z.elim) fun σ1 G2 H2 e hm => k G2 σ1 (a.trans e.gg) hm G2 H2 n xs (Same.refl G2) e.gh (ε.stay hI e) (e.free g0 h0) (e.keep h0 (by simp)) hM hl hz D fun σ' v d G3 H3 e3 => q σ' v d G3 H3 (e.toM.trans e3 fun _ h => .inl h)
theorem ss_gather {wi : TI} {g : TG} {f : Nat → PyData} {Q : Nat → PyData → Prop} {B : Addr → Nat → L2.St → Hp → L2.St → Prop} (hi : ∀ G1 l, Same G G1 → EI K G1 wi (σ.set j (some (.ref l))) m f) (hm : m < 100000) (J : Addr → Nat → Hp → L2.St → Prop) (h0 : ∀ l G1, Same G G1 → J l 0 G1 (σ.set j (some (.ref l))))
    (mono : ∀ l i G1 G2 σ1, Same G1 G2 → J l i G1 σ1 → J l i G2 σ1) (hb : ∀ l i G1 σ1, i < m → Same G G1 → J l i G1 σ1 → EG K g σ1 (f i) (B l i σ1)) (hs : ∀ l i G1 σ1 σ2, i < m → Same G G1 → J l i G1 σ1 → B l i σ1 G1 σ2 → SA ε K c G1 l body σ2 (Q i) (J l (i + 1)))
    (hk : ∀ l G1 σ1 ds, Same G G1 → J l m G1 σ1 → Dt K G1 (.ref l) (.list ds) → ds.length = m → (∀ i x, ds[i]? = some x → Q i x) → SS ε K c2 G1 rest σ1 R N) :
    SS ε K (m * c + c2) G (tSeq (tAsg (tLst tNil) (gName j)) (tSeq (tFor wi g body) rest)) σ R N := fun G1 H n a gh hI hlim D hrt hnx => by
  refine ⟨by show 0 ≤ sizeLine; exact Nat.zero_le _, fun l hl0 => ?_⟩
  have e1 : Ext [] G1 H G1 (upd H l (.lst [])) := Ext.cell gh hl0
  refine hi G1 l a G1 _ (Same.refl G1) e1.gh _ fun It G2 H2 e2 W => ?_
  have e12 := e1.same e2
  have hI2 := ε.stay hI e12
  have hM : l ∉ ε.M := fun z => by
    obtain ⟨o, ho⟩ := ε.trk hI l z
    rw [hl0] at ho
    cases ho
  have g2 : G2 l = none := e2.free (gh.free hl0) upd_same
  have h2 : H2 l = some (.lst []) := e2.keep upd_same (by simp)
  refine ⟨fun i k σ' H' => k = m - i ∧ i ≤ m ∧ ∃ G' acc ds, Ext (l :: ε.M) G2 H2 G' H' ∧ G' l = none ∧ H' l = some (.lst acc) ∧ DtAll K G' acc ds ∧ ds.length = i ∧ (∀ j x, ds[j]? = some x → Q j x) ∧ ε.I (n + i * c) G' H' ∧ J l i G' σ',
    ⟨m, by simp, Nat.zero_le _, G2, [], [], Ext.refl e2.gh, g2, h2, .nil, rfl, fun _ _ z => by simp at z, by rw [Nat.zero_mul]; exact hI2, mono l 0 _ _ _ e2.gg (h0 l G1 a)⟩, ?_⟩
  rintro i k σ' H' ⟨rfl, hin, G', acc, ds, e, gD, hacc, hds, hlen, hP, hI', hJ⟩
  have gsame : Same G2 H' := e.gg.trans e.gh
  by_cases hlt : i < m
  · have hle : (i + 1) * c ≤ m * c := Nat.mul_le_mul_right c hlt
    have hsc : (i + 1) * c = i * c + c := Nat.succ_mul i c
    refine .inr ⟨W.goes i H' hlt gsame, fun σ'' H'' => ∃ G' acc ds, Ext (l :: ε.M) G2 H2 G' H'' ∧ G' l = none ∧ H'' l = some (.lst acc) ∧ DtAll K G' acc ds ∧ ds.length = i + 1 ∧ (∀ j x, ds[j]? = some x → Q j x) ∧ ε.I (n + (i + 1) * c) G' H'' ∧ J l (i + 1) G' σ'', fun σ'' H'' h => ⟨m - (i + 1), by omega, rfl, hlt, h⟩, fun x H3 y => ?_⟩
    obtain ⟨G3, e3, hx⟩ := W.yields i H' x H3 G' hlt e.gg e.gh y
    have eG : Same G G3 := ((a.trans e2.gg).trans e.gg).trans e3.gg
    have hJ3 := mono l i _ _ _ e3.gg hJ
    refine hb l i G3 σ' hlt eG hJ3 G3 H3 x e3.gh hx _ fun σ2 hσ => ?_
    have l2 := dts_len hds
    refine hs l i G3 σ' σ2 hlt eG hJ3 hσ G3 H3 (n + i * c) acc (Same.refl G3) e3.gh (ε.stay hI' e3) (e3.free gD hacc) (e3.keep hacc (by simp)) hM (by omega) (by omega) _ fun σ4 v d G5 H5 e5 hI5 h5 hv hp hJ5 => ?_
    refine ⟨G5, acc ++ [v], ds ++ [d], (e.same e3).trans e5 fun _ h => .inl h, e5.free (e3.free gD hacc) (e3.keep hacc (by simp)), h5, dts_app (same_dts (e3.gg.trans e5.gg) hds) (.cons hv .nil), by rw [List.length_append, hlen]; rfl, fun j y hy => ?_, ?_, hJ5⟩
    · by_cases hj : j < ds.length
      · rw [List.getElem?_append_left hj] at hy
        exact hP j y hy
      · rw [List.getElem?_append_right (by omega)] at hy
        have : j - ds.length = 0 := by
          cases q : j - ds.length with
          | zero => rfl
          | succ q' => rw [q] at hy; simp at hy
        rw [this] at hy
        have e1 : d = y := by simpa using hy
        have e2 : j = i := by omega
        subst e1 e2
        exact hp
    · rw [hsc, ← Nat.add_assoc]
      exact hI5
  · have ei : i = m := by omega
    subst ei
    refine .inl ⟨W.stops H' gsame, ?_⟩
    have e01 : Ext ε.M G1 H G' H' := (e12.toM (M := ε.M)).trans e fun z hz => by
      rcases List.mem_cons.mp hz with q | q
      · exact .inr (by rw [q]; exact hl0)
      · exact .inl q
    have ek := Ext.know e.gh hacc gD e01 hl0
    have hI3 : ε.I (n + i * c) (upd G' l (.lst acc)) H' := ε.know hI' (same_new gD) fun b hb => by
      have z : b ≠ l := fun z => hM (z ▸ hb)
      rw [upd_ne z]
      exact ε.unk hI' b hb
    have sk := same_new (o := .lst acc) gD
    exact hk l _ σ' ds (a.trans ek.gg) (mono l i _ _ _ sk hJ) (.lst upd_same (same_dts sk hds)) hlen hP _ H' (n + i * c) (Same.refl _) ek.gh hI3 (by omega) D (fun v d G4 H4 e4 hI4 => hrt v d G4 H4 (ek.trans e4 fun _ h => .inl h) (by rw [← Nat.add_assoc]; exact hI4)) (fun σ'' G4 H4 e4 hI4 => hnx σ'' G4 H4 (ek.trans e4 fun _ h => .inl h) (by rw [← Nat.add_assoc]; exact hI4))
end
end S

namespace S
open PySem L2
/-! ### a walk over a text or a list -/
def iSL (K : PySem.W.Frag) (te : TE) : TI := fun σ H R => te σ H fun v H1 => (∃ x, v = .str x ∧ R (Its x) H1) ∨ (∃ a, v = .ref a ∧ (∃ xs, SqL K H1 a xs) ∧ R (Itl K a) H1)
theorem pi_slK {X : Cx} {tg e : Expr} {te : TE} (K : PySem.W.Frag) (he : PE X e te) (hK : X.K = K := by rfl) : PI X tg e (iSL K te) := by
  subst hK
  refine ⟨fun pins s σ H R I h => ?_⟩
  refine thn (he.run pins s σ H _ I h) fun v s1 ⟨y, H1, I1, r1, q1⟩ => ?_
  rcases q1 with ⟨x, ex, q⟩ | ⟨a, ex, ⟨xs, hq⟩, q⟩
  · subst ex
    obtain ⟨t, rfl⟩ := r1
    cases ha : x.cps.all (· < 128)
    · exact wpAny_pyIter_wide ha (pi_one (tk := s1.toks) I1 _ (turn_str _ x t "str_iterator" (.inr rfl)) ⟨_, Heap.get?_push_size _ rfl, rfl, rfl⟩ q)
    · exact wpAny_pyIter_ascii ha (pi_one (tk := s1.toks) I1 _ (turn_str _ x t "str_ascii_iterator" (.inl rfl)) ⟨_, Heap.get?_push_size _ rfl, rfl, rfl⟩ q)
  · subst ex
    cases r1
    obtain ⟨its, rv, p, hz⟩ := I1.list hq
    refine wpAny_pyIter_list p.isList ?_
    refine ⟨s1.heap.objs.size, [s1.heap.objs.size], _, _, H1, rfl, I1.kept (t' := s1.toks) fun b o e => Heap.get?_push_of_some _ e, turn_list a _, ⟨_, Heap.get?_push_size _ rfl, rfl, rfl⟩, fun b hb => ?_, q⟩
    have e : b = s1.heap.objs.size := by simpa using hb
    subst e
    exact I1.fpOk (Nat.le_refl _) (I1.hok.fresh (Nat.le_refl _))
section
variable {K : PySem.W.Frag} {G : Hp} {σ : L2.St} {te ta : TE} {tas : TA} {ds : List PyData} {d : PyData}
theorem ei_slS {z : Str} (h : ED K G te σ (.str z)) : EI K G (iSL K te) σ z.cps.size (fun i => .str ⟨#[z.cps.getD i 0]⟩) := fun G1 H a gh R q => h G1 H a gh _ fun v G2 H2 e hv => .inl ⟨z, dt_str hv, q _ G2 H2 e dw_str⟩
theorem ei_slL (h : ED K G te σ (.list ds)) : EI K G (iSL K te) σ ds.length (fun i => ds.getD i .none) := fun G1 H a gh R q => h G1 H a gh _ fun v G2 H2 e hv => by
  obtain ⟨p, xs, rfl, hl, hs⟩ := dt_list hv (Same.refl G2)
  exact .inr ⟨p, rfl, ⟨xs, e.gh.seq hl⟩, q _ G2 H2 e (dw_list hl hs)⟩
/-! ### more operations by data -/
theorem r2_eqB {x y : Bool} : R2D K rEq (.bool x) (.bool y) (.bool (decide (x = y))) := fun v w G H gh hx hy Q q => by
  rw [dt_bool hx, dt_bool hy]
  refine ⟨rfl, ?_⟩
  rw [show decide (V.bl x = V.bl y) = decide (x = y) by simp]
  exact q _ G H (Ext.refl gh) (.bl _)
theorem r2_neB {x y : Bool} : R2D K rNe (.bool x) (.bool y) (.bool (!decide (x = y))) := fun v w G H gh hx hy Q q => by
  rw [dt_bool hx, dt_bool hy]
  refine ⟨rfl, ?_⟩
  rw [show decide (V.bl x = V.bl y) = decide (x = y) by simp]
  exact q _ G H (Ext.refl gh) (.bl _)
def isNoneD : PyData → Bool
  | .none => true
  | _ => false
theorem dt_isNone {v : V} (h : Dt K G v d) : decide (v = .non) = isNoneD d := by
  cases h <;> rfl
theorem r2_isN : R2D K (fun x y H Q => y = .non ∧ Q (.bl (decide (x = .non))) H) d .none (.bool (isNoneD d)) := fun v w G H gh hx hy Q q => ⟨dt_none hy, by
  rw [dt_isNone hx]
  exact q _ G H (Ext.refl gh) (.bl _)⟩
theorem r2_notN : R2D K (fun x y H Q => y = .non ∧ Q (.bl (!decide (x = .non))) H) d .none (.bool (!isNoneD d)) := fun v w G H gh hx hy Q q => ⟨dt_none hy, by
  rw [dt_isNone hx]
  exact q _ G H (Ext.refl gh) (.bl _)⟩
theorem cb_intB {b : Bool} : CBD K (fun xs H Q => (∃ i, xs = [.int i] ∧ Q (.int i) H) ∨ ∃ k, xs = [.bl k] ∧ Q (.int (if k then 1 else 0)) H) [.bool b] (.int (if b then 1 else 0)) := fun vs G H gh h Q q => by
  obtain ⟨v, rfl, hv⟩ := dts1 h
  rw [dt_bool hv]
  exact .inr ⟨b, rfl, q _ G H (Ext.refl gh) (.int _)⟩
theorem cb_min2 {i j : Int} : CBD K (fun xs H Q => ∃ i j, xs = [.int i, .int j] ∧ Q (.int (if j < i then j else i)) H) [.int i, .int j] (.int (if j < i then j else i)) := fun vs G H gh h Q q => by
  obtain ⟨v, w, rfl, h1, h2⟩ := dts2 h
  rw [dt_int h1, dt_int h2]
  exact ⟨i, j, rfl, q _ G H (Ext.refl gh) (.int _)⟩
/-- the last item -/
theorem atI_last {α : Type} {xs : List α} {x : α} (h : xs[xs.length - 1]? = some x) (h0 : 0 < xs.length) : atI xs (-1) = some x := by
  unfold atI ixN
  rw [if_neg (by decide), if_pos (by omega), show ((-1 : Int) + (xs.length : Int)).toNat = xs.length - 1 by omega]
  exact h
theorem atI_getD {α : Type} {xs : List α} {i : Nat} {z : α} (h : i < xs.length) : atI xs (i : Int) = some (xs.getD i z) := by
  apply atI_nat
  rw [List.getD_eq_getElem?_getD, List.getElem?_eq_getElem h]
  rfl
/-! ### pure steps ahead of what isn't pure -/
variable {H : Hp} {D : Ends} {t : TT} {ts tz : TS} {b : Bool} {i : Nat} {v : V}
theorem raw_no (h : ET K G t σ b) (gh : Same G H) (hb : b = false) (k : ∀ G2 H2, Ext [] G H G2 H2 → tz D σ H2) : tSeq (tIfS t ts tNext) tz D σ H := h G H (Same.refl G) gh _ fun G2 H2 e => by
  subst hb
  exact iteF (k G2 H2 e)
theorem raw_yes (h : ET K G t σ b) (gh : Same G H) (hb : b = true) (k : ∀ G2 H2, Ext [] G H G2 H2 → ts { D with nx := tz D } σ H2) : tSeq (tIfS t ts tNext) tz D σ H := h G H (Same.refl G) gh _ fun G2 H2 e => by
  subst hb
  exact iteT (k G2 H2 e)
theorem raw_orNo {u : TT} (h : ET K G t σ b) (gh : Same G H) (hb : b = false) (k : ∀ G2 H2, Ext [] G H G2 H2 → tIfS u ts tNext D σ H2) : tIfS (tOr t u) ts tNext D σ H := h G H (Same.refl G) gh _ fun G2 H2 e => by
  subst hb
  exact iteF (k G2 H2 e)
theorem raw_noV {ε : Eff} {c n : Nat} (h : TV ε K c G t σ (fun b => b = false)) (gh : Same G H) (hI : ε.I n G H) (hl : n + c ≤ lim) (k : ∀ G2 H2, Ext ε.M G H G2 H2 → ε.I (n + c) G2 H2 → D.nx σ H2) : tIfS t ts tNext D σ H := h G H n (Same.refl G) gh hI hl _ fun b G2 H2 e hI2 hb => by
  subst hb
  exact iteF (k G2 H2 e hI2)
theorem raw_setC (h : tz D (σ.set i (some v)) H) : tSeq (tAsg (tC v) (gName i)) tz D σ H := h
theorem raw_seq (h : ts { D with nx := tz D } σ H) : tSeq ts tz D σ H := h
theorem raw_drop (h : te σ H fun _ H1 => D.nx σ H1) : tDrop te D σ H := h
theorem raw_no1 (h : ET K G t σ b) (gh : Same G H) (hb : b = false) (k : ∀ G2 H2, Ext [] G H G2 H2 → D.nx σ H2) : tIfS t ts tNext D σ H := h G H (Same.refl G) gh _ fun G2 H2 e => by
  subst hb
  exact iteF (k G2 H2 e)
theorem raw_set (h : ED K G te σ d) (gh : Same G H) (k : ∀ v G2 H2, Ext [] G H G2 H2 → Dt K G2 v d → tz D (σ.set i (some v)) H2) : tSeq (tAsg te (gName i)) tz D σ H := h G H (Same.refl G) gh _ fun v G2 H2 e hv => k v G2 H2 e hv
theorem raw_setF (h : EF K G te σ d) (gh : Same G H) (k : ∀ v G2 H2, Ext [] G H G2 H2 → Dt K (news H G2) v d → tz D (σ.set i (some v)) H2) : tSeq (tAsg te (gName i)) tz D σ H := h G H (Same.refl G) gh _ fun v G2 H2 e hv => k v G2 H2 e hv
theorem raw_setV {ε : Eff} {c n : Nat} {P : PyData → Prop} (h : EV ε K c G te σ P) (gh : Same G H) (hI : ε.I n G H) (hl : n + c ≤ lim) (k : ∀ v d G2 H2, Ext ε.M G H G2 H2 → ε.I (n + c) G2 H2 → Dt K G2 v d → P d → tz D (σ.set i (some v)) H2) : tSeq (tAsg te (gName i)) tz D σ H := h G H n (Same.refl G) gh hI hl _ fun v d G2 H2 e hI2 hv hp => k v d G2 H2 e hI2 hv hp
theorem raw_es {R : PyData → Prop} {N : Hp → L2.St → Prop} (h : ES K G ts σ R N) (gh : Same G H) (hr : ∀ v d G2 H2, Ext [] G H G2 H2 → Dt K G2 v d → R d → D.rt v H2) (hn : ∀ σ' G2 H2, Ext [] G H G2 H2 → N G2 σ' → D.nx σ' H2) : ts D σ H := h G H (Same.refl G) gh D hr hn
end
end S

namespace S
open PySem PySem.Spec PyProof.Rows L2
/-! ### an exception that was caught is kept: from then on it is tracked -/
section
variable {X : Cx} {pins : List (Addr × Obj)} {σ σ' : L2.St} {H H' : Hp} {s sI : Shared} {a C : Addr} {oe : Obj} {vs : Array Value}
theorem Inv.track (I : Inv X ((a, oe) :: pins) σ H s) (J : Inv X pins σ' H' sI) (hn : sI.heap.get? a = none) (hc : oe.cls = .ref C) (hdc : oe.dict = none) (hd : oe.data = .fields vs) : Inv X pins σ (upd H a (.ext (excφ a C))) s := by
  obtain ⟨ha, na, nL, nF, _⟩ := I.pin (a, oe) (List.mem_append_right _ List.mem_cons_self)
  have up : ∀ b o, H b = some o → upd H a (.ext (excφ a C)) b = some o := fun b o e => by rw [upd_ne (ne_of_none e na)]; exact e
  refine ⟨I.ok, I.os, I.bare, ⟨I.base.keep, I.base.slot, fun b o e n hx => ?_, I.base.there, fun b xs e => up _ _ (I.base.tups b xs e), fun b o u e => up _ _ (I.base.frzs b o u e), fun b ps e => ?_⟩, I.loc, I.cell, ?_, fun x c e => ?_, fun p hp => ?_, fun b o e => ?_, I.len⟩
  · have nb : b ≠ a := fun z => by
      subst z
      obtain ⟨o', q⟩ := J.base.there _ o e hx
      rw [hn] at q
      cases q
    rw [upd_ne nb]
    exact I.base.free b o e n hx
  · obtain ⟨more, q⟩ := I.base.tbls b ps e
    exact ⟨more, up _ _ q⟩
  · rw [upd_ne nL.symm]
    exact I.free
  · have nc : c ≠ a := fun z => by
      obtain ⟨v, o, ho, hdv⟩ := I.cell x c e
      have ha' : s.heap.get? a = some oe := ha
      rw [z, ha'] at ho
      cases ho
      rw [hd] at hdv
      cases hdv
    rw [upd_ne nc]
    exact I.freeC x c e
  · have hp' : p ∈ X.pn ++ ((a, oe) :: pins) := by
      rcases List.mem_append.mp hp with q | q
      · exact List.mem_append_left _ q
      · exact List.mem_append_right _ (List.mem_cons_of_mem _ q)
    obtain ⟨p1, p2, p3⟩ := I.pin p hp'
    obtain ⟨q1, _⟩ := J.pin p hp
    have np : p.1 ≠ a := fun z => by rw [z, hn] at q1; cases q1
    exact ⟨p1, by rw [upd_ne np]; exact p2, p3⟩
  · by_cases q : b = a
    · subst q
      rw [upd_same] at e
      cases e
      exact ⟨⟨oe, vs, ha, hc, hdc, hd⟩, ⟨oe, ha⟩, fun h1 h2 ⟨o1, v1, k1, k2⟩ k => ⟨o1, v1, k o1 k1, k2⟩⟩
    · rw [upd_ne q] at e
      exact (I.hok b o e).stay (fun _ _ _ z => z) (fun c z => up _ _ z) fun c xs z => up _ _ z
end
/-- 'except x as n: ..' whose exception is kept: behind the suite it is tracked -/
def wKeep (K : PySem.W.Frag) (c : Value) (i : Nat) (ts : Addr → Value → Option Addr → TS) (Wout : WX) (D : Ends) : WX := fun cls d σ H =>
  ∃ b, PySem.W.exmOne K cls c = some b ∧ (b = true → ∃ C : Addr, cls = .ref C ∧ d = none ∧ ∀ a, H a = none → ts a cls d { nx := fun σ' H' => D.nx (σ'.set i none) (upd H' a (.ext (excφ a C))), rt := fun v H' => D.rt v (upd H' a (.ext (excφ a C))), bk := fun σ' H' => D.bk (σ'.set i none) (upd H' a (.ext (excφ a C))), ct := fun σ' H' => D.ct (σ'.set i none) (upd H' a (.ext (excφ a C))) } (σ.set i (some (.ref a))) H) ∧
    (b = false → Wout cls d σ H)
section
variable {X : Cx} {x n : Str} {c : Value} {i : Nat} {body suite : List Stmt} {b₀ : Stmt} {np pos pos' : Pos} {tb : WX → TS} {ts : Addr → Value → Option Addr → TS} {Wout : WX}
theorem ps_try_keep (K : PySem.W.Frag) (hs : X.stack = X.env :: X.outer) (hf : X.env.frame = some X.env.locals) (hN : X.N.Nodup) (hi : X.N[i]? = some n) (hln : X.env.kindOf n = some .local) (hc : Names X x c) (tk : Takes X Wout)
    (hb : ∀ (W : WX) (pn : List (Addr × Obj)) (xe : Value → Shared → Prop), Takes (X.tr pn xe) W → PassesOwn (model X.prog X.w) X.A X.env xe → PSs (X.tr pn xe) body (tb W))
    (hsu : ∀ (a : Addr) (oe : Obj) (cls : Value) (d : Option Addr) (pn : List (Addr × Obj)), Zc cls d oe → (∃ vs, oe.data = .fields vs) → PSs (X.suite a ((a, oe) :: pn)) (b₀ :: suite) (ts a cls d)) (hK : X.K = K := by rfl) :
    PS X (.Try body [.ExceptHandler (some (.Name x np)) (some n) (b₀ :: suite) pos'] [] [] pos) (fun D σ H => tb (wKeep K c i ts Wout D) D σ H) := by
  subst hK
  refine ⟨fun pins s σ H D I h => ?_⟩
  have ok := I.ok
  have hfr : X.A.frames = some (X.env :: X.outer) := by rw [ok.frames, hs]
  have hloc : Loc X.env.scope n := .inl hln
  refine wpAny_Try_except ?_
  refine wpAny_mono ((hb (wKeep X.K c i ts Wout D) (X.pn ++ pins) (fun e s₁ => wpAny (model X.prog X.w) X.A (noteFrame e X.env) (fun _ s₂ => wpAny (model X.prog X.w) X.A (setFlight e none) (fun _ s₃ =>
    wpAny (model X.prog X.w) X.A (handleBy e X.env [.ExceptHandler (some (.Name x np)) (some n) (b₀ :: suite) pos']) (SP X pins D) X.xe s₃) X.xe s₂) X.xe s₁) (fun u s' xx => ?_) PassesOwn.looking).run [] s σ H D (I.toTry _) h) (fun f s1 hsp => ?_) (fun e s1 he => he)
  · -- the catch
    obtain ⟨a, B, sI, pins', σ', H', cls, d, rfl, J', nb, up, sky, na, os, ag, b, hb1, hyes, hno⟩ := xx
    have J : Inv X pins σ' H' sI := J'.ofTry ok
    have sky' : Sky B (X.env :: X.outer) a (Zc cls d) X.env.locals s'.heap := by rw [← hs]; exact sky
    show wpAny (model X.prog X.w) X.A (noteFrame (.ref a) X.env) _ _ _
    refine Sky.land Zc.steady hfr hf sky' fun h3 fl3 up3 => ?_
    have J3 : Inv X pins σ' H' { s' with heap := h3 } := J.landed nb fl3.1 (up.trans up3) os ag
    obtain ⟨oe3, vs3, he3, hz3, hd3⟩ := fl3.there
    have notFr : ∀ {h : Heap} {o : Obj} {vs : Array Value}, h.FunFrames B (X.env :: X.outer) → h.get? a = some o → o.data = .fields vs → a ∉ frs (X.env :: X.outer) := fun {h o vs} ff e dd hm => by
      obtain ⟨_, o', e', hnf⟩ := ff.mem hm
      rw [e] at e'; cases e'
      exact hnf _ dd
    have nfr := notFr fl3.2.2.1 he3 hd3
    have nL : a ≠ X.env.locals := fun z => nfr (List.mem_filterMap.mpr ⟨X.env, List.mem_cons_self, by rw [hf, z]⟩)
    have nF : a ∉ X.fs := fun hm => by
      obtain ⟨e, he, q⟩ := List.mem_filterMap.mp hm
      exact nfr (List.mem_filterMap.mpr ⟨e, List.mem_cons_of_mem _ he, q⟩)
    have newI : sI.heap.get? a = none := by
      cases q : sI.heap.get? a with
      | none => rfl
      | some o =>
        have z := nb a o q (by rw [hs]; exact nfr)
        rw [fl3.2.1] at z
        cases z
    have S3 := J3.suite he3 hd3 na nL nF
    refine wpAny_handleBy_cons (codeAny_handlers_test ?_) (by intro q; cases q)
    have LT : PySem.W.Looks (model X.prog X.w) h3 (typeOf (.ref a)) cls := fun A Q E s k q => wpAny_typeOf_ref (k _ _ he3) (by rw [hz3.1]; exact q)
    have LM := PySem.W.exm_one (M := model X.prog X.w) (J3.kIn) LT hb1
    have test : ∀ {Q : Value → Shared → Prop} {E : Value → Shared → Prop}, Q c { s' with heap := h3 } → wpAny (model X.prog X.w) (X.A.mark (some (.ref a))) (eval (.Name x np) X.env) Q E { s' with heap := h3 } := fun {Q E} q => by
      obtain ⟨hg, hdbg, hm | ⟨hm, hv, hnn⟩⟩ := hc
      · exact ld_glob (X := X.suite a ((a, oe3) :: (X.pn ++ pins))) S3 hg hm q hdbg
      · exact ld_blt (X := X.suite a ((a, oe3) :: (X.pn ++ pins))) S3 hg hm hv q hnn hdbg
    refine test (LM.here ?_)
    cases b with
    | true =>
      obtain ⟨C, hcls, hdn, hyes⟩ := hyes rfl
      refine codeAny_handlers_suite_as ?_
      refine HandSPX.lands_againZ fl3 fun h4 fl4 up4 => ?_
      have J4 : Inv X pins σ' H' { s' with heap := h4 } := J.landed nb fl4.1 ((up.trans up3).trans up4) os ag
      obtain ⟨oe4, vs4, he4, hz4, hd4⟩ := fl4.there
      have S4 := J4.suite he4 hd4 na nL nF
      refine store_ok (X := X.suite a ((a, oe4) :: (X.pn ++ pins))) (v := .ref a) S4 hN hi hloc rfl (fun s5 S5 => ?_) (.inr hln)
      refine wpAny_mono ((hsu a oe4 cls d (X.pn ++ pins) hz4 ⟨_, hd4⟩).run [] s5 _ H' _ S5 (hyes a na)) (fun f s6 hsp => ?_) (fun _ _ z => False.elim z)
      have end_ : ∀ {σ6 : L2.St} {H6 : Hp} {Q : Shared → Prop}, Inv (X.suite a ((a, oe4) :: (X.pn ++ pins))) [] σ6 H6 s6 → (∀ s7, Inv X pins (σ6.set i none) (upd H6 a (.ext (excφ a C))) s7 → Q s7) →
          wpAny (model X.prog X.w) X.A (do bindName X.env n .none; unbindBehindTheSuite X.env n pos') (fun _ s7 => Q s7) X.xe s6 := fun {σ6 H6 Q} S6 hq => by
        have U : Inv X ((a, oe4) :: pins) σ6 H6 s6 := ⟨ok, S6.os, S6.bare, S6.base, S6.loc, S6.cell, S6.free, S6.freeC, fun p hp => S6.pin p (List.mem_append_left _ (by
          rcases List.mem_append.mp hp with q | q
          · exact List.mem_cons_of_mem _ (List.mem_append_left _ q)
          · rcases List.mem_cons.mp q with q | q
            · rw [q]; exact List.mem_cons_self
            · exact List.mem_cons_of_mem _ (List.mem_append_right _ q))), S6.hok, S6.len⟩
        exact gone_ok U hN hi hln fun s7 J7 => hq s7 (Inv.track J7 J newI (hz4.1.trans hcls) (hz4.2.trans hdn) hd4)
      cases f with
      | next =>
        obtain ⟨σ6, H6, S6, q6⟩ := hsp
        exact end_ S6 fun s7 J7 => ⟨_, _, J7, q6⟩
      | brk =>
        obtain ⟨σ6, H6, S6, q6⟩ := hsp
        exact end_ S6 fun s7 J7 => ⟨_, _, J7, q6⟩
      | cont =>
        obtain ⟨σ6, H6, S6, q6⟩ := hsp
        exact end_ S6 fun s7 J7 => ⟨_, _, J7, q6⟩
      | ret u =>
        obtain ⟨v6, σ6, H6, S6, r6, q6⟩ := hsp
        exact end_ S6 fun s7 J7 => ⟨_, _, _, J7, r6, q6⟩
    | false =>
      show wpAny _ X.A (handleBy (.ref a) X.env []) _ _ _
      refine wpAny_handleBy_nil ?_
      obtain ⟨k1, k2, k3, oe, vs, T, oT, ts', he, hz, hd, h1, hr⟩ := id fl3
      unfold PySem.passOn
      refine wpAny_bind (wpAny_field he hd h1 ?_)
      rw [if_neg (show ¬ ((Value.ref T == Value.none) = true) from by simp)]
      have fin : wpAny (model X.prog X.w) X.A (setFlight (.ref a) X.env.frame) (fun _ s4 => wpAny (model X.prog X.w) X.A (throw (.ref a) : Sem Flow) (SP X pins D) X.xe s4) X.xe { s' with heap := h3 } := by
        rw [hf]
        refine HandSPX.setFlight_upZ fl3 fun h4 hh4 up4 => wpAny_throw (tk _ _ ?_)
        exact ⟨a, B, sI, pins, σ', H', cls, d, rfl, J, nb, (up.trans up3).trans up4, .inr (.inr (by rw [hs]; exact hh4)), na, os, ag, hno rfl⟩
      first
        | exact wpAny_bind (wpAny_pure (wpAny_bind fin))
        | exact wpAny_bind fin
  · cases f with
    | next =>
      obtain ⟨σ', H', J', q⟩ := hsp
      exact wpAny_execs_nil ⟨σ', H', J'.ofTry ok, q⟩
    | brk =>
      obtain ⟨σ', H', J', q⟩ := hsp
      exact ⟨σ', H', J'.ofTry ok, q⟩
    | cont =>
      obtain ⟨σ', H', J', q⟩ := hsp
      exact ⟨σ', H', J'.ofTry ok, q⟩
    | ret u =>
      obtain ⟨v, σ', H', J', r, q⟩ := hsp
      exact ⟨v, σ', H', J'.ofTry ok, r, q⟩
end
/-! ### isinstance(e, c) of an exception that was kept -/
def rIsX (K : PySem.W.Frag) : List V → Hp → VK → Prop := fun xs H Q => ∃ (a C : Addr) (c : V) (cv : Value) (b : Bool), xs = [.ref a, c] ∧ H a = some (.ext (excφ a C)) ∧ ExcC K C ∧ ClsV c cv ∧ PySem.W.kitOne K (.ref C) cv = some b ∧ Q (.bl b) H
theorem call_isX {X : Cx} (K : PySem.W.Frag) (hK : X.K = K := by rfl) : CallR X (.builtin "isinstance") (rIsX K) := by
  subst hK
  intro pins s σ H xs us Q I r h
  obtain ⟨a, C, c, cv, b, rfl, ha, hC, hcv, e, q⟩ := h
  cases r with
  | cons rx rr =>
    cases rr with
    | cons rt rr =>
      cases rr
      cases rx
      have ec := hcv.eq rt
      subst ec
      obtain ⟨⟨oe, vs, h1, h2, h3, h4⟩, _, _⟩ := (show ObjOk X.prog X.w H s.heap a (.ext (excφ a C)) from I.hok a _ ha)
      have J : PySem.W.InstAt s.heap a oe C none := by
        obtain ⟨oc, od, oda, osl⟩ := oe
        dsimp only at h2 h3 h4
        subst h2 h3 h4
        exact ⟨h1, rfl, rfl, trivial⟩
      exact PySem.W.kia_one (PySem.W.handS_kitx_exc hC.hg hC.hk hC.hs hC.hd hC.ha hC.hn hC.ht hC.hm) I.kIn J e (fun z => nomatch z) fun tk => ⟨.bl b, H, I.kept (t' := tk) fun _ _ z => z, rfl, q⟩
section
variable {K : PySem.W.Frag} {G H : Hp} {σ : L2.St} {ta : TE} {C D : Addr} {ans : Bool} {v : V}
theorem dt_exc (h : Dt K G v (dExc C)) (gh : Same G H) : ∃ a, v = .ref a ∧ H a = some (.ext (excφ a C)) := by
  generalize e : dExc C = d at h
  cases h with
  | dct h hs =>
    cases hs with
    | nil => cases e
    | @cons k _ _ _ _ _ _ =>
      cases k with
      | inl i => simp [keyD] at e
      | inr x => simp [keyD] at e
  | exc h =>
    simp only [PyData.dict.injEq, List.cons.injEq, Prod.mk.injEq, true_and, PyData.int.injEq, and_true] at e
    have e2 : C = _ := Int.ofNat.inj e
    subst e2
    exact ⟨_, rfl, gh _ _ h⟩
  | _ => cases e
theorem ed_isX (h : ED K G ta σ (dExc C)) (c : ExcC K C) (hk : PySem.W.kitOne K (.ref C) (.ref D) = some ans) : ED K G (tCB (rIsX K) (tCons ta (tCons (tC (.ref D)) tNil))) σ (.bool ans) := fun G1 H a gh Q q => h G1 H a gh _ fun v G2 H2 e hv => by
  obtain ⟨p, rfl, hp⟩ := dt_exc hv e.gh
  exact ⟨p, C, _, _, ans, rfl, hp, c, .own D, hk, q _ G2 H2 e (.bl _)⟩
theorem ed_isXT {T : String} (h : ED K G ta σ (dExc C)) (c : ExcC K C) (hk : PySem.W.kitOne K (.ref C) (.type T) = some ans) : ED K G (tCB (rIsX K) (tCons ta (tCons (tC (.ty T)) tNil))) σ (.bool ans) := fun G1 H a gh Q q => h G1 H a gh _ fun v G2 H2 e hv => by
  obtain ⟨p, rfl, hp⟩ := dt_exc hv e.gh
  exact ⟨p, C, _, _, ans, rfl, hp, c, .ty T, hk, q _ G2 H2 e (.bl _)⟩
end
/-! ### what a class of exceptions must have -/
structure ExT (K : PySem.W.Frag) (mg : Str → Option Value) (x : Str) (C : Addr) : Prop where
  gm : mg x = some (.ref C)
  q : PySem.W.excIn K C [.type "ValueError", .type "Exception", .type "BaseException", .type "object"] "ValueError.__new__" = true
  kp : PySem.W.keepIn K (.ref C) = true
  b : PySem.W.subIn K (.ref C) (.type "BaseException") = some true
  t : PySem.W.typeIn K (.ref C) = some (.type "type")
  c : ExcC K C
/-- raise X("..") out of a def -/
theorem ps_raiseX {X : Cx} {x m : Str} {C : Addr} {j : Nat} {p p2 pos pos2 : Pos} {W : WX} (T : ExT X.K X.mg x C) (tk : Takes X W) (hc : X.calm = true := by rfl) (hg : Gl X x := by rfl) (hdb : (x == ("__debug__" : Str)) = false := by decide) :
    PS X (.Raise (some (.Call (.Name x p) [.Constant (.str m) j p2] [] pos)) none pos2) (fun _ σ H => W (.ref C) none σ H) :=
  ps_raise hc tk (pmk_own PySem.F.excBase_ValueError T.q T.gm T.kp (raises_own T.b T.t) hg hdb)
/-! ### C(..) where __init__ may raise -/
def tMakeS (C : Addr) (sp : Sp) (E : L2.St → XK) (t : TA) : TE := fun σ H Q => t σ H fun vs H1 => ∀ x dx, H1 x = none → H1 dx = none → dx ≠ x →
  sp (.ref x :: vs) (upd (upd H1 dx (.own x)) x (.ins C dx [])) (fun v H2 => v = .non ∧ Q (.ref x) H2) (E σ)
section
variable {X : Cx} {j k : Nat} {C f : Addr} {x : Str} {ps : List Str} {sp : Sp} {e : Expr} {es : List Expr} {t : TA} {p pos : Pos} {E : L2.St → XK} {CX : CXT} {fd : FuncData}
theorem passE {X : Cx} : ∀ σ, PassesAt (L2.CX X.prog X.w) X σ E0 := fun _ _ _ _ _ _ _ h => by
  obtain ⟨_, _, _, _, _, _, _, _, _, _, _, _, z⟩ := h
  exact z.elim
theorem run_makeS {pins : List (Addr × Obj)} {σ : L2.St} {H : Hp} {s : Shared} {Q : VK} {us : List Value} {vs : List V} (M : Mk X.K C f) (F : FnOk X.prog X.w X.K X.mg X.base CX k f fd ps sp) (hr : Room (k + 1) X.A) (hb : Binds X.K fd ps [])
    (hx : PassesAt CX X σ (E σ)) (I : Inv X pins σ H s) (r : Vals vs us)
    (h : ∀ x dx, H x = none → H dx = none → dx ≠ x → sp (.ref x :: vs) (upd (upd H dx (.own x)) x (.ins C dx [])) (fun v H2 => v = .non ∧ Q (.ref x) H2) (E σ)) :
    wpAny (model X.prog X.w) X.A (call (.ref C) us) (EP X pins σ Q) X.xe s := by
  have hq := h (s.heap.objs.size + 1) s.heap.objs.size (I.hok.fresh (Nat.le_succ _)) (I.hok.fresh (Nat.le_refl _)) (Nat.ne_of_lt (Nat.lt_succ_self _))
  have I2 := Inv.made (C := C) I
  have r2 : Vals (V.ref (s.heap.objs.size + 1) :: vs) (Value.ref (s.heap.objs.size + 1) :: us) := .cons rfl r
  have hl : (Value.ref (s.heap.objs.size + 1) :: us ++ []).length = ps.length := by
    have e := r2.length
    rw [F.len _ _ _ _ hq] at e
    rw [List.append_nil]
    exact e.symm
  have hbb := hb _ (Value.ref (s.heap.objs.size + 1) :: us) I2.kIn hl
  rw [List.append_nil] at hbb
  refine wpAny_call (make_map (f := f) I.kIn M.makes M.init (beq_iff_eq.mp M.fn) (codeAny_mono (F.run _ X.stack _ _ ⟨Value.ref (s.heap.objs.size + 1) :: us, []⟩ (Value.ref (s.heap.objs.size + 1) :: us) _ _ (E σ) (hr.make C us [])
    (I2.env0.make C us []) hbb r2 hq) fun r s' hq' => ?_))
  cases r with
  | error e => exact hx pins _ _ e s' I2 hq'
  | ok fl =>
    cases fl with
    | ret u =>
      obtain ⟨v, H', I3, rv, ev, q3⟩ := I2.after hq'
      subst ev
      exact ⟨rv, ⟨V.ref (s.heap.objs.size + 1), H', I3, rfl, q3⟩⟩
    | next => exact False.elim hq'
    | brk => exact False.elim hq'
    | cont => exact False.elim hq'
theorem pe_newX (h : HasI X.prog X.w X.K X.mg X.base (L2.CX X.prog X.w) k x C ps sp) (hr : Room j X.A) (hk : k + 1 ≤ j) (hg : Gl X x) (hx : ∀ σ, PassesAt (L2.CX X.prog X.w) X σ (E σ)) (ha : PA X (e :: es) t) (hdb : (x == ("__debug__" : Str)) = false := by decide)
    (he : starEach (e :: es) X.env = (false, eval e X.env) :: starEach es X.env := by rfl) (hpl : (backTo pos (starEach es X.env)).any (·.1) = false := by rfl) :
    PE X (.Call (.Name x p) (e :: es) [] pos) (tMakeS C sp E t) := by
  obtain ⟨f, fd, F, M, b, hm⟩ := h
  refine ⟨fun pins s σ H Q I h => ?_⟩
  refine wpAny_Call_Name_kw (ld_glob I hg hm ?_ hdb)
  refine PySem.W.callWith_K (h₀ := X.base) I.ok.mod.kin M.kp (thn (ha.run pos pins s σ H _ I h) fun us s1 ⟨vs, H1, I1, r, q⟩ => ⟨I1.kIn, ?_⟩) he hpl
  exact run_makeS M F (hr.mono hk) b (hx σ) I1 r q
end
/-- __init__ that may refuse: Bad tells of what, and by which class -/
def IXFn (K : PySem.W.Frag) (okC : Addr → Prop) (R : List PyData → List (PyData × PyData) → Prop) (Bad : List PyData → Addr → Prop) : Sp := fun vs H Q E => ∃ (G : Hp) (x C dx : Addr) (ws : List V) (ds : List PyData), vs = .ref x :: ws ∧ okC C ∧ Same G H ∧ G x = none ∧ H x = some (.ins C dx []) ∧ DtAll K G ws ds ∧ 
  ((∃ os, R ds os ∧ ∀ G' H' dx' fs, Ext [x] G H G' H' → H' x = some (.ins C dx' fs) → DtFs K (news H G') fs os → Q .non H') ∨ (∃ B, Bad ds B ∧ ∀ G' H', Ext [x] G H G' H' → E (.ref B) none H'))
theorem ef_makeX {K : PySem.W.Frag} {G : Hp} {σ : L2.St} {tas : TA} {ds : List PyData} {C : Addr} {okC : Addr → Prop} {R : List PyData → List (PyData × PyData) → Prop} {Bad : List PyData → Addr → Prop} {os : List (PyData × PyData)} {E : L2.St → XK} (h : EA K G tas σ ds) (hc : okC C) (hr : R ds os) : EF K G (tMakeS C (IXFn K okC R Bad) E tas) σ (dObj C os) := fun G1 H a gh Q q => h G1 H a gh _ fun vs G2 H2 e hvs => by
  intro x dx hx hdx ne
  have hx3 : upd H2 dx (.own x) x = none := by rw [upd_ne ne.symm]; exact hx
  have e3 : Ext [] G2 H2 G2 (upd H2 dx (.own x)) := Ext.cell e.gh hdx
  have e4 : Ext [] G2 (upd H2 dx (.own x)) G2 (upd (upd H2 dx (.own x)) x (.ins C dx [])) := Ext.cell e3.gh hx3
  have e04 := (e.same e3).same e4
  refine ⟨G2, x, C, dx, vs, ds, rfl, hc, e4.gh, e.gh.free hx, upd_same, hvs, .inl ⟨os, hr, fun G' H' dx' fs e5 hx' hf => ⟨rfl, ?_⟩⟩⟩
  have hxH : H x = none := e.dm x hx
  have e05 : Ext [] G1 H G' H' := e04.trans e5 fun z hz => .inr (by rw [List.mem_singleton] at hz; rw [hz]; exact hxH)
  have gx : G' x = none := e5.free (e.gh.free hx) upd_same
  refine q _ _ _ (Ext.know e5.gh hx' gx e05 hxH) (.obj (news_at hxH upd_same) (same_dtf (fun b u z => ?_) hf))
  obtain ⟨z1, z2⟩ := news_of z
  have nb : b ≠ x := fun z => by rw [z, upd_same] at z1; cases z1
  exact news_at (e04.dm b z1) (by rw [upd_ne nb]; exact z2)
theorem ev_makeX {ε : Eff} {K : PySem.W.Frag} {G : Hp} {σ : L2.St} {tas : TA} {c : Nat} {Ps : List PyData → Prop} {Pd : PyData → Prop} {C : Addr} {okC : Addr → Prop} {R : List PyData → List (PyData × PyData) → Prop} {Bad : List PyData → Addr → Prop} {E : L2.St → XK} (h : AV ε K c G tas σ Ps) (hc : okC C) (hr : ∀ ds, Ps ds → ∃ os, R ds os ∧ Pd (dObj C os)) : EV ε K c G (tMakeS C (IXFn K okC R Bad) E tas) σ Pd := fun G1 H n a gh hI hl Q q => h G1 H n a gh hI hl _ fun vs ds G2 H2 e hI2 hvs hps => by
  obtain ⟨os, h1, h2⟩ := hr ds hps
  exact ef_makeX (E := E) (Bad := Bad) (tas := fun _ H Q => Q vs H) (fun G3 H3 a3 gh3 Q q => q vs G3 H3 (Ext.refl gh3) (same_dts a3 hvs)) hc h1 G2 H2 (Same.refl G2) e.gh Q fun v G3 H3 e3 hv => q v _ G3 H3 (e.same e3) (ε.stay hI2 e3) (same_dt news_le hv) h2
/-- C(..) is refused -/
theorem make_bad {K : PySem.W.Frag} {G H : Hp} {σ : L2.St} {tas : TA} {ds : List PyData} {C B : Addr} {okC : Addr → Prop} {R : List PyData → List (PyData × PyData) → Prop} {Bad : List PyData → Addr → Prop} {E : L2.St → XK} {Q : VK} (h : EA K G tas σ ds) (gh : Same G H) (hc : okC C) (hb : Bad ds B) (k : ∀ G' H', Ext [] G H G' H' → E σ (.ref B) none H') : tMakeS C (IXFn K okC R Bad) E tas σ H Q := h G H (Same.refl G) gh _ fun vs G2 H2 e hvs => by
  intro x dx hx hdx ne
  have hx3 : upd H2 dx (.own x) x = none := by rw [upd_ne ne.symm]; exact hx
  have e3 : Ext [] G2 H2 G2 (upd H2 dx (.own x)) := Ext.cell e.gh hdx
  have e4 : Ext [] G2 (upd H2 dx (.own x)) G2 (upd (upd H2 dx (.own x)) x (.ins C dx [])) := Ext.cell e3.gh hx3
  have e04 := (e.same e3).same e4
  exact ⟨G2, x, C, dx, vs, ds, rfl, hc, e4.gh, e.gh.free hx, upd_same, hvs, .inr ⟨B, hb, fun G' H' e5 => k G' H' (e04.trans e5 fun z hz => .inr (by rw [List.mem_singleton] at hz; rw [hz]; exact e.dm x hx))⟩⟩
section
variable {P : Program} {w : World} {K : PySem.W.Frag} {mg : Str → Option Value} {base : Heap} {C : Addr} {x q : Str} {st : Stmt} {N ps : List Str} {k : Nat} {sp : Sp}
theorem InitIn.okX (F : InitIn K mg x C q st) (S : FnScope N ps (defScope st)) (len : ∀ vs H Q E, sp vs H Q E → vs.length = ps.length)
    (hb : ∀ (kV doc pm : Value) (an : Option Addr) (cdv ct : Value) (us : List Value), us.length = ps.length → bindArgs (PySem.W.fnOf "__init__" q (defArgs st) (defBody st) (defScope st) .none kV doc pm an cdv ct) ⟨us, []⟩ = Pure.pure (ps.zip us))
    (hbody : ∀ (f : Addr) (cdv : Value) (A : Around) (outer : List Env) (s : Shared) (H : Hp) (vs : List V) (Q : VK) (E : XK), Room k (A.deeper (PyProof.Rows.envOfC q (defScope st) s.heap.objs.size f cdv)) → sp vs H Q E →
      ∃ t, PSs (cxOf (L2.CX P w) P w K mg base N q (defScope st) f cdv A outer s H E) (defBody st) t ∧ t { nx := fun _ H' => Q .non H', rt := Q } (start N vs) H) : HasI P w K mg base (L2.CX P w) (k + 1) x C ps sp := by
  obtain ⟨f, fd, F, M, hm⟩ := F
  exact ⟨f, fd, F.okX S len (hbody f), M, F.binds hb, hm⟩
end
end S

namespace S
open PySem PySem.Spec PyProof.Rows L2
/-! ### a sign n times; the signs of a text as a list; a list n times -/
theorem foldl_rep (c : Nat) : ∀ (n : Nat) (a : Array Nat), (List.replicate n #[c]).foldl (· ++ ·) a = a ++ (List.replicate n c).toArray
  | 0, a => by simp
  | n + 1, a => by
    rw [List.replicate_succ, List.foldl_cons, foldl_rep c n, List.replicate_succ]
    apply Array.ext'
    simp
def rRepS : R2 := fun x y H Q => ∃ (c : Nat) (n : Int), x = .str (sg c) ∧ y = .int n ∧ 2 ≤ n ∧ n ≤ 1000 ∧ Q (.str (mkS (List.replicate n.toNat c))) H
theorem op_repS {X : Cx} : OpR X (binaryOp .Mult) rRepS := by
  intro pins s σ H x y v u Q I rx ry h
  obtain ⟨c, n, rfl, rfl, h1, h2, q⟩ := h
  obtain ⟨t, rfl⟩ := rx
  obtain ⟨t', rfl⟩ := ry
  have e1 : Str.length (sg c) = 1 := rfl
  refine PySem.P.mul_str (by rw [decide_eq_false (by omega), decide_eq_false (by omega)]; rfl) (fun _ _ => by
    rw [e1]
    have hq : 1 ≤ (2 ^ 63 - 1) / n := by (apply Int.le_ediv_of_mul_le <;> omega)
    exact Int.not_lt.mpr hq) (fun _ _ => by
    rw [e1]
    unfold Builtin.Str.tooLong
    exact decide_eq_false (by have : (sizeLine : Nat) = 16777216 := rfl; omega)) ?_
  rw [if_neg (by omega), if_neg (by rw [e1]; simp; omega)]
  have e2 : (⟨(List.replicate n.toNat (sg c).cps).foldl (· ++ ·) #[]⟩ : Str) = mkS (List.replicate n.toNat c) := by
    show (⟨(List.replicate n.toNat #[c]).foldl (· ++ ·) #[]⟩ : Str) = _
    rw [foldl_rep]
    simp [mkS]
  rw [e2]
  refine ⟨?_, .str _, H, I.tok _, ⟨_, rfl⟩, q⟩
  rw [mkS_len, List.length_replicate]
  have : (sizeLine : Nat) = 16777216 := rfl
  omega
theorem call_listT {X : Cx} (hc : X.calm = true) : CallR X (.type "list") (fun xs H Q => ∃ z : List Nat, xs = [.str (mkS z)] ∧ z.length ≤ 10000 ∧ ∀ l, H l = none → Q (.ref l) (upd H l (.lst (z.map fun c => .str (sg c))))) := by
  intro pins s σ H xs us Q I r h
  obtain ⟨z, rfl, hz, q⟩ := h
  obtain ⟨u, rfl, t, rfl⟩ := vals1 r
  have hsz : (mkS z).cps.size = z.length := mkS_size z
  refine call_list_str (I.ok.hd hc) (mkS z) t (fun h' tk acc' c' hkeep hS hacc => ?_) (by rw [hsz]; exact Nat.le_trans hz (by decide))
  refine ⟨.ref s.heap.objs.size, upd H s.heap.objs.size (.lst (z.map fun c => .str (sg c))), I.laid hkeep (Nat.le_refl _) (show ObjOk X.prog X.w _ _ _ (.lst (z.map fun c => .str (sg c))) from ⟨?_, acc'.toList, c', ?_, ?_⟩), rfl, q _ (I.hok.fresh (Nat.le_refl _))⟩
  · rw [List.length_map]; exact Nat.le_trans hz (by decide)
  · have el : acc'.toList.length = acc'.size := by simp
    refine vals_of_at (by rw [List.length_map, el, hacc.1, hsz]) fun j x w h1 h2 => ?_
    obtain ⟨c, tu, hcu, rfl⟩ := hacc.2 j w (by rw [← Array.getElem?_toList]; exact h2)
    have hz2 : z[j]? = some c := by
      have : (mkS z).cps[j]? = some c := hcu
      show _
      rw [← Array.getElem?_toList] at this
      exact this
    rw [List.getElem?_map, hz2] at h1
    cases h1
    exact ⟨_, rfl⟩
  · exact hS
section
variable {K : PySem.W.Frag} {G : Hp} {σ : L2.St} {te : TE} {ds : List PyData}
theorem r2_repS {c : Nat} {n : Int} (h1 : 2 ≤ n) (h2 : n ≤ 1000) : R2D K rRepS (.str (sg c)) (.int n) (.str (mkS (List.replicate n.toNat c))) := fun v w G H gh hx hy Q q => by
  rw [dt_str hx, dt_int hy]
  exact ⟨c, n, rfl, rfl, h1, h2, q _ G H (Ext.refl gh) (.str _)⟩
theorem cb_listT' {z : List Nat} (hz : z.length ≤ 10000) : CBD K (fun xs H Q => ∃ z : List Nat, xs = [.str (mkS z)] ∧ z.length ≤ 10000 ∧ ∀ l, H l = none → Q (.ref l) (upd H l (.lst (z.map fun c => .str (sg c))))) [.str (mkS z)] (.list (z.map fun c => .str (sg c))) := fun vs G H gh h Q q => by
  obtain ⟨v, rfl, hv⟩ := dts1 h
  rw [dt_str hv]
  refine ⟨z, rfl, hz, fun l hl => q _ _ _ (Ext.new gh hl) (.lst upd_same ?_)⟩
  have e1 : (z.map fun c => V.str (sg c)) = (z.map sg).map V.str := by rw [List.map_map]; rfl
  have e2 : (z.map fun c => PyData.str (sg c)) = (z.map sg).map PyData.str := by rw [List.map_map]; rfl
  rw [e1, e2]
  exact strs_dts _
theorem dts_rep {xs : List V} (h : DtAll K G xs ds) : ∀ n : Nat, DtAll K G (List.replicate n xs).flatten (List.replicate n ds).flatten
  | 0 => .nil
  | n + 1 => by
    rw [List.replicate_succ, List.replicate_succ, List.flatten_cons, List.flatten_cons]
    exact dts_app h (dts_rep h n)
theorem r2_rep {n : Int} (h1 : 0 ≤ n) (h2 : n ≤ 1000) (h3 : ds.length ≤ 1000) (n1 : intHead ds = false) : R2D K rRep (.list ds) (.int n) (.list (List.replicate n.toNat ds).flatten) := fun v w G H gh hx hy Q q => by
  obtain ⟨a, xs, rfl, ha, hs⟩ := dt_lst hx gh n1
  rw [dt_int hy]
  have hl := dts_len hs
  refine ⟨a, n, xs, rfl, rfl, ha, by omega, by omega, ?_, fun p hp => q _ _ _ (Ext.new gh hp) (.lst upd_same (dts_rep (same_dts (same_new (gh.free hp)) hs) _))⟩
  have : xs.length * n.toNat ≤ 1000 * 1000 := Nat.mul_le_mul (by omega) (by omega)
  exact Nat.le_trans this (by decide)
theorem cb_tupleL : CBD K (fun xs H Q => ∃ p ys, xs = [.ref p] ∧ ((SqL K H p ys ∧ ∀ l, H l = none → Q (.ref l) (upd H l (.tup ys))) ∨ (SqT K H p ys ∧ Q (.ref p) H))) [.list ds] (.tuple ds) := fun vs G H gh h Q q => by
  obtain ⟨v, rfl, hv⟩ := dts1 h
  obtain ⟨a, xs, rfl, hl, hs⟩ := dt_list hv gh
  exact ⟨a, xs, rfl, .inl ⟨hl, fun l hl => q _ _ _ (Ext.new gh hl) (.tup (.inl upd_same) (same_dts (same_new (gh.free hl)) hs))⟩⟩
end
end S

/-! enumerate(zip(text, text)) -/
namespace S
open PySem PySem.Spec PyProof.Rows L2
/-- a zip, whatever it gave out before -/
abbrev ZAny (h : Heap) (z TI TO : Addr) (f0 : Value) (f : Bool) : Prop :=
  h.get? z = some { cls := .type "zip", dict := none, data := .fields #[f0, .bool f, .bool false, .ref TI, .ref TO], slots := #[] }
def OutV (f0 : Value) : Prop := f0 = .none ∨ ∃ T : Nat, f0 = rawInt T
def ZS (h : Heap) (z TI TO : Addr) : Prop := ∃ f0 f, OutV f0 ∧ ZAny h z TI TO f0 f
section
variable {prog : Program} {w : World} {A : Around} {E : Value → Shared → Prop} {s : Shared} {z TI TO i1 i2 : Addr} {fp1 fp2 : List Addr} {n1 n2 i : Nat} {P1 P2 : Nat → Value → Prop} {St1 St2 : Nat → Heap → Prop} {a1 a2 f0 : Value} {f : Bool}
theorem dead {a : Addr} {Q : Option Obj → Shared → Prop} (ho : s.heap.get? a = none) (h : Q none s) : wpAny (model prog w) A (loadIfAlive a) Q E s := by
  have h' : Q (s.heap.get? a) s := by rw [ho]; exact h
  exact fun _ _ _ => h'
theorem zfree {Q : Bool → Shared → Prop} (hz : ZAny s.heap z TI TO f0 f) (h0 : OutV f0) (h1 : Q true s)
    (h2 : ∀ h', ZAny h' z TI TO f0 true → Heap.SameBut z s.heap h' → Q false { s with heap := h' }) : wpAny (model prog w) A (Builtin.SmallTypes.ownedTupleIsFree (.ref z)) Q E s := by
  rcases h0 with rfl | ⟨T, rfl⟩
  · unfold Builtin.SmallTypes.ownedTupleIsFree
    exact wpAny_bind (wpAny_field hz rfl (x := .none) rfl (wpAny_pure h1))
  · cases hT : s.heap.get? T with
    | none =>
      unfold Builtin.SmallTypes.ownedTupleIsFree
      refine wpAny_bind (wpAny_field hz rfl (x := rawInt T) rfl ?_)
      show wpAny _ _ (loadIfAlive ((T : Int).toNat) >>= _) _ _ _
      rw [Int.toNat_natCast]
      refine wpAny_bind (dead hT ?_)
      exact wpAny_pure h1
    | some oT => exact wpAny_tupleHeld_zip hz hT h2
/-- the next pair of a zip -/
theorem zs_item {Q : Value → Shared → Prop} (S : ZipSep2 z TI TO i1 i2 fp1 fp2) (D1 : Draws prog w A i1 fp1 n1 P1 St1) (D2 : Draws prog w A i2 fp2 n2 P2 St2)
    (hZ : ZS s.heap z TI TO) (hTI : IsTupOf2 s.heap TI (.ref i1) (.ref i2)) (hTO : IsTupOf2 s.heap TO a1 a2) (st1 : St1 i s.heap) (st2 : St2 i s.heap) (hlt1 : i < n1) (hlt2 : i < n2)
    (hQ : ∀ x1 x2 h' tk, P1 i x1 → P2 i x2 → ZS h' z TI TO → (∃ b1 b2, IsTupOf2 h' TO b1 b2) → St1 (i + 1) h' → St2 (i + 1) h' → IsTupOf2 h' s.heap.objs.size x1 x2 → h'.objs.size = s.heap.objs.size + 1 →
      (∀ c o, c ∉ [z, TO, i1, i2] → s.heap.get? c = some o → h'.get? c = some o) → Q (.ref s.heap.objs.size) { s with heap := h', toks := tk }) :
    wpAny (model prog w) A (Builtin.«zip.__next__» ⟨[.ref z], []⟩) (fun fin s' => ∃ v, fin = .done (.ret v) ∧ Q v s') E s := by
  obtain ⟨f0, f, h0, hz⟩ := hZ
  obtain ⟨hp, g, d, tk0, os⟩ := s
  show wpAny _ _ (field (.ref z) 2 >>= _) _ _ _
  refine wpAny_bind (wpAny_field hz rfl (x := .bool false) rfl ?_)
  show wpAny _ _ (field (.ref z) 3 >>= _) _ _ _
  refine wpAny_bind (wpAny_field hz rfl (x := .ref TI) rfl ?_)
  refine wpAny_bind (wpAny_seqItems hTI rfl ?_)
  show wpAny _ _ (Builtin.SmallTypes.ownedTupleIsFree (.ref z) >>= _) _ _ _
  refine wpAny_bind (zfree hz h0 ?_ ?_)
  · simp only [if_true]
    refine wpAny_bind (wpAny_rule (wpAny_bind (wpAny_field hz rfl (x := .ref TO) rfl ?_)))
    refine wpAny_bind (wpAny_setField_rec hz (by simp) fun k0 zk0 sk0 => ?_)
    replace zk0 : ZAny k0 z TI TO .ellipsis f := zk0
    replace sk0 : Heap.SameBut z hp k0 := sk0
    refine wpAny_bind ?_
    simp only [List.zipIdx_cons, List.zipIdx_nil, List.forIn_cons, List.forIn_nil]
    refine wpAny_bind (wpAny_bind (wpAny_onRaise ?_))
    show wpAny _ _ (Builtin.SmallTypes.nextOf (.ref i1) >>= _) _ _ ⟨k0, g, d, tk0, os⟩
    refine wpAny_bind (D1.item i _ _ _ hlt1 (D1.over st1 sk0 S.zf1) fun x1 k1 tk1 hx1 sn1 sk1 => wpAny_pure ?_)
    replace sk1 : Heap.SameBut i1 k0 k1 := sk1
    have u1 : IsTupOf2 k1 TO a1 a2 := sk1.extBut _ _ S.Ti1 (sk0.extBut _ _ S.TOz hTO)
    refine wpAny_bind (wpAny_seqItems (s := ⟨k1, g, d, tk1, os⟩) u1 rfl ?_)
    refine wpAny_bind (updateSeq_IsTupOf2 (s := ⟨k1, g, d, tk1, os⟩) u1 fun k2 t2 sk2 => ?_)
    replace t2 : IsTupOf2 k2 TO x1 a2 := t2
    replace sk2 : Heap.SameBut TO k1 k2 := sk2
    refine wpAny_bind (wpAny_letGo (wpAny_pure ?_))
    refine wpAny_bind (wpAny_bind (wpAny_onRaise ?_))
    show wpAny _ _ (Builtin.SmallTypes.nextOf (.ref i2) >>= _) _ _ ⟨k2, g, d, tk1, os⟩
    have st2' : St2 i k2 := D2.over (D2.over (D2.over st2 sk0 S.zf2) sk1 S.sep1_2) sk2 S.Tf2
    refine wpAny_bind (D2.item i _ _ _ hlt2 st2' fun x2 k3 tk2 hx2 sn2 sk3 => wpAny_pure ?_)
    replace sk3 : Heap.SameBut i2 k2 k3 := sk3
    have u3 : IsTupOf2 k3 TO x1 a2 := sk3.extBut _ _ S.Ti2 t2
    refine wpAny_bind (wpAny_seqItems (s := ⟨k3, g, d, tk2, os⟩) u3 rfl ?_)
    refine wpAny_bind (updateSeq_IsTupOf2 (s := ⟨k3, g, d, tk2, os⟩) u3 fun k4 t4 sk4 => ?_)
    replace t4 : IsTupOf2 k4 TO x1 x2 := t4
    replace sk4 : Heap.SameBut TO k3 k4 := sk4
    refine wpAny_bind (wpAny_letGo (wpAny_pure (wpAny_pure ?_)))
    refine wpAny_bind (wpAny_seqItems (s := ⟨k4, g, d, tk2, os⟩) t4 rfl ?_)
    refine wpAny_bind (wpAny_newTuple ?_)
    have ksz : k4.objs.size = hp.objs.size := by rw [sk4.1, sk3.1, sk2.1, sk1.1, sk0.1]
    have zk4 : ZAny k4 z TI TO .ellipsis f := sk4.extBut _ _ S.TOz.symm (sk3.extBut _ _ S.zi2 (sk2.extBut _ _ S.TOz.symm (sk1.extBut _ _ S.zi1 zk0)))
    have sm : ∀ c o, c ∉ [z, TO, i1, i2] → hp.get? c = some o → k4.get? c = some o := fun c o hc q => by
      simp only [List.mem_cons, List.not_mem_nil, or_false, not_or] at hc
      exact sk4.extBut _ _ hc.2.1 (sk3.extBut _ _ hc.2.2.2 (sk2.extBut _ _ hc.2.1 (sk1.extBut _ _ hc.2.2.1 (sk0.extBut _ _ hc.1 q))))
    have j1 : St1 (i + 1) k4 := D1.over (D1.over (D1.over sn1 sk2 S.Tf1) sk3 S.sep2_1) sk4 S.Tf1
    have j2 : St2 (i + 1) k4 := D2.over sn2 sk4 S.Tf2
    have zl : z < k4.objs.size := Heap.lt_size zk4
    show wpAny _ _ (Builtin.SmallTypes.ownedTupleHandOut (.ref z) (.ref k4.objs.size) >>= _) _ _ ⟨k4.push { cls := .type "tuple", data := .seq #[x1, x2] }, g, d, tk2, os⟩
    refine wpAny_bind ?_
    unfold Builtin.SmallTypes.ownedTupleHandOut
    have zk5 : ZAny (k4.push { cls := .type "tuple", data := .seq #[x1, x2] }) z TI TO .ellipsis f := Heap.get?_push_of_some _ zk4
    refine wpAny_bind (wpAny_setField_rec zk5 (by simp) fun k6 zk6 sk6 => ?_)
    replace zk6 : ZAny k6 z TI TO (rawInt k4.objs.size) f := zk6
    refine wpAny_setField_rec zk6 (by simp) fun k7 zk7 sk7 => ?_
    replace zk7 : ZAny k7 z TI TO (rawInt k4.objs.size) false := zk7
    replace sk6 : Heap.SameBut z (k4.push { cls := .type "tuple", data := .seq #[x1, x2] }) k6 := sk6
    replace sk7 : Heap.SameBut z k6 k7 := sk7
    have up : ∀ c o, c ≠ z → k4.get? c = some o → k7.get? c = some o := fun c o c1 q => sk7.extBut _ _ c1 (sk6.extBut _ _ c1 (Heap.get?_push_of_some _ q))
    have t7 : IsTupOf2 k7 k4.objs.size x1 x2 := sk7.extBut _ _ (Nat.ne_of_gt zl) (sk6.extBut _ _ (Nat.ne_of_gt zl) (Heap.get?_push_size _ rfl))
    have s7 : k7.objs.size = k4.objs.size + 1 := by rw [sk7.1, sk6.1, Heap.size_push]
    rw [ksz] at t7 s7
    refine wpAny_pure ⟨_, rfl, ?_⟩
    show Q (.ref k4.objs.size) ⟨k7, g, d, tk2, os⟩
    rw [ksz]
    exact hQ x1 x2 k7 tk2 hx1 hx2 ⟨_, _, .inr ⟨_, rfl⟩, zk7⟩ ⟨_, _, up _ _ S.TOz t4⟩ (D1.frame _ _ _ j1 fun b hb o q => up b o (fun r => S.zf1 (r ▸ hb)) q) (D2.frame _ _ _ j2 fun b hb o q => up b o (fun r => S.zf2 (r ▸ hb)) q) t7 s7
      fun c o hc q => up c o (fun r => hc (by simp [r])) (sm c o hc q)
  · intro k0 zk0 sk0
    replace sk0 : Heap.SameBut z hp k0 := sk0
    simp only [Bool.false_eq_true, if_false]
    refine wpAny_bind ?_
    rw [← Array.forIn_toList]
    simp only [List.forIn_cons, List.forIn_nil]
    refine wpAny_bind (wpAny_bind (wpAny_holding ?_))
    show wpAny _ _ (Builtin.SmallTypes.nextOf (.ref i1) >>= _) _ _ ⟨k0, g, d, tk0, os⟩
    refine wpAny_bind (D1.item i _ _ _ hlt1 (D1.over st1 sk0 S.zf1) fun x1 k1 tk1 hx1 sn1 sk1 => wpAny_pure ?_)
    replace sk1 : Heap.SameBut i1 k0 k1 := sk1
    refine wpAny_pure ?_
    refine wpAny_bind (wpAny_bind (wpAny_holding ?_))
    show wpAny _ _ (Builtin.SmallTypes.nextOf (.ref i2) >>= _) _ _ ⟨k1, g, d, tk1, os⟩
    have st2' : St2 i k1 := D2.over (D2.over st2 sk0 S.zf2) sk1 S.sep1_2
    refine wpAny_bind (D2.item i _ _ _ hlt2 st2' fun x2 k3 tk2 hx2 sn2 sk3 => wpAny_pure ?_)
    replace sk3 : Heap.SameBut i2 k1 k3 := sk3
    refine wpAny_pure (wpAny_pure ?_)
    show wpAny _ _ (newTuple [x1, x2] >>= _) _ _ ⟨k3, g, d, tk2, os⟩
    refine wpAny_bind (wpAny_newTuple ?_)
    have ksz : k3.objs.size = hp.objs.size := by rw [sk3.1, sk1.1, sk0.1]
    have zk3 : ZAny k3 z TI TO f0 true := sk3.extBut _ _ S.zi2 (sk1.extBut _ _ S.zi1 zk0)
    have sm : ∀ c o, c ∉ [z, TO, i1, i2] → hp.get? c = some o → k3.get? c = some o := fun c o hc q => by
      simp only [List.mem_cons, List.not_mem_nil, or_false, not_or] at hc
      exact sk3.extBut _ _ hc.2.2.2 (sk1.extBut _ _ hc.2.2.1 (sk0.extBut _ _ hc.1 q))
    have j1 : St1 (i + 1) k3 := D1.over sn1 sk3 S.sep2_1
    have oT : IsTupOf2 k3 TO a1 a2 := sk3.extBut _ _ S.Ti2 (sk1.extBut _ _ S.Ti1 (sk0.extBut _ _ S.TOz hTO))
    refine wpAny_pure ⟨_, rfl, ?_⟩
    show Q (.ref k3.objs.size) _
    have pr : IsTupOf2 (k3.push { cls := .type "tuple", data := .seq #[x1, x2] }) k3.objs.size x1 x2 := Heap.get?_push_size _ rfl
    have s4 : (k3.push { cls := .type "tuple", data := .seq #[x1, x2] }).objs.size = k3.objs.size + 1 := Heap.size_push ..
    rw [ksz] at pr s4 ⊢
    exact hQ x1 x2 _ tk2 hx1 hx2 ⟨_, _, h0, Heap.get?_push_of_some _ zk3⟩ ⟨_, _, Heap.get?_push_of_some _ oT⟩ (D1.frame _ _ _ j1 fun b hb o q => Heap.get?_push_of_some _ q) (D2.frame _ _ _ sn2 fun b hb o q => Heap.get?_push_of_some _ q) pr s4
      fun c o hc q => Heap.get?_push_of_some _ (sm c o hc q)
/-- no pair is left -/
theorem zs_end {Q : Fin → Shared → Prop} (S : ZipSep2 z TI TO i1 i2 fp1 fp2) (D1 : Draws prog w A i1 fp1 n1 P1 St1) (D2 : Draws prog w A i2 fp2 n2 P2 St2)
    (hZ : ZS s.heap z TI TO) (hTI : IsTupOf2 s.heap TI (.ref i1) (.ref i2)) (hTO : IsTupOf2 s.heap TO a1 a2) (st1 : St1 i s.heap) (st2 : St2 i s.heap) (hle1 : i ≤ n1) (hle2 : i ≤ n2) (hend : i = n1 ∨ i = n2)
    (hE : ∀ h' tk e, (∀ c o, c ∉ [z, TO, i1, i2] → s.heap.get? c = some o → h'.get? c = some o) → (∃ o, h'.get? e = some o ∧ o.cls = .type "StopIteration") → E (.ref e) { s with heap := h', toks := tk }) :
    wpAny (model prog w) A (Builtin.«zip.__next__» ⟨[.ref z], []⟩) Q E s := by
  obtain ⟨f0, f, h0, hz⟩ := hZ
  obtain ⟨hp, g, d, tk0, os⟩ := s
  show wpAny _ _ (field (.ref z) 2 >>= _) _ _ _
  refine wpAny_bind (wpAny_field hz rfl (x := .bool false) rfl ?_)
  show wpAny _ _ (field (.ref z) 3 >>= _) _ _ _
  refine wpAny_bind (wpAny_field hz rfl (x := .ref TI) rfl ?_)
  refine wpAny_bind (wpAny_seqItems hTI rfl ?_)
  show wpAny _ _ (Builtin.SmallTypes.ownedTupleIsFree (.ref z) >>= _) _ _ _
  refine wpAny_bind (zfree hz h0 ?_ ?_)
  · simp only [if_true]
    refine wpAny_bind (wpAny_rule (wpAny_bind (wpAny_field hz rfl (x := .ref TO) rfl ?_)))
    refine wpAny_bind (wpAny_setField_rec hz (by simp) fun k0 zk0 sk0 => ?_)
    replace zk0 : ZAny k0 z TI TO .ellipsis f := zk0
    replace sk0 : Heap.SameBut z hp k0 := sk0
    refine wpAny_bind ?_
    simp only [List.zipIdx_cons, List.zipIdx_nil, List.forIn_cons, List.forIn_nil]
    refine wpAny_bind (wpAny_bind (wpAny_onRaise ?_))
    show wpAny _ _ (Builtin.SmallTypes.nextOf (.ref i1) >>= _) _ _ ⟨k0, g, d, tk0, os⟩
    by_cases hl : i < n1
    · refine wpAny_bind (D1.item i _ _ _ hl (D1.over st1 sk0 S.zf1) fun x1 k1 tk1 hx1 sn1 sk1 => wpAny_pure ?_)
      replace sk1 : Heap.SameBut i1 k0 k1 := sk1
      have u1 : IsTupOf2 k1 TO a1 a2 := sk1.extBut _ _ S.Ti1 (sk0.extBut _ _ S.TOz hTO)
      refine wpAny_bind (wpAny_seqItems (s := ⟨k1, g, d, tk1, os⟩) u1 rfl ?_)
      refine wpAny_bind (updateSeq_IsTupOf2 (s := ⟨k1, g, d, tk1, os⟩) u1 fun k2 t2 sk2 => ?_)
      replace sk2 : Heap.SameBut TO k1 k2 := sk2
      refine wpAny_bind (wpAny_letGo (wpAny_pure ?_))
      have en : i = n2 := by omega
      refine wpAny_bind (wpAny_bind (wpAny_onRaise ?_))
      show wpAny _ _ (Builtin.SmallTypes.nextOf (.ref i2) >>= _) _ _ ⟨k2, g, d, tk1, os⟩
      have st2' : St2 n2 k2 := en ▸ D2.over (D2.over (D2.over st2 sk0 S.zf2) sk1 S.sep1_2) sk2 S.Tf2
      refine wpAny_bind (D2.done ⟨k2, g, d, tk1, os⟩ _ _ st2' fun k3 e sk3 he => ?_)
      replace sk3 : Heap.ExtBut i2 k2 k3 := sk3
      obtain ⟨oe, hoe, hce⟩ := he
      replace hoe : k3.get? e = some oe := hoe
      have zk3 : ZAny k3 z TI TO .ellipsis f := sk3 _ _ S.zi2 (sk2.extBut _ _ S.TOz.symm (sk1.extBut _ _ S.zi1 zk0))
      have ez : e ≠ z := fun r => by subst r; rw [zk3] at hoe; cases hoe; simp at hce
      refine wpAny_setField_rec (s := ⟨k3, g, d, tk1, os⟩) zk3 (by simp) fun k4 _ sk4 => ?_
      replace sk4 : Heap.SameBut z k3 k4 := sk4
      refine hE k4 tk1 e (fun c o hc q => ?_) ⟨oe, sk4.extBut _ _ ez hoe, hce⟩
      simp only [List.mem_cons, List.not_mem_nil, or_false, not_or] at hc
      exact sk4.extBut _ _ hc.1 (sk3 _ _ hc.2.2.2 (sk2.extBut _ _ hc.2.1 (sk1.extBut _ _ hc.2.2.1 (sk0.extBut _ _ hc.1 q))))
    · have en : i = n1 := by omega
      have st1' : St1 n1 k0 := en ▸ D1.over st1 sk0 S.zf1
      refine wpAny_bind (D1.done ⟨k0, g, d, tk0, os⟩ _ _ st1' fun k3 e sk3 he => ?_)
      replace sk3 : Heap.ExtBut i1 k0 k3 := sk3
      obtain ⟨oe, hoe, hce⟩ := he
      replace hoe : k3.get? e = some oe := hoe
      have zk3 : ZAny k3 z TI TO .ellipsis f := sk3 _ _ S.zi1 zk0
      have ez : e ≠ z := fun r => by subst r; rw [zk3] at hoe; cases hoe; simp at hce
      refine wpAny_setField_rec (s := ⟨k3, g, d, tk0, os⟩) zk3 (by simp) fun k4 _ sk4 => ?_
      replace sk4 : Heap.SameBut z k3 k4 := sk4
      refine hE k4 tk0 e (fun c o hc q => ?_) ⟨oe, sk4.extBut _ _ ez hoe, hce⟩
      simp only [List.mem_cons, List.not_mem_nil, or_false, not_or] at hc
      exact sk4.extBut _ _ hc.1 (sk3 _ _ hc.2.2.1 (sk0.extBut _ _ hc.1 q))
  · intro k0 zk0 sk0
    replace sk0 : Heap.SameBut z hp k0 := sk0
    simp only [Bool.false_eq_true, if_false]
    refine wpAny_bind ?_
    rw [← Array.forIn_toList]
    simp only [List.forIn_cons, List.forIn_nil]
    refine wpAny_bind (wpAny_bind (wpAny_holding ?_))
    show wpAny _ _ (Builtin.SmallTypes.nextOf (.ref i1) >>= _) _ _ ⟨k0, g, d, tk0, os⟩
    by_cases hl : i < n1
    · refine wpAny_bind (D1.item i _ _ _ hl (D1.over st1 sk0 S.zf1) fun x1 k1 tk1 hx1 sn1 sk1 => wpAny_pure ?_)
      replace sk1 : Heap.SameBut i1 k0 k1 := sk1
      refine wpAny_pure ?_
      refine wpAny_bind (wpAny_bind (wpAny_holding ?_))
      show wpAny _ _ (Builtin.SmallTypes.nextOf (.ref i2) >>= _) _ _ ⟨k1, g, d, tk1, os⟩
      have en : i = n2 := by omega
      have st2' : St2 n2 k1 := en ▸ D2.over (D2.over st2 sk0 S.zf2) sk1 S.sep1_2
      refine wpAny_bind (D2.done ⟨k1, g, d, tk1, os⟩ _ _ st2' fun k3 e sk3 he => ?_)
      replace sk3 : Heap.ExtBut i2 k1 k3 := sk3
      refine hE k3 tk1 e (fun c o hc q => ?_) he
      simp only [List.mem_cons, List.not_mem_nil, or_false, not_or] at hc
      exact sk3 _ _ hc.2.2.2 (sk1.extBut _ _ hc.2.2.1 (sk0.extBut _ _ hc.1 q))
    · have en : i = n1 := by omega
      have st1' : St1 n1 k0 := en ▸ D1.over st1 sk0 S.zf1
      refine wpAny_bind (D1.done ⟨k0, g, d, tk0, os⟩ _ _ st1' fun k3 e sk3 he => ?_)
      replace sk3 : Heap.ExtBut i1 k0 k3 := sk3
      refine hE k3 tk0 e (fun c o hc q => ?_) he
      simp only [List.mem_cons, List.not_mem_nil, or_false, not_or] at hc
      exact sk3 _ _ hc.2.2.1 (sk0.extBut _ _ hc.1 q)
/-- enumerate over any iterator -/
theorem enum_over {e it : Addr} {c : Int} {old : Value} {Q : Option Value → Shared → Prop} (he : IsEnum s.heap e it c old)
    (hn : ∀ E', wpAny (model prog w) A.in1 (Builtin.SmallTypes.nextOf (.ref it)) (fun x s1 => IsEnum s1.heap e it c old ∧
      ∀ h', IsEnumOut h' e it (c + 1) x s1.heap.objs.size → h'.get? s1.heap.objs.size = some { cls := .type "tuple", data := .seq #[.int c s1.toks, x] } → h'.objs.size = s1.heap.objs.size + 1 →
        (∀ b o, b ≠ e → s1.heap.get? b = some o → h'.get? b = some o) → Q (some (.ref s1.heap.objs.size)) { s1 with heap := h', toks := s1.toks + 1 }) E' s) :
    wpAny (model prog w) A (pyNext (.ref e)) Q E s := by
  have hT : s.TypeIs (.ref e) "enumerate" := ⟨_, he, rfl⟩
  unfold pyNext
  refine wpAny_bind (wpAny_attempt (wpAny_callSpecial?_slot (name := Str.ofString "__next__") hT F.slot_enumerate_next (wpAny_call_entry F.slot_enumerate_next hT F.entry_enumerate_next ?_ (F.args_enumerate_next_1 _))))
  show wpAny _ _ (field (.ref e) 2 >>= _) _ _ _
  refine wpAny_bind (wpAny_field he rfl (x := .ref it) rfl ?_)
  refine wpAny_bind (thn (hn _) fun x s1 ⟨e1, q⟩ => ?_)
  obtain ⟨k1, g, d, tk, os⟩ := s1
  refine wpAny_bind (wpAny_field e1 rfl (x := rawInt c) rfl ?_)
  show wpAny _ _ (field (.ref e) 4 >>= _) _ _ ⟨k1, g, d, tk, os⟩
  refine wpAny_bind (wpAny_field e1 rfl (x := .none) rfl ?_)
  show wpAny _ _ (mkInt c >>= _) _ _ ⟨k1, g, d, tk, os⟩
  refine wpAny_bind (wpAny_mkInt ?_)
  show wpAny _ _ (setField (.ref e) 3 (rawInt (c + 1)) >>= _) _ _ ⟨k1, g, d, tk + 1, os⟩
  refine wpAny_bind (wpAny_setField_rec e1 (by simp) fun k2 e2 sk2 => ?_)
  replace sk2 : Heap.SameBut e k1 k2 := sk2
  replace e2 : IsEnum k2 e it (c + 1) old := e2
  show wpAny _ _ (setField (.ref e) 4 .none >>= _) _ _ ⟨k2, g, d, tk + 1, os⟩
  refine wpAny_bind (wpAny_setField_rec e2 (by simp) fun k3 e3 sk3 => ?_)
  replace sk3 : Heap.SameBut e k2 k3 := sk3
  replace e3 : IsEnum k3 e it (c + 1) old := e3
  show wpAny _ _ (newTuple [.int c tk, x] >>= _) _ _ ⟨k3, g, d, tk + 1, os⟩
  refine wpAny_bind (wpAny_newTuple ?_)
  have e4 : IsEnum (k3.push { cls := .type "tuple", data := .seq #[.int c tk, x] }) e it (c + 1) old := Heap.get?_push_of_some _ e3
  generalize hk4 : k3.push { cls := .type "tuple", data := .seq #[.int c tk, x] } = k4 at e4
  have ksz : k3.objs.size = k1.objs.size := by rw [sk3.1, sk2.1]
  have el : e < k1.objs.size := Heap.lt_size e1
  have t4 : k4.get? k1.objs.size = some { cls := .type "tuple", data := .seq #[.int c tk, x] } := by rw [← hk4, ← ksz]; exact Heap.get?_push_size _ rfl
  have s4 : k4.objs.size = k1.objs.size + 1 := by rw [← hk4, Heap.size_push, ksz]
  have u4 : ∀ b o, b ≠ e → k1.get? b = some o → k4.get? b = some o := fun b o be hb => by
    rw [← hk4]; exact Heap.get?_push_of_some _ (sk3.extBut b o be (sk2.extBut b o be hb))
  show wpAny _ _ (Builtin.SmallTypes.ownedTupleIsFree (.ref e) >>= _) _ _ ⟨k4, g, d, tk + 1, os⟩
  rw [ksz]
  refine wpAny_bind ?_
  unfold Builtin.SmallTypes.ownedTupleIsFree
  refine wpAny_bind (wpAny_field e4 rfl (x := .none) rfl (wpAny_pure ?_))
  simp only [if_true]
  refine wpAny_bind (wpAny_rule (wpAny_bind (wpAny_field e4 rfl (x := old) rfl ?_)))
  refine wpAny_bind (wpAny_setField_rec e4 (by simp) fun k5 e5 sk5 => ?_)
  replace sk5 : Heap.SameBut e k4 k5 := sk5
  replace e5 : IsEnum k5 e it (c + 1) x := e5
  show wpAny _ _ (Builtin.SmallTypes.ownedTupleHandOut (.ref e) (.ref k1.objs.size) >>= _) _ _ ⟨k5, g, d, tk + 1, os⟩
  refine wpAny_bind ?_
  unfold Builtin.SmallTypes.ownedTupleHandOut
  refine wpAny_bind (wpAny_setField_rec e5 (by simp) fun k6 e6 sk6 => ?_)
  replace sk6 : Heap.SameBut e k5 k6 := sk6
  replace e6 : IsEnumOut k6 e it (c + 1) x k1.objs.size := e6
  refine wpAny_setField_rec e6 (by simp) fun k7 e7 sk7 => ?_
  replace sk7 : Heap.SameBut e k6 k7 := sk7
  replace e7 : IsEnumOut k7 e it (c + 1) x k1.objs.size := e7
  have u7 : ∀ b o, b ≠ e → k4.get? b = some o → k7.get? b = some o := fun b o be hb => sk7.extBut b o be (sk6.extBut b o be (sk5.extBut b o be hb))
  refine wpAny_bind (wpAny_letGo (wpAny_pure ⟨_, rfl, wpAny_pure (q k7 e7 (u7 _ _ (Nat.ne_of_gt el) t4) ?_ fun b o be hb => u7 b o be (u4 b o be hb))⟩))
  rw [sk7.1, sk6.1, sk5.1, s4]
theorem enum_over_end {e it : Addr} {c : Int} {old : Value} {Q : Option Value → Shared → Prop} (he : IsEnum s.heap e it c old)
    (hn : ∀ (Q' : Value → Shared → Prop) (E' : Value → Shared → Prop), (∀ h' tk x, (∃ o, h'.get? x = some o ∧ o.cls = .type "StopIteration") → Q none { s with heap := h', toks := tk } → E' (.ref x) { s with heap := h', toks := tk }) → wpAny (model prog w) A.in1 (Builtin.SmallTypes.nextOf (.ref it)) Q' E' s) :
    wpAny (model prog w) A (pyNext (.ref e)) Q E s := by
  have hT : s.TypeIs (.ref e) "enumerate" := ⟨_, he, rfl⟩
  unfold pyNext
  refine wpAny_bind (wpAny_attempt (wpAny_callSpecial?_slot (name := Str.ofString "__next__") hT F.slot_enumerate_next (wpAny_call_entry F.slot_enumerate_next hT F.entry_enumerate_next ?_ (F.args_enumerate_next_1 _))))
  show wpAny _ _ (field (.ref e) 2 >>= _) _ _ _
  refine wpAny_bind (wpAny_field he rfl (x := .ref it) rfl ?_)
  refine wpAny_bind (hn _ _ fun h' tk x hx q => ?_)
  obtain ⟨o, ho, hc⟩ := hx
  refine wpAny_bind (wpAny_isInstance (T := "StopIteration") (b := true) ⟨o, ho, hc⟩ isSubtype_stop ?_)
  exact wpAny_pure q
end
/-- the pairs of two texts, each with its number -/
def ItezS (x y : Str) : It :=
  ⟨fun i _ => i < x.cps.size ∧ i < y.cps.size,
    fun i H v H' => ∃ T T2 c1 c2, v = .ref T2 ∧ H T = none ∧ H T2 = none ∧ T ≠ T2 ∧ H' = upd (upd H T (.tup [.str ⟨#[c1]⟩, .str ⟨#[c2]⟩])) T2 (.tup [.int (i : Nat), .ref T]) ∧ x.cps[i]? = some c1 ∧ y.cps[i]? = some c2,
    fun i _ => i ≤ x.cps.size ∧ i ≤ y.cps.size ∧ (i = x.cps.size ∨ i = y.cps.size)⟩
theorem sub4 {e z TI TO i1 i2 c : Addr} (h : c ∈ [z, TO, i1, i2]) : c ∈ [e, z, TI, TO, i1, i2] := by
  simp only [List.mem_cons, List.not_mem_nil, or_false] at h
  rcases h with q | q | q | q <;> simp [q]
structure EzSt (x y : Str) (t1 t2 : Tok) (e z TI TO i1 i2 : Addr) (i : Nat) (h : Heap) : Prop where
  en : ∃ old, IsEnum h e z ((i : Nat) : Int) old
  zs : ZS h z TI TO
  ti : IsTupOf2 h TI (.ref i1) (.ref i2)
  to : ∃ a b, IsTupOf2 h TO a b
  s1 : h.IsStrIter i1 (strIterType x) x t1 i
  s2 : h.IsStrIter i2 (strIterType y) y t2 i
theorem turn_enumZipS {P : Program} {w : World} {K : PySem.W.Frag} {elts : List Expr} {kk : Nat} {tpos : Pos} {x y : Str} {t1 t2 : Tok} {e z TI TO i1 i2 : Addr} (D : ZipSep2 z TI TO i1 i2 [i1] [i2]) (hne : e ∉ [z, TI, TO, i1, i2]) :
    Turn P w K (.Tuple elts kk tpos) (ItezS x y) [e, z, TI, TO, i1, i2] e (EzSt x y t1 t2 e z TI TO i1 i2) where
  mem := by simp
  obj := fun i h st c hc => by
    obtain ⟨⟨old, he⟩, ⟨f0, f, _, hz⟩, hTI, ⟨a, b, hTO⟩, ⟨o1, e1, _, d1⟩, ⟨o2, e2, _, d2⟩⟩ := st
    have e' : c = e ∨ c = z ∨ c = TI ∨ c = TO ∨ c = i1 ∨ c = i2 := by simpa using hc
    rcases e' with q | q | q | q | q | q
    · rw [q]; exact ⟨_, he, fun v q => nomatch q⟩
    · rw [q]; exact ⟨_, hz, fun v q => nomatch q⟩
    · rw [q]; exact ⟨_, hTI, fun v q => nomatch q⟩
    · rw [q]; exact ⟨_, hTO, fun v q => nomatch q⟩
    · rw [q]; exact ⟨o1, e1, fun v q => by rw [d1] at q; cases q⟩
    · rw [q]; exact ⟨o2, e2, fun v q => by rw [d2] at q; cases q⟩
  keep := fun i h h' st k => by
    obtain ⟨⟨old, he⟩, ⟨f0, f, h0, hz⟩, hTI, ⟨a, b, hTO⟩, ⟨o1, e1, r1⟩, ⟨o2, e2, r2⟩⟩ := st
    exact ⟨⟨old, k e (by simp) _ he⟩, ⟨f0, f, h0, k z (by simp) _ hz⟩, k TI (by simp) _ hTI, ⟨a, b, k TO (by simp) _ hTO⟩, ⟨o1, k i1 (by simp) o1 e1, r1⟩, ⟨o2, k i2 (by simp) o2 e2, r2⟩⟩
  item := by
    intro X hP hw hK hc i pins s σ H E I hf st hg
    subst hP hw hK
    obtain ⟨⟨old, he⟩, hz, hTI, ⟨a, b, hTO⟩, h1, h2⟩ := st
    obtain ⟨hg1, hg2⟩ := hg
    simp only [List.mem_cons, List.not_mem_nil, or_false, not_or] at hne
    obtain ⟨ez, eTI, eTO, ei1, ei2⟩ := hne
    have D1 := Draws.text (prog := X.prog) (w := X.w) (A := X.A.in1.in1) (I.ok.hd hc) i1 x t1
    have D2 := Draws.text (prog := X.prog) (w := X.w) (A := X.A.in1.in1) (I.ok.hd hc) i2 y t2
    have hfp : ∀ c ∈ [e, z, TI, TO, i1, i2], c < s.heap.objs.size := fun c hcm => by
      have e' : c = e ∨ c = z ∨ c = TI ∨ c = TO ∨ c = i1 ∨ c = i2 := by simpa using hcm
      rcases e' with q | q | q | q | q | q
      · rw [q]; exact Heap.lt_size he
      · rw [q]; obtain ⟨_, _, _, z0⟩ := hz; exact Heap.lt_size z0
      · rw [q]; exact Heap.lt_size hTI
      · rw [q]; exact Heap.lt_size hTO
      · rw [q]; obtain ⟨_, e1, _⟩ := h1; exact Heap.lt_size e1
      · rw [q]; obtain ⟨_, e2, _⟩ := h2; exact Heap.lt_size e2
    have hTz : s.TypeIs (.ref z) "zip" := by obtain ⟨_, _, _, z0⟩ := hz; exact ⟨_, z0, rfl⟩
    refine enum_over he fun E' => ?_
    unfold Builtin.SmallTypes.nextOf
    refine wpAny_bind (wpAny_callSpecial?_slot (name := Str.ofString "__next__") hTz F.slot_zip_next (wpAny_call_entry F.slot_zip_next hTz F.entry_zip_next ?_ (F.args_zip_next_1 _)))
    refine zs_item D D1 D2 hz hTI hTO h1 h2 hg1 hg2 fun u1 u2 k tk p1 p2 z' TO' h1' h2' hT hsz hk => wpAny_pure ?_
    obtain ⟨c1, tu, hc1, rfl⟩ := p1
    obtain ⟨c2, tu2, hc2, rfl⟩ := p2
    have ek : IsEnum k e z ((i : Nat) : Int) old := hk e _ (by simp [ez, eTO, ei1, ei2]) he
    refine ⟨ek, fun h' ho hT2 hsz2 hk2 => ?_⟩
    refine ⟨_, rfl, wpAny_letOwnedTupleGo_enum (s := { s with heap := h', toks := tk + 1 }) ho fun h'' he'' sb => ?_⟩
    replace hT2 : h'.get? k.objs.size = some { cls := .type "tuple", data := .seq #[.int ((i : Nat) : Int) tk, .ref s.heap.objs.size] } := hT2
    replace hk2 : ∀ b o, b ≠ e → k.get? b = some o → h'.get? b = some o := hk2
    replace sb : Heap.SameBut e h' h'' := sb
    have hk3 : ∀ b o, b ≠ e → k.get? b = some o → h''.get? b = some o := fun b o be q => sb.extBut b o be (hk2 b o be q)
    have ekl : e < k.objs.size := Heap.lt_size ek
    have el : e < s.heap.objs.size := Heap.lt_size he
    have n1 : ObjOk X.prog X.w (upd H s.heap.objs.size (.tup [.str ⟨#[c1]⟩, .str ⟨#[c2]⟩])) k s.heap.objs.size (.tup [.str ⟨#[c1]⟩, .str ⟨#[c2]⟩]) :=
      ⟨by show 2 ≤ sizeLine; decide, [.str ⟨#[c1]⟩ tu, .str ⟨#[c2]⟩ tu2], .cons ⟨_, rfl⟩ (.cons ⟨_, rfl⟩ .nil), ⟨_, hT, rfl, _, rfl⟩⟩
    have I1 : Inv X pins σ (upd H s.heap.objs.size (.tup [.str ⟨#[c1]⟩, .str ⟨#[c2]⟩])) { s with heap := k, toks := tk } :=
      I.turnedNew (t' := tk) (ch := [z, TO, i1, i2]) (fun c o hb q => hk c o hb q) (fun c hb => hf c (sub4 hb)) (Nat.le_refl _) n1
    have hT3 : h''.get? k.objs.size = some { cls := .type "tuple", data := .seq #[.int ((i : Nat) : Int) tk, .ref s.heap.objs.size] } := sb.extBut _ _ (Nat.ne_of_gt ekl) hT2
    have n2 : ObjOk X.prog X.w (upd (upd H s.heap.objs.size (.tup [.str ⟨#[c1]⟩, .str ⟨#[c2]⟩])) k.objs.size (.tup [.int (i : Nat), .ref s.heap.objs.size])) h'' k.objs.size (.tup [.int (i : Nat), .ref s.heap.objs.size]) :=
      ⟨by show 2 ≤ sizeLine; decide, [.int ((i : Nat) : Int) tk, .ref s.heap.objs.size], .cons ⟨_, rfl⟩ (.cons rfl .nil), ⟨_, hT3, rfl, _, rfl⟩⟩
    have fe : FpOk X pins (upd H s.heap.objs.size (.tup [.str ⟨#[c1]⟩, .str ⟨#[c2]⟩])) e := by
      obtain ⟨q0, q⟩ := hf e (by simp)
      exact ⟨by rw [upd_ne (Nat.ne_of_lt el)]; exact q0, q⟩
    have I2 : Inv X pins σ (upd (upd H s.heap.objs.size (.tup [.str ⟨#[c1]⟩, .str ⟨#[c2]⟩])) k.objs.size (.tup [.int (i : Nat), .ref s.heap.objs.size])) { s with heap := h'', toks := tk + 1 } :=
      I1.turnedNew (t' := tk + 1) (ch := [e]) (fun c o hb q => hk3 c o (by simpa using hb) q) (fun c hb => by rw [List.mem_singleton.mp hb]; exact fe) (Nat.le_refl _) n2
    refine ⟨.ref k.objs.size, _, I2, rfl, ⟨s.heap.objs.size, k.objs.size, c1, c2, rfl, I.hok.fresh (Nat.le_refl _), I.hok.fresh (by rw [hsz]; exact Nat.le_succ _), by rw [hsz]; exact (Nat.succ_ne_self _).symm, rfl, hc1, hc2⟩, ⟨⟨.ref s.heap.objs.size, ?_⟩, ?_, ?_, ?_, ?_, ?_⟩, fun c hcm => ?_⟩
    · have e1 : ((i + 1 : Nat) : Int) = (i : Int) + 1 := by omega
      rw [e1]; exact he''
    · obtain ⟨f0, f, h0, z0⟩ := z'
      exact ⟨f0, f, h0, hk3 _ _ (Ne.symm ez) z0⟩
    · refine hk3 _ _ (Ne.symm eTI) (hk _ _ ?_ hTI)
      simp [D.TIz, D.TITO, D.TIi1, D.TIi2]
    · obtain ⟨b1, b2, q⟩ := TO'
      exact ⟨b1, b2, hk3 _ _ (Ne.symm eTO) q⟩
    · obtain ⟨o1, e1, r1⟩ := h1'
      exact ⟨o1, hk3 _ _ (Ne.symm ei1) e1, r1⟩
    · obtain ⟨o2, e2, r2⟩ := h2'
      exact ⟨o2, hk3 _ _ (Ne.symm ei2) e2, r2⟩
    · have hlt := hfp c hcm
      rw [upd_ne (by rw [hsz]; exact Nat.ne_of_lt (Nat.lt_succ_of_lt hlt)), upd_ne (Nat.ne_of_lt hlt)]
      exact (hf c hcm).1
  done := by
    intro X hP hw hK hc i pins s σ H E I hf st hg
    subst hP hw hK
    obtain ⟨⟨old, he⟩, hz, hTI, ⟨a, b, hTO⟩, h1, h2⟩ := st
    obtain ⟨l1, l2, hend⟩ := hg
    have D1 := Draws.text (prog := X.prog) (w := X.w) (A := X.A.in1.in1) (I.ok.hd hc) i1 x t1
    have D2 := Draws.text (prog := X.prog) (w := X.w) (A := X.A.in1.in1) (I.ok.hd hc) i2 y t2
    have hTz : s.TypeIs (.ref z) "zip" := by obtain ⟨_, _, _, z0⟩ := hz; exact ⟨_, z0, rfl⟩
    refine enum_over_end he fun Q' E' hE => ?_
    unfold Builtin.SmallTypes.nextOf
    refine wpAny_bind (wpAny_callSpecial?_slot (name := Str.ofString "__next__") hTz F.slot_zip_next (wpAny_call_entry F.slot_zip_next hTz F.entry_zip_next ?_ (F.args_zip_next_1 _)))
    refine zs_end D D1 D2 hz hTI hTO h1 h2 l1 l2 hend fun k tk r hk hr => ?_
    exact hE k tk r hr ⟨rfl, I.turnedL (t' := tk) (ch := [z, TO, i1, i2]) (fun c o hb q => hk c o hb q) (fun c hb => hf c (sub4 hb))⟩
  self := fun A i s Q E st h => let ⟨_, q⟩ := st.en; wpAny_pyIter_enum q h
/-- enumerate(zip(text, text)) -/
def iEnumZipS (ta : TA) : TI := fun σ H R => ta σ H fun vs H1 => ∃ x y, vs = [.str x, .str y] ∧ R (ItezS x y) H1
set_option maxHeartbeats 1000000 in
theorem meets_enumerate_newZ (z TI TO : Addr) :
    Meets (Builtin.«enumerate.__new__» ⟨[.type "enumerate", .ref z], []⟩) (fun _ R s => IsZip s.heap z TI TO .none ∧
      R (.ok (.ret (.ref s.heap.objs.size))) { s with heap := s.heap.push { cls := .type "enumerate", data := .fields #[.none, .bool false, .ref z, rawInt 0, .none, .none] } }) :=
  .of_wp fun prog w A R s h => by
    obtain ⟨hp, g, d, tk, os⟩ := s; obtain ⟨hz, h⟩ := h
    have hsub := sub_enumerate
    have q1 : ∀ {A' : Around} {E : Value → Shared → Prop} {Q : Value → Shared → Prop}, Q (.ref z) ⟨hp, g, d, tk, os⟩ → wpAny (model prog w) A' (pyIter (.ref z)) Q E ⟨hp, g, d, tk, os⟩ := fun q => wpAny_pyIter_zip hz q
    wp_walk using q1
    refine wpAny_stack_any fun st => wpAny_pure ?_
    split
    · rename_i c _ _ _ _ _
      cases (c == Value.type "enumerate") <;> (wp_walk using q1; exact ⟨_, rfl, h⟩)
    · wp_walk using q1
      exact ⟨_, rfl, h⟩
theorem call_enumerate_zip {prog : Program} {w : World} {A : Around} {E : Value → Shared → Prop} {s : Shared} {z TI TO : Addr} {Q : Value → Shared → Prop} (hz : IsZip s.heap z TI TO .none)
    (h : ∀ h', IsEnum h' s.heap.objs.size z 0 .none → (∀ b o, s.heap.get? b = some o → h'.get? b = some o) → Q (.ref s.heap.objs.size) { s with heap := h' }) :
    wpAny (model prog w) A (call (.type "enumerate") [.ref z]) Q E s := by
  refine callType_new F.called_enumerate (by decide) (F.typeCall_enumerate_1 _) (F.newCall_enumerate_1 _) (fun obj => F.args_object_init_2 obj _) F.entry_enumerate_new (meets_enumerate_newZ z TI TO) ⟨hz, ?_⟩
  have he : IsEnum (s.heap.push { cls := .type "enumerate", data := .fields #[.none, .bool false, .ref z, rawInt 0, .none, .none] }) s.heap.objs.size z 0 .none := Heap.get?_push_size _ rfl
  exact ⟨⟨_, he, rfl⟩, h _ he fun b o x => Heap.get?_push_of_some _ x⟩
theorem pi_enumZipS {X : Cx} {e e2 : Expr} {ta : TA} {p p0 pos zpos tpos : Pos} {elts : List Expr} {kk : Nat} (hg0 : Gl X "enumerate") (hm0 : X.mg "enumerate" = none) (hg : Gl X "zip") (hm : X.mg "zip" = none) (ha : PA X [e, e2] ta)
    (hs0 : starEach [.Call (.Name "zip" p) [e, e2] [] zpos] X.env = [(false, eval (.Call (.Name "zip" p) [e, e2] [] zpos) X.env)] := by rfl)
    (hs : starEach [e, e2] X.env = (false, eval e X.env) :: starEach [e2] X.env := by rfl) (hpl : (backTo zpos (starEach [e2] X.env)).any (·.1) = false := by rfl) :
    PI X (.Tuple elts kk tpos) (.Call (.Name "enumerate" p0) [.Call (.Name "zip" p) [e, e2] [] zpos] [] pos) (iEnumZipS ta) := by
  refine ⟨fun pins s σ H R I h => ?_⟩
  refine Call_ (ld_blt I hg0 hm0 boot_enumerate (PyProof.Rows.callWith_type1 ?_ hs0 rfl))
  rw [hs0]
  show wpAny _ _ (spliced ((false, eval (.Call (.Name "zip" p) [e, e2] [] zpos) X.env) :: [])) _ _ s
  refine Calls.spliced_cons ?_
  refine Call_ (ld_blt I hg hm PyProof.Rows.boot_zip (PyProof.Rows.callWith_type1 (thn (ha.run zpos pins s σ H _ I h) fun us s1 ⟨vs, H1, I1, r1, q1⟩ => ?_) hs hpl))
  obtain ⟨x, y, ex, q⟩ := q1
  subst ex
  cases r1 with
  | cons r rr =>
    cases rr with
    | cons r' rr =>
      cases rr
      obtain ⟨t1, rfl⟩ := r
      obtain ⟨t2, rfl⟩ := r'
      refine zip_begins2 (begins_text x t1) (begins_text y t2) trivial trivial fun k hz hTI hTO h1 h2 hsz hk => Calls.spliced_nil ?_
      refine call_enumerate_zip (s := { s1 with heap := k }) hz fun h' he hk2 => wpAny_pyIter_enum he ?_
      replace hk2 : ∀ b o, k.get? b = some o → h'.get? b = some o := hk2
      have I2 : Inv X pins σ H1 { s1 with heap := h' } := I1.kept (t' := s1.toks) fun b o q => hk2 b o (hk b o q)
      have D : ZipSep2 (s1.heap.objs.size + 4) (s1.heap.objs.size + 2) (s1.heap.objs.size + 3) s1.heap.objs.size (s1.heap.objs.size + 1) [s1.heap.objs.size] [s1.heap.objs.size + 1] := by
        constructor <;> simp
      replace he : IsEnum h' (s1.heap.objs.size + 5) (s1.heap.objs.size + 4) 0 .none := hsz ▸ he
      show PIE _ _ _ _ _ (.ref k.objs.size) _
      rw [hsz]
      refine ⟨s1.heap.objs.size + 5, [s1.heap.objs.size + 5, s1.heap.objs.size + 4, s1.heap.objs.size + 2, s1.heap.objs.size + 3, s1.heap.objs.size, s1.heap.objs.size + 1], _, _, H1, rfl, I2, turn_enumZipS D (by simp), ⟨⟨_, he⟩, ⟨.none, false, .inl rfl, hk2 _ _ hz⟩, hk2 _ _ hTI, ⟨_, _, hk2 _ _ hTO⟩, ⟨_, hk2 _ _ h1, rfl, rfl⟩, ⟨_, hk2 _ _ h2, rfl, rfl⟩⟩, fun c hcm => ?_, q⟩
      have hle : s1.heap.objs.size ≤ c := by
        simp only [List.mem_cons, List.not_mem_nil, or_false] at hcm
        rcases hcm with z | z | z | z | z | z <;> rw [z] <;> first | exact Nat.le_refl _ | exact Nat.le_add_right _ _
      exact I1.fpOk hle (I1.hok.fresh hle)
end S

namespace S
open PySem L2
/-! ### things that may be written: trees of lists, dicts and instances, each owned once; d: data that never changes again -/
inductive T where
  | d (x : PyData)
  | lst (xs : List T)
  | dct (kvs : List (Key × T))
  | dtp (kvs : List (List Key × T))
  | obj (C : Addr) (fs : List (Str × T))
mutual
def T.data : T → PyData
  | .d x => x
  | .lst xs => .list (T.dataL xs)
  | .dct kvs => .dict (T.dataK kvs)
  | .dtp kvs => dTup (T.dataKt kvs)
  | .obj C fs => dObj C (T.dataF fs)
def T.dataL : List T → List PyData
  | [] => []
  | t :: ts => t.data :: T.dataL ts
def T.dataK : List (Key × T) → List (PyData × PyData)
  | [] => []
  | (k, t) :: ts => (keyD k, t.data) :: T.dataK ts
def T.dataKt : List (List Key × T) → List (PyData × PyData)
  | [] => []
  | (k, t) :: ts => (.tuple (k.map keyD), t.data) :: T.dataKt ts
def T.dataF : List (Str × T) → List (PyData × PyData)
  | [] => []
  | (k, t) :: ts => (.str k, t.data) :: T.dataF ts
end
mutual
inductive Ow (K : PySem.W.Frag) (G H : Hp) : V → T → List Addr → Prop
  | d {v : V} {x : PyData} : Dt K G v x → Ow K G H v (.d x) []
  | lst {a : Addr} {vs : List V} {ts : List T} {F : List Addr} : H a = some (.lst vs) → OwAll K G H vs ts F → Ow K G H (.ref a) (.lst ts) (a :: F)
  | dct {a : Addr} {vs : List (Key × V)} {ts : List (Key × T)} {F : List Addr} : H a = some (.dK vs) → OwK K G H vs ts F → Ow K G H (.ref a) (.dct ts) (a :: F)
  | dtp {a : Addr} {vs : List (List Key × V)} {ts : List (List Key × T)} {F : List Addr} : H a = some (.dT vs) → OwKt K G H vs ts F → Ow K G H (.ref a) (.dtp ts) (a :: F)
  | obj {a C dx : Addr} {vs : List (Str × V)} {ts : List (Str × T)} {F : List Addr} : H a = some (.ins C dx vs) → OwF K G H vs ts F → Ow K G H (.ref a) (.obj C ts) (a :: F)
inductive OwAll (K : PySem.W.Frag) (G H : Hp) : List V → List T → List Addr → Prop
  | nil : OwAll K G H [] [] []
  | cons {v : V} {vs : List V} {t : T} {ts : List T} {F F' : List Addr} : Ow K G H v t F → OwAll K G H vs ts F' → OwAll K G H (v :: vs) (t :: ts) (F ++ F')
inductive OwK (K : PySem.W.Frag) (G H : Hp) : List (Key × V) → List (Key × T) → List Addr → Prop
  | nil : OwK K G H [] [] []
  | cons {k : Key} {v : V} {vs : List (Key × V)} {t : T} {ts : List (Key × T)} {F F' : List Addr} : Ow K G H v t F → OwK K G H vs ts F' → OwK K G H ((k, v) :: vs) ((k, t) :: ts) (F ++ F')
inductive OwKt (K : PySem.W.Frag) (G H : Hp) : List (List Key × V) → List (List Key × T) → List Addr → Prop
  | nil : OwKt K G H [] [] []
  | cons {k : List Key} {v : V} {vs : List (List Key × V)} {t : T} {ts : List (List Key × T)} {F F' : List Addr} : Ow K G H v t F → OwKt K G H vs ts F' → OwKt K G H ((k, v) :: vs) ((k, t) :: ts) (F ++ F')
inductive OwF (K : PySem.W.Frag) (G H : Hp) : List (Str × V) → List (Str × T) → List Addr → Prop
  | nil : OwF K G H [] [] []
  | cons {k : Str} {v : V} {vs : List (Str × V)} {t : T} {ts : List (Str × T)} {F F' : List Addr} : Ow K G H v t F → OwF K G H vs ts F' → OwF K G H ((k, v) :: vs) ((k, t) :: ts) (F ++ F')
end
section
variable {K : PySem.W.Frag} {G G' H H' : Hp}
mutual
theorem Ow.keep (g : Same G G') : ∀ {v : V} {t : T} {F : List Addr}, Ow K G H v t F → (∀ a ∈ F, H' a = H a) → Ow K G' H' v t F
  | _, _, _, .d h, _ => .d (same_dt g h)
  | _, _, _, .lst h hs, k => .lst ((k _ (by simp)).trans h) (hs.keep g fun a m => k a (by simp [m]))
  | _, _, _, .dct h hs, k => .dct ((k _ (by simp)).trans h) (hs.keep g fun a m => k a (by simp [m]))
  | _, _, _, .dtp h hs, k => .dtp ((k _ (by simp)).trans h) (hs.keep g fun a m => k a (by simp [m]))
  | _, _, _, .obj h hs, k => .obj ((k _ (by simp)).trans h) (hs.keep g fun a m => k a (by simp [m]))
theorem OwAll.keep (g : Same G G') : ∀ {v : List V} {t : List T} {F : List Addr}, OwAll K G H v t F → (∀ a ∈ F, H' a = H a) → OwAll K G' H' v t F
  | _, _, _, .nil, _ => .nil
  | _, _, _, .cons h hs, k => .cons (h.keep g fun a m => k a (by simp [m])) (hs.keep g fun a m => k a (by simp [m]))
theorem OwK.keep (g : Same G G') : ∀ {v : List (Key × V)} {t : List (Key × T)} {F : List Addr}, OwK K G H v t F → (∀ a ∈ F, H' a = H a) → OwK K G' H' v t F
  | _, _, _, .nil, _ => .nil
  | _, _, _, .cons h hs, k => .cons (h.keep g fun a m => k a (by simp [m])) (hs.keep g fun a m => k a (by simp [m]))
theorem OwKt.keep (g : Same G G') : ∀ {v : List (List Key × V)} {t : List (List Key × T)} {F : List Addr}, OwKt K G H v t F → (∀ a ∈ F, H' a = H a) → OwKt K G' H' v t F
  | _, _, _, .nil, _ => .nil
  | _, _, _, .cons h hs, k => .cons (h.keep g fun a m => k a (by simp [m])) (hs.keep g fun a m => k a (by simp [m]))
theorem OwF.keep (g : Same G G') : ∀ {v : List (Str × V)} {t : List (Str × T)} {F : List Addr}, OwF K G H v t F → (∀ a ∈ F, H' a = H a) → OwF K G' H' v t F
  | _, _, _, .nil, _ => .nil
  | _, _, _, .cons h hs, k => .cons (h.keep g fun a m => k a (by simp [m])) (hs.keep g fun a m => k a (by simp [m]))
end
mutual
theorem Ow.trk : ∀ {v : V} {t : T} {F : List Addr}, Ow K G H v t F → ∀ a ∈ F, ∃ o, H a = some o ∧ isTupO o = false
  | _, _, _, .d _, _, m => by simp at m
  | _, _, _, .lst h hs, a, m => by
    rcases List.mem_cons.mp m with rfl | m
    · exact ⟨_, h, rfl⟩
    · exact hs.trk a m
  | _, _, _, .dct h hs, a, m => by
    rcases List.mem_cons.mp m with rfl | m
    · exact ⟨_, h, rfl⟩
    · exact hs.trk a m
  | _, _, _, .dtp h hs, a, m => by
    rcases List.mem_cons.mp m with rfl | m
    · exact ⟨_, h, rfl⟩
    · exact hs.trk a m
  | _, _, _, .obj h hs, a, m => by
    rcases List.mem_cons.mp m with rfl | m
    · exact ⟨_, h, rfl⟩
    · exact hs.trk a m
theorem OwAll.trk : ∀ {v : List V} {t : List T} {F : List Addr}, OwAll K G H v t F → ∀ a ∈ F, ∃ o, H a = some o ∧ isTupO o = false
  | _, _, _, .nil, _, m => by simp at m
  | _, _, _, .cons h hs, a, m => (List.mem_append.mp m).elim (h.trk a) (hs.trk a)
theorem OwK.trk : ∀ {v : List (Key × V)} {t : List (Key × T)} {F : List Addr}, OwK K G H v t F → ∀ a ∈ F, ∃ o, H a = some o ∧ isTupO o = false
  | _, _, _, .nil, _, m => by simp at m
  | _, _, _, .cons h hs, a, m => (List.mem_append.mp m).elim (h.trk a) (hs.trk a)
theorem OwKt.trk : ∀ {v : List (List Key × V)} {t : List (List Key × T)} {F : List Addr}, OwKt K G H v t F → ∀ a ∈ F, ∃ o, H a = some o ∧ isTupO o = false
  | _, _, _, .nil, _, m => by simp at m
  | _, _, _, .cons h hs, a, m => (List.mem_append.mp m).elim (h.trk a) (hs.trk a)
theorem OwF.trk : ∀ {v : List (Str × V)} {t : List (Str × T)} {F : List Addr}, OwF K G H v t F → ∀ a ∈ F, ∃ o, H a = some o ∧ isTupO o = false
  | _, _, _, .nil, _, m => by simp at m
  | _, _, _, .cons h hs, a, m => (List.mem_append.mp m).elim (h.trk a) (hs.trk a)
end
-- the data of it, by any heap that has all of it
mutual
theorem Ow.dt (g : Same G G') : ∀ {v : V} {t : T} {F : List Addr}, Ow K G H v t F → (∀ a ∈ F, G' a = H a) → Dt K G' v t.data
  | _, _, _, .d h, _ => same_dt g h
  | _, _, _, .lst h hs, k => .lst ((k _ (by simp)).trans h) (hs.dt g fun a m => k a (by simp [m]))
  | _, _, _, .dct h hs, k => .dct ((k _ (by simp)).trans h) (hs.dt g fun a m => k a (by simp [m]))
  | _, _, _, .dtp h hs, k => .dtp ((k _ (by simp)).trans h) (hs.dt g fun a m => k a (by simp [m]))
  | _, _, _, .obj h hs, k => .obj ((k _ (by simp)).trans h) (hs.dt g fun a m => k a (by simp [m]))
theorem OwAll.dt (g : Same G G') : ∀ {v : List V} {t : List T} {F : List Addr}, OwAll K G H v t F → (∀ a ∈ F, G' a = H a) → DtAll K G' v (T.dataL t)
  | _, _, _, .nil, _ => .nil
  | _, _, _, .cons h hs, k => .cons (h.dt g fun a m => k a (by simp [m])) (hs.dt g fun a m => k a (by simp [m]))
theorem OwK.dt (g : Same G G') : ∀ {v : List (Key × V)} {t : List (Key × T)} {F : List Addr}, OwK K G H v t F → (∀ a ∈ F, G' a = H a) → DtKvs K G' v (T.dataK t)
  | _, _, _, .nil, _ => .nil
  | _, _, _, .cons h hs, k => .cons (h.dt g fun a m => k a (by simp [m])) (hs.dt g fun a m => k a (by simp [m]))
theorem OwKt.dt (g : Same G G') : ∀ {v : List (List Key × V)} {t : List (List Key × T)} {F : List Addr}, OwKt K G H v t F → (∀ a ∈ F, G' a = H a) → DtKts K G' v (T.dataKt t)
  | _, _, _, .nil, _ => .nil
  | _, _, _, .cons h hs, k => .cons (h.dt g fun a m => k a (by simp [m])) (hs.dt g fun a m => k a (by simp [m]))
theorem OwF.dt (g : Same G G') : ∀ {v : List (Str × V)} {t : List (Str × T)} {F : List Addr}, OwF K G H v t F → (∀ a ∈ F, G' a = H a) → DtFs K G' v (T.dataF t)
  | _, _, _, .nil, _ => .nil
  | _, _, _, .cons h hs, k => .cons (h.dt g fun a m => k a (by simp [m])) (hs.dt g fun a m => k a (by simp [m]))
end
end
/-! ### slots -/
abbrev Sg := List (Option T)
inductive Sl (K : PySem.W.Frag) (G H : Hp) : L2.St → Sg → List Addr → Prop
  | nil : Sl K G H [] [] []
  | no {v : Option V} {σ : L2.St} {s : Sg} {F : List Addr} : Sl K G H σ s F → Sl K G H (v :: σ) (none :: s) F
  | yes {v : V} {t : T} {σ : L2.St} {s : Sg} {F F' : List Addr} : Ow K G H v t F → Sl K G H σ s F' → Sl K G H (some v :: σ) (some t :: s) (F ++ F')
section
variable {K : PySem.W.Frag} {G G' H H' : Hp}
theorem Sl.keep (g : Same G G') : ∀ {σ : L2.St} {s : Sg} {F : List Addr}, Sl K G H σ s F → (∀ a ∈ F, H' a = H a) → Sl K G' H' σ s F
  | _, _, _, .nil, _ => .nil
  | _, _, _, .no h, k => .no (h.keep g k)
  | _, _, _, .yes h hs, k => .yes (h.keep g fun a m => k a (by simp [m])) (hs.keep g fun a m => k a (by simp [m]))
theorem Sl.trk : ∀ {σ : L2.St} {s : Sg} {F : List Addr}, Sl K G H σ s F → ∀ a ∈ F, ∃ o, H a = some o ∧ isTupO o = false
  | _, _, _, .nil, _, m => by simp at m
  | _, _, _, .no h, a, m => h.trk a m
  | _, _, _, .yes h hs, a, m => (List.mem_append.mp m).elim (h.trk a) (hs.trk a)
theorem Sl.len : ∀ {σ : L2.St} {s : Sg} {F : List Addr}, Sl K G H σ s F → σ.length = s.length
  | _, _, _, .nil => rfl
  | _, _, _, .no h => by simp [h.len]
  | _, _, _, .yes _ h => by simp [h.len]
/-- a slot, and the rest -/
theorem Sl.at : ∀ {σ : L2.St} {s : Sg} {F : List Addr} {i : Nat} {t : T}, Sl K G H σ s F → s[i]? = some (some t) → ∃ v F1 F2, σ[i]? = some (some v) ∧ Ow K G H v t F1 ∧ Sl K G H σ (s.set i none) F2 ∧ F.Perm (F1 ++ F2)
  | _, _, _, _, _, .nil, e => by simp at e
  | _, _, _, 0, _, .no h, e => by simp at e
  | _, _, _, i + 1, _, .no h, e => by
    obtain ⟨v, F1, F2, a, b, c, p⟩ := h.at (i := i) (by simpa using e)
    exact ⟨v, F1, F2, by simpa using a, b, .no c, p⟩
  | _, _, _, 0, _, .yes h hs, e => by
    simp only [List.getElem?_cons_zero, Option.some.injEq] at e
    subst e
    exact ⟨_, _, _, rfl, h, .no hs, .refl _⟩
  | _, _, _, i + 1, _, .yes (F := Fa) h hs, e => by
    obtain ⟨v, F1, F2, a, b, c, p⟩ := hs.at (i := i) (by simpa using e)
    refine ⟨v, F1, Fa ++ F2, by simpa using a, b, .yes h c, ?_⟩
    have q := List.Perm.append_left Fa p
    refine q.trans ?_
    rw [← List.append_assoc, ← List.append_assoc]
    exact List.Perm.append_right F2 List.perm_append_comm
/-- a slot is filled -/
theorem Sl.fill : ∀ {σ : L2.St} {s : Sg} {F : List Addr} {i : Nat} {t : T} {v : V} {F1 : List Addr}, Sl K G H σ s F → s[i]? = some none → σ[i]? = some (some v) → Ow K G H v t F1 → ∃ F2, Sl K G H σ (s.set i (some t)) F2 ∧ F2.Perm (F1 ++ F)
  | _, _, _, _, _, _, _, .nil, e, _, _ => by simp at e
  | _, _, _, 0, _, _, _, .no h, _, ev, o => by
    simp only [List.getElem?_cons_zero, Option.some.injEq] at ev
    subst ev
    exact ⟨_, .yes o h, .refl _⟩
  | _, _, _, i + 1, _, _, _, .no h, e, ev, o => by
    obtain ⟨F2, a, p⟩ := h.fill (i := i) (by simpa using e) (by simpa using ev) o
    exact ⟨F2, .no a, p⟩
  | _, _, _, 0, _, _, _, .yes h hs, e, _, _ => by simp at e
  | _, _, _, i + 1, _, _, F1, .yes (F := Fa) (F' := Fb) h hs, e, ev, o => by
    obtain ⟨F2, a, p⟩ := hs.fill (i := i) (by simpa using e) (by simpa using ev) o
    refine ⟨Fa ++ F2, .yes h a, ?_⟩
    refine (List.Perm.append_left Fa p).trans ?_
    rw [← List.append_assoc, ← List.append_assoc]
    exact List.Perm.append_right Fb List.perm_append_comm
/-- a slot is forgotten, or written while it is forgotten -/
theorem Sl.drop : ∀ {σ : L2.St} {s : Sg} {F : List Addr} (i : Nat) (v : Option V), Sl K G H σ s F → ∃ F2 F3, Sl K G H (σ.set i v) (s.set i none) F2 ∧ F.Perm (F3 ++ F2)
  | _, _, _, _, _, .nil => ⟨[], [], .nil, .refl _⟩
  | _, _, _, 0, _, .no h => ⟨_, [], .no h, .refl _⟩
  | _, _, _, i + 1, v, .no h => by
    obtain ⟨F2, F3, a, p⟩ := h.drop i v
    exact ⟨F2, F3, .no a, p⟩
  | _, _, _, 0, _, .yes (F := Fa) h hs => ⟨_, Fa, .no hs, .refl _⟩
  | _, _, _, i + 1, v, .yes (F := Fa) (F' := Fb) h hs => by
    obtain ⟨F2, F3, a, p⟩ := hs.drop i v
    refine ⟨Fa ++ F2, F3, .yes h a, ?_⟩
    refine (List.Perm.append_left Fa p).trans ?_
    rw [← List.append_assoc, ← List.append_assoc]
    exact List.Perm.append_right F2 List.perm_append_comm
end
/-! ### the state: slots, temporaries, and all addresses that are owned -/
structure RS (K : PySem.W.Frag) (G H : Hp) (σ : L2.St) (s : Sg) (vs : List V) (ts : List T) (F : Addr → Prop) : Prop where
  gh : Same G H
  ex : ∃ F1 F2 : List Addr, Sl K G H σ s F1 ∧ OwAll K G H vs ts F2 ∧ (F1 ++ F2).Nodup ∧ (∀ a ∈ F1 ++ F2, G a = none) ∧ ∀ a, F a ↔ a ∈ F1 ++ F2
structure Go (F : Addr → Prop) (G H : Hp) (F' : Addr → Prop) (G' H' : Hp) : Prop where
  gg : Same G G'
  hh : ∀ a o, H a = some o → ¬ F a → H' a = some o
  nw : ∀ a o, G' a = some o → G a = some o ∨ H a = none ∨ F a ∨ (H a = some o ∧ isTupO o = true)
  nf : ∀ a, F' a → F a ∨ H a = none
  dm : ∀ a, H' a = none → H a = none
  tp : ∀ a o, H' a = some o → isTupO o = true → H a = none ∨ H a = some o
section
variable {K : PySem.W.Frag} {G G1 G2 H H1 H2 : Hp} {F F1 F2 : Addr → Prop} {σ : L2.St} {s : Sg} {vs : List V} {ts : List T} {v : V} {t : T}
theorem Go.refl : Go F G H F G H := ⟨Same.refl G, fun _ _ e _ => e, fun _ _ e => .inl e, fun _ e => .inl e, fun _ e => e, fun _ _ e _ => .inr e⟩
theorem Go.trans (a : Go F G H F1 G1 H1) (b : Go F1 G1 H1 F2 G2 H2) : Go F G H F2 G2 H2 := by
  refine ⟨a.gg.trans b.gg, fun x o e n => b.hh x o (a.hh x o e n) fun z => ?_, fun x o e => ?_, fun x z => ?_, fun x e => a.dm x (b.dm x e), fun x o e t => ?_⟩
  · rcases a.nf x z with q | q
    · exact n q
    · rw [e] at q; cases q
  · rcases b.nw x o e with q | q | q | ⟨q, t⟩
    · exact a.nw x o q
    · exact .inr (.inl (a.dm x q))
    · rcases a.nf x q with z | z
      · exact .inr (.inr (.inl z))
      · exact .inr (.inl z)
    · rcases a.tp x o q t with z | z
      · exact .inr (.inl z)
      · exact .inr (.inr (.inr ⟨z, t⟩))
  · rcases b.nf x z with q | q
    · exact a.nf x q
    · exact .inr (a.dm x q)
  · rcases b.tp x o e t with z | z
    · exact .inl (a.dm x z)
    · exact a.tp x o z t
theorem RS.trk (r : RS K G H σ s vs ts F) {a : Addr} (h : F a) : ∃ o, H a = some o ∧ isTupO o = false ∧ G a = none := by
  obtain ⟨F1, F2, h1, h2, nd, hg, hf⟩ := r.ex
  have m := (hf a).mp h
  rcases List.mem_append.mp m with q | q
  · obtain ⟨o, e, n⟩ := h1.trk a q
    exact ⟨o, e, n, hg a m⟩
  · obtain ⟨o, e, n⟩ := h2.trk a q
    exact ⟨o, e, n, hg a m⟩
/-- nothing that is owned changes -/
theorem RS.keep (r : RS K G H σ s vs ts F) (gg : Same G G1) (gh : Same G1 H1) (hh : ∀ a, F a → H1 a = H a) (hg : ∀ a, F a → G1 a = none) : RS K G1 H1 σ s vs ts F := by
  obtain ⟨L1, L2, h1, h2, nd, hn, hf⟩ := r.ex
  refine ⟨gh, L1, L2, h1.keep gg fun a m => hh a ((hf a).mpr (by simp [m])), h2.keep gg fun a m => hh a ((hf a).mpr (by simp [m])), nd, fun a m => hg a ((hf a).mpr m), hf⟩
/-- a pure step -/
theorem RS.ext (r : RS K G H σ s vs ts F) (e : Ext [] G H G1 H1) : RS K G1 H1 σ s vs ts F := by
  refine r.keep e.gg e.gh (fun a h => ?_) fun a h => ?_
  · obtain ⟨o, q, _⟩ := r.trk h
    rw [q]
    exact e.keep q (by simp)
  · obtain ⟨o, q, t, n⟩ := r.trk h
    exact e.free n q t
theorem Go.of (e : Ext [] G H G1 H1) : Go F G H F G1 H1 := ⟨e.gg, fun a o q _ => e.hh a o q (by simp), fun a o q => (e.nw a o q).elim .inl fun z => z.elim (fun z => .inr (.inl z)) fun z => .inr (.inr (.inr z)), fun _ z => .inl z, e.dm, e.tp⟩
/-- data as a temporary -/
theorem RS.push {x : PyData} (r : RS K G H σ s vs ts F) (h : Dt K G v x) : RS K G H σ s (v :: vs) (.d x :: ts) F := by
  obtain ⟨L1, L2, h1, h2, nd, hn, hf⟩ := r.ex
  exact ⟨r.gh, L1, [] ++ L2, h1, .cons (.d h) h2, nd, hn, hf⟩
/-- one that is new -/
theorem RS.pushO {F1 : List Addr} (r : RS K G H σ s vs ts F) (h : Ow K G H v t F1) (nd : F1.Nodup) (hn : ∀ a ∈ F1, ¬ F a) (hg : ∀ a ∈ F1, G a = none) : RS K G H σ s (v :: vs) (t :: ts) (fun a => F a ∨ a ∈ F1) := by
  obtain ⟨L1, L2, h1, h2, nd', hn', hf⟩ := r.ex
  refine ⟨r.gh, L1, F1 ++ L2, h1, .cons h h2, ?_, fun a m => ?_, fun a => ?_⟩
  · have p : (L1 ++ (F1 ++ L2)).Perm (F1 ++ (L1 ++ L2)) := by
      rw [← List.append_assoc, ← List.append_assoc]
      exact List.Perm.append_right L2 List.perm_append_comm
    rw [p.nodup_iff, List.nodup_append]
    exact ⟨nd, nd', fun a m b m' e => hn a m ((hf a).mpr (e ▸ m'))⟩
  · simp only [List.mem_append] at m hn'
    rcases m with m | m | m
    · exact hn' a (.inl m)
    · exact hg a m
    · exact hn' a (.inr m)
  · rw [hf a]; simp only [List.mem_append]
    constructor
    · rintro ((q | q) | q)
      · exact .inl q
      · exact .inr (.inr q)
      · exact .inr (.inl q)
    · rintro (q | q | q)
      · exact .inl (.inl q)
      · exact .inr q
      · exact .inl (.inr q)
/-- a temporary is dropped -/
theorem RS.pop (r : RS K G H σ s (v :: vs) (t :: ts) F) : ∃ F', RS K G H σ s vs ts F' ∧ ∀ a, F' a → F a := by
  obtain ⟨L1, L2, h1, h2, nd, hn, hf⟩ := r.ex
  cases h2 with
  | @cons _ _ _ _ Fa Fb h hs =>
  refine ⟨fun a => a ∈ L1 ++ Fb, ⟨r.gh, L1, Fb, h1, hs, ?_, fun a m => hn a ?_, fun a => .rfl⟩, fun a m => (hf a).mpr ?_⟩
  · refine nd.sublist ?_
    exact List.Sublist.append_left (List.sublist_append_right Fa Fb) L1
  · simp only [List.mem_append] at m ⊢; rcases m with m | m <;> simp [m]
  · simp only [List.mem_append] at m ⊢; rcases m with m | m <;> simp [m]
theorem Go.less {F' : Addr → Prop} (g : Go F G H F1 G1 H1) (h : ∀ a, F' a → F1 a) : Go F G H F' G1 H1 := ⟨g.gg, g.hh, g.nw, fun a z => g.nf a (h a z), g.dm, g.tp⟩
/-- the data of a temporary -/
theorem RS.top {x : PyData} (r : RS K G H σ s (v :: vs) (.d x :: ts) F) : Dt K G v x ∧ RS K G H σ s vs ts F := by
  obtain ⟨L1, L2, h1, h2, nd, hn, hf⟩ := r.ex
  cases h2 with
  | cons h hs =>
  cases h with
  | d h => exact ⟨h, r.gh, L1, _, h1, hs, nd, hn, hf⟩
/-- moves: from a slot to a temporary -/
theorem RS.take {i : Nat} (r : RS K G H σ s vs ts F) (h : s[i]? = some (some t)) : ∃ v, σ[i]? = some (some v) ∧ RS K G H σ (s.set i none) (v :: vs) (t :: ts) F := by
  obtain ⟨L1, L2, h1, h2, nd, hn, hf⟩ := r.ex
  obtain ⟨v, Fa, Fb, e, o, h3, p⟩ := h1.at h
  have q : (L1 ++ L2).Perm (Fb ++ (Fa ++ L2)) := by
    refine (List.Perm.append_right L2 p).trans ?_
    rw [← List.append_assoc]
    exact List.Perm.append_right L2 List.perm_append_comm
  exact ⟨v, e, r.gh, Fb, Fa ++ L2, h3, .cons o h2, q.nodup_iff.mp nd, fun a m => hn a (q.mem_iff.mpr m), fun a => (hf a).trans q.mem_iff⟩
/-- back to the slot -/
theorem RS.give {i : Nat} (r : RS K G H σ s (v :: vs) (t :: ts) F) (h : s[i]? = some none) (e : σ[i]? = some (some v)) : RS K G H σ (s.set i (some t)) vs ts F := by
  obtain ⟨L1, L2, h1, h2, nd, hn, hf⟩ := r.ex
  cases h2 with
  | @cons _ _ _ _ Fa Fb o hs =>
  obtain ⟨F2, h3, p⟩ := h1.fill h e o
  have q : (L1 ++ (Fa ++ Fb)).Perm (F2 ++ Fb) := by
    rw [← List.append_assoc]
    exact List.Perm.append_right Fb (List.perm_append_comm.trans p.symm)
  exact ⟨r.gh, F2, Fb, h3, hs, q.nodup_iff.mp nd, fun a m => hn a (q.mem_iff.mpr m), fun a => (hf a).trans q.mem_iff⟩
/-- a slot gets a new value -/
theorem RS.wipe {i : Nat} (r : RS K G H σ s vs ts F) (v : Option V) : ∃ F', RS K G H (σ.set i v) (s.set i none) vs ts F' ∧ ∀ a, F' a → F a := by
  obtain ⟨L1, L2, h1, h2, nd, hn, hf⟩ := r.ex
  obtain ⟨Fa, Fb, h3, p⟩ := h1.drop i v
  have q : (L1 ++ L2).Perm (Fb ++ (Fa ++ L2)) := by
    rw [← List.append_assoc]
    exact List.Perm.append_right L2 p
  refine ⟨fun a => a ∈ Fa ++ L2, ⟨r.gh, Fa, L2, h3, h2, (q.nodup_iff.mp nd).sublist (List.sublist_append_right ..), fun a m => hn a (q.mem_iff.mpr (by simp [List.mem_append.mp m])), fun a => .rfl⟩, fun a m => (hf a).mpr (q.mem_iff.mpr (by simp [List.mem_append.mp m]))⟩
theorem RS.asg {i : Nat} (r : RS K G H σ s (v :: vs) (t :: ts) F) (hi : i < s.length) : ∃ F', RS K G H (σ.set i (some v)) (s.set i (some t)) vs ts F' ∧ ∀ a, F' a → F a := by
  obtain ⟨F', r', h⟩ := r.wipe (i := i) (some v)
  obtain ⟨L1, L2, h1, _⟩ := r.ex
  have q := r'.give (i := i) (by simp [hi]) (by simp [h1.len, hi])
  rw [List.set_set] at q
  exact ⟨F', q, h⟩
/-- a temporary never changes again -/
def frzG (L : List Addr) (G H : Hp) : Hp := fun a => if a ∈ L then H a else G a
theorem RS.freeze (r : RS K G H σ s (v :: vs) (t :: ts) F) : ∃ G' F', Go F G H F' G' H ∧ RS K G' H σ s (v :: vs) (.d t.data :: ts) F' := by
  obtain ⟨L1, L2, h1, h2, nd, hn, hf⟩ := r.ex
  cases h2 with
  | @cons _ _ _ _ Fa Fb o hs =>
  have gg : Same G (frzG Fa G H) := fun a u e => by
    unfold frzG
    split
    · exact r.gh a u e
    · exact e
  have q : (L1 ++ (Fa ++ Fb)).Perm (Fa ++ (L1 ++ Fb)) := by
    rw [← List.append_assoc, ← List.append_assoc]
    exact List.Perm.append_right Fb List.perm_append_comm
  have nd' := q.nodup_iff.mp nd
  rw [List.nodup_append] at nd'
  refine ⟨frzG Fa G H, fun a => a ∈ L1 ++ Fb, ⟨gg, fun _ _ e _ => e, fun a u e => ?_, fun a m => .inl ((hf a).mpr (q.mem_iff.mpr (by simp [List.mem_append.mp m]))), fun _ e => e, fun _ _ e _ => .inr e⟩, ?_⟩
  · unfold frzG at e
    split at e
    · next m => exact .inr (.inr (.inl ((hf a).mpr (by simp [m]))))
    · exact .inl e
  · refine ⟨fun a u e => ?_, L1, [] ++ Fb, h1.keep gg fun _ _ => rfl, .cons (.d (o.dt gg fun a m => if_pos m)) (hs.keep gg fun _ _ => rfl), nd'.2.1, fun a m => ?_, fun a => .rfl⟩
    · unfold frzG at e
      split at e
      · exact e
      · exact r.gh a u e
    · have na : a ∉ Fa := fun z => nd'.2.2 a z a m rfl
      show frzG Fa G H a = none
      unfold frzG
      rw [if_neg na]
      exact hn a (q.mem_iff.mpr (List.mem_append_right Fa m))
/-- temporaries in another order -/
theorem OwAll.split : ∀ {vs ws : List V} {ts us : List T} {L : List Addr}, OwAll K G H (vs ++ ws) (ts ++ us) L → vs.length = ts.length → ∃ La Lb, OwAll K G H vs ts La ∧ OwAll K G H ws us Lb ∧ L = La ++ Lb
  | [], _, [], _, _, h, _ => ⟨[], _, .nil, h, rfl⟩
  | v :: vs, ws, t :: ts, us, _, .cons (F := Fa) o hs, e => by
    obtain ⟨La, Lb, h1, h2, rfl⟩ := OwAll.split (vs := vs) (ts := ts) hs (by simpa using e)
    exact ⟨Fa ++ La, Lb, .cons o h1, h2, by rw [List.append_assoc]⟩
theorem OwAll.join : ∀ {vs ws : List V} {ts us : List T} {La Lb : List Addr}, OwAll K G H vs ts La → OwAll K G H ws us Lb → OwAll K G H (vs ++ ws) (ts ++ us) (La ++ Lb)
  | _, _, _, _, _, _, .nil, h => h
  | _, _, _, _, _, _, .cons (F := Fa) o hs, h => by
    rw [List.append_assoc]
    exact .cons o (OwAll.join hs h)
theorem OwAll.len : ∀ {vs : List V} {ts : List T} {L : List Addr}, OwAll K G H vs ts L → vs.length = ts.length
  | _, _, _, .nil => rfl
  | _, _, _, .cons _ h => by simp [h.len]
theorem RS.perm {vs' : List V} {ts' : List T} (r : RS K G H σ s vs ts F) (h : ∀ L, OwAll K G H vs ts L → ∃ L', OwAll K G H vs' ts' L' ∧ L.Perm L') : RS K G H σ s vs' ts' F := by
  obtain ⟨L1, L2, h1, h2, nd, hn, hf⟩ := r.ex
  obtain ⟨L3, h3, p⟩ := h L2 h2
  have q := List.Perm.append_left L1 p
  exact ⟨r.gh, L1, L3, h1, h3, q.nodup_iff.mp nd, fun a m => hn a (q.mem_iff.mpr m), fun a => (hf a).trans q.mem_iff⟩
theorem RS.rot {ws : List V} {us : List T} (r : RS K G H σ s (ws ++ v :: vs) (us ++ t :: ts) F) (hl : ws.length = us.length) : RS K G H σ s (v :: (ws ++ vs)) (t :: (us ++ ts)) F := r.perm fun L h => by
  obtain ⟨La, Lb, h1, h2, rfl⟩ := h.split hl
  cases h2 with
  | @cons _ _ _ _ Fa Fb o hs =>
  refine ⟨Fa ++ (La ++ Fb), .cons o (h1.join hs), ?_⟩
  rw [← List.append_assoc, ← List.append_assoc]
  exact List.Perm.append_right Fb List.perm_append_comm
theorem RS.swap {w : V} {u : T} (r : RS K G H σ s (w :: v :: vs) (u :: t :: ts) F) : RS K G H σ s (v :: w :: vs) (t :: u :: ts) F := r.rot (ws := [w]) (us := [u]) rfl
/-- the view of all slots -/
theorem Sl.view : ∀ {σ : L2.St} {s : Sg} {L : List Addr} {i : Nat} {t : T}, Sl K G H σ s L → Same G H → s[i]? = some (some t) → ∃ v, σ[i]? = some (some v) ∧ Dt K H v t.data := fun {σ s L i t} h gh e => by
  obtain ⟨v, F1, F2, a, b, _⟩ := h.at e
  exact ⟨v, a, b.dt gh fun _ _ => rfl⟩
end
end S

namespace S
open PySem L2
/-! ### pure expressions by data: f tells the data that comes out, where it tells one -/
abbrev Vw := List (Option PyData)
abbrev FP := Vw → Option PyData
abbrev FT := Vw → Option Bool
abbrev FA := Vw → Option (List PyData)
def VR (K : PySem.W.Frag) (G : Hp) (σ : L2.St) (w : Vw) : Prop := σ.length = w.length ∧ ∀ (i : Nat) (d : PyData), w[i]? = some (some d) → ∃ v, σ[i]? = some (some v) ∧ Dt K G v d
theorem VR.mono {K : PySem.W.Frag} {G G' : Hp} {σ : L2.St} {w : Vw} (h : VR K G σ w) (e : Same G G') : VR K G' σ w := ⟨h.1, fun i d q => let ⟨v, a, b⟩ := h.2 i d q; ⟨v, a, same_dt e b⟩⟩
def PP (K : PySem.W.Frag) (te : TE) (f : FP) : Prop := ∀ G σ w d, VR K G σ w → f w = some d → ED K G te σ d
def PPT (K : PySem.W.Frag) (tt : TT) (f : FT) : Prop := ∀ G σ w b, VR K G σ w → f w = some b → ET K G tt σ b
def PPA (K : PySem.W.Frag) (ta : TA) (f : FA) : Prop := ∀ G σ w ds, VR K G σ w → f w = some ds → EA K G ta σ ds
/-- operations -/
def OpS (K : PySem.W.Frag) (r : R2) (g : PyData → PyData → Option PyData) : Prop := ∀ x y d, g x y = some d → R2D K r x y d
def CbS (K : PySem.W.Frag) (r : List V → Hp → VK → Prop) (g : List PyData → Option PyData) : Prop := ∀ ds d, g ds = some d → CBD K r ds d
/-! the functions -/
def fVar (i : Nat) : FP := fun w => (w[i]?).join
def fC (d : PyData) : FP := fun _ => some d
def fOp (g : PyData → PyData → Option PyData) (a b : FP) : FP := fun w => (a w).bind fun x => (b w).bind fun y => g x y
def fNeg (a : FP) : FP := fun w => (a w).bind fun x => match x with | .int i => some (.int (-i)) | _ => none
def fNil : FA := fun _ => some []
def fCons (a : FP) (as : FA) : FA := fun w => (a w).bind fun x => (as w).bind fun xs => some (x :: xs)
def fTup (as : FA) : FP := fun w => (as w).bind fun xs => if xs.length ≤ 1000 then some (.tuple xs) else none
def fLst (as : FA) : FP := fun w => (as w).bind fun xs => if xs.length ≤ 1000 then some (.list xs) else none
def fCb (g : List PyData → Option PyData) (as : FA) : FP := fun w => (as w).bind g
def boolOf : PyData → Option Bool
  | .bool b => some b
  | _ => none
def fAnd (a b : FP) : FP := fun w => (a w).bind fun x => (boolOf x).bind fun p => if p then (b w).bind fun y => (boolOf y).bind fun q => some (.bool q) else some (.bool false)
def fOr (a b : FP) : FP := fun w => (a w).bind fun x => (boolOf x).bind fun p => if p then some (.bool true) else (b w).bind fun y => (boolOf y).bind fun q => some (.bool q)
def fNot (a : FP) : FP := fun w => (a w).bind fun x => (boolOf x).bind fun p => some (.bool !p)
def fIf (t : FT) (a b : FP) : FP := fun w => (t w).bind fun p => if p then a w else b w
def cVal (a : FP) : FT := fun w => (a w).bind boolOf
def cNot (t : FT) : FT := fun w => (t w).bind fun p => some !p
def cAnd (t u : FT) : FT := fun w => (t w).bind fun p => if p then u w else some false
def cOr (t u : FT) : FT := fun w => (t w).bind fun p => if p then some true else u w
section
variable {K : PySem.W.Frag} {ta tb te : TE} {t u : TT} {tas : TA} {a b : FP} {p q : FT} {as : FA}
theorem pp_var {i : Nat} : PP K (tVar i) (fVar i) := fun G σ w d h e => by
  unfold fVar at e
  obtain ⟨v, h1, h2⟩ := h.2 i d (by
    cases z : w[i]? with
    | none => rw [z] at e; cases e
    | some o => rw [z] at e; exact congrArg some e)
  exact ed_var h1 h2
theorem pp_int {i : Int} : PP K (tC (.int i)) (fC (.int i)) := fun G σ w d _ e => by cases e; exact ed_int
theorem pp_str {x : Str} : PP K (tC (.str x)) (fC (.str x)) := fun G σ w d _ e => by cases e; exact ed_str
theorem pp_bl {x : Bool} : PP K (tC (.bl x)) (fC (.bool x)) := fun G σ w d _ e => by cases e; exact ed_bl
theorem pp_non : PP K (tC .non) (fC .none) := fun G σ w d _ e => by cases e; exact ed_non
theorem pp_op {r : R2} {g : PyData → PyData → Option PyData} (hr : OpS K r g) (ha : PP K ta a) (hb : PP K tb b) : PP K (tOp r ta tb) (fOp g a b) := fun G σ w d h e => by
  obtain ⟨x, e1, e⟩ := Option.bind_eq_some_iff.mp e
  obtain ⟨y, e2, e⟩ := Option.bind_eq_some_iff.mp e
  exact ed_op (ha G σ w x h e1) (hb G σ w y h e2) (hr x y d e)
theorem pp_neg (ha : PP K ta a) : PP K (tUn (rU fun i => .int (-i)) ta) (fNeg a) := fun G σ w d h e => by
  obtain ⟨x, e1, e⟩ := Option.bind_eq_some_iff.mp e
  cases x with
  | int i => cases e; exact ed_un (ha G σ w _ h e1)
  | _ => cases e
theorem pp_nil : PPA K tNil fNil := fun G σ w d h e => by cases e; exact ea_nil
theorem pp_cons (ha : PP K ta a) (hs : PPA K tas as) : PPA K (tCons ta tas) (fCons a as) := fun G σ w d h e => by
  obtain ⟨x, e1, e⟩ := Option.bind_eq_some_iff.mp e
  obtain ⟨y, e2, e⟩ := Option.bind_eq_some_iff.mp e
  cases e
  exact ea_cons (ha G σ w x h e1) (hs G σ w y h e2)
theorem pp_tup (hs : PPA K tas as) : PP K (tTup tas) (fTup as) := fun G σ w d h e => by
  obtain ⟨x, e1, e⟩ := Option.bind_eq_some_iff.mp e
  split at e
  · cases e; exact ed_tup (hs G σ w x h e1) (by assumption)
  · cases e
theorem pp_lst (hs : PPA K tas as) : PP K (tLst tas) (fLst as) := fun G σ w d h e => by
  obtain ⟨x, e1, e⟩ := Option.bind_eq_some_iff.mp e
  split at e
  · cases e; exact ed_lst (hs G σ w x h e1) (by assumption)
  · cases e
theorem pp_cb {rr : List V → Hp → VK → Prop} {g : List PyData → Option PyData} (hr : CbS K rr g) (hs : PPA K tas as) : PP K (tCB rr tas) (fCb g as) := fun G σ w d h e => by
  obtain ⟨x, e1, e⟩ := Option.bind_eq_some_iff.mp e
  exact ed_cb (hs G σ w x h e1) (hr x d e)
theorem boolOf_eq {x : PyData} {b : Bool} (h : boolOf x = some b) : x = .bool b := by
  cases x with
  | bool c => cases h; rfl
  | _ => cases h
theorem pp_and (ha : PP K ta a) (hb : PP K tb b) : PP K (tAndV ta tb) (fAnd a b) := fun G σ w d h e => by
  obtain ⟨x, e1, e⟩ := Option.bind_eq_some_iff.mp e
  obtain ⟨c, e2, e⟩ := Option.bind_eq_some_iff.mp e
  rw [boolOf_eq e2] at e1
  have h1 := ha G σ w _ h e1
  cases c with
  | false =>
    cases e
    have q := ed_and (c := false) h1 (tb := tb) (fun z => nomatch z)
    exact q
  | true =>
    obtain ⟨y, e3, e⟩ := Option.bind_eq_some_iff.mp e
    obtain ⟨c, e4, e⟩ := Option.bind_eq_some_iff.mp e
    cases e
    rw [boolOf_eq e4] at e3
    have q := ed_and h1 (fun _ => hb G σ w _ h e3)
    rw [Bool.true_and] at q
    exact q
theorem pp_or (ha : PP K ta a) (hb : PP K tb b) : PP K (tOrV ta tb) (fOr a b) := fun G σ w d h e => by
  obtain ⟨x, e1, e⟩ := Option.bind_eq_some_iff.mp e
  obtain ⟨c, e2, e⟩ := Option.bind_eq_some_iff.mp e
  rw [boolOf_eq e2] at e1
  have h1 := ha G σ w _ h e1
  cases c with
  | true =>
    cases e
    have q := ed_or (c := false) h1 (tb := tb) (fun z => nomatch z)
    exact q
  | false =>
    obtain ⟨y, e3, e⟩ := Option.bind_eq_some_iff.mp e
    obtain ⟨c, e4, e⟩ := Option.bind_eq_some_iff.mp e
    cases e
    rw [boolOf_eq e4] at e3
    have q := ed_or h1 (fun _ => hb G σ w _ h e3)
    rw [Bool.false_or] at q
    exact q
theorem pp_not (ha : PP K ta a) : PP K (tNotV ta) (fNot a) := fun G σ w d h e => by
  obtain ⟨x, e1, e⟩ := Option.bind_eq_some_iff.mp e
  obtain ⟨c, e2, e⟩ := Option.bind_eq_some_iff.mp e
  cases e
  rw [boolOf_eq e2] at e1
  exact ed_not (ha G σ w _ h e1)
theorem pt_val' (ha : PP K ta a) : PPT K (tTest ta) (cVal a) := fun G σ w d h e => by
  obtain ⟨x, e1, e⟩ := Option.bind_eq_some_iff.mp e
  rw [boolOf_eq e] at e1
  exact et_test (ha G σ w _ h e1)
theorem pt_B (ha : PP K ta a) : PPT K (tB ta) (cVal a) := fun G σ w d h e => by
  obtain ⟨x, e1, e⟩ := Option.bind_eq_some_iff.mp e
  rw [boolOf_eq e] at e1
  exact et_B (ha G σ w _ h e1)
theorem pt_not' (ha : PPT K t p) : PPT K (tNot t) (cNot p) := fun G σ w d h e => by
  obtain ⟨x, e1, e⟩ := Option.bind_eq_some_iff.mp e
  cases e
  exact et_not (ha G σ w _ h e1)
theorem pt_and (ha : PPT K t p) (hb : PPT K u q) : PPT K (tAnd t u) (cAnd p q) := fun G σ w d h e => by
  obtain ⟨c, e1, e⟩ := Option.bind_eq_some_iff.mp e
  have h1 := ha G σ w _ h e1
  cases c with
  | false => cases e; exact et_and (c := false) h1 (u := u) (fun z => nomatch z)
  | true => have z := et_and h1 (fun _ => hb G σ w _ h e); rw [Bool.true_and] at z; exact z
theorem pt_or (ha : PPT K t p) (hb : PPT K u q) : PPT K (tOr t u) (cOr p q) := fun G σ w d h e => by
  obtain ⟨c, e1, e⟩ := Option.bind_eq_some_iff.mp e
  have h1 := ha G σ w _ h e1
  cases c with
  | true => cases e; exact et_or (c := false) h1 (u := u) (fun z => nomatch z)
  | false => have z := et_or h1 (fun _ => hb G σ w _ h e); rw [Bool.false_or] at z; exact z
theorem pp_if (ht : PPT K t p) (ha : PP K ta a) (hb : PP K tb b) : PP K (tIf t ta tb) (fIf p a b) := fun G σ w d h e => by
  obtain ⟨c, e1, e⟩ := Option.bind_eq_some_iff.mp e
  have h1 := ht G σ w _ h e1
  cases c with
  | true => exact ed_if h1 (fun _ => ha G σ w _ h e) (fun z => nomatch z)
  | false => exact ed_if h1 (fun z => nomatch z) (fun _ => hb G σ w _ h e)
end
/-! operations by data -/
def gI (g : Int → Int → Int) (x y : PyData) : Option PyData := match x, y with | .int i, .int j => some (.int (g i j)) | _, _ => none
def gB (g : Int → Int → Bool) (x y : PyData) : Option PyData := match x, y with | .int i, .int j => some (.bool (g i j)) | _, _ => none
def gC (C : Int → Int → Bool) (g : Int → Int → Int) (x y : PyData) : Option PyData := match x, y with | .int i, .int j => if C i j then some (.int (g i j)) else none | _, _ => none
def isScalD : PyData → Bool
  | .none => true
  | .bool _ => true
  | .int _ => true
  | .str _ => true
  | _ => false
def gEq (x y : PyData) : Option PyData := match x, y with
  | .int i, .int j => some (.bool (decide (i = j)))
  | .str i, .str j => some (.bool (decide (i = j)))
  | .bool i, .bool j => some (.bool (decide (i = j)))
  | _, _ => none
def gNe (x y : PyData) : Option PyData := match x, y with
  | .int i, .int j => some (.bool (!decide (i = j)))
  | .str i, .str j => some (.bool (!decide (i = j)))
  | .bool i, .bool j => some (.bool (!decide (i = j)))
  | _, _ => none
def gEqD (x y : PyData) : Option PyData := if SeqAt.shaped x = true ∧ SeqAt.shaped y = true then some (.bool (PyData.eqv x y)) else none
def gNeD (x y : PyData) : Option PyData := if SeqAt.shaped x = true ∧ SeqAt.shaped y = true then some (.bool (!PyData.eqv x y)) else none
def gAddS (x y : PyData) : Option PyData := match x, y with | .str i, .str j => if i.length + j.length ≤ 16777216 then some (.str (i ++ j)) else none | _, _ => none
def gIxL (x y : PyData) : Option PyData := match x, y with | .list ds, .int i => atI ds i | _, _ => none
def gIxT (x y : PyData) : Option PyData := match x, y with | .tuple ds, .int i => atI ds i | _, _ => none
def gIxS (x y : PyData) : Option PyData := match x, y with | .str z, .int i => if z.length ≤ 16777216 then (atI z.cps.toList i).map fun c => .str ⟨#[c]⟩ else none | _, _ => none
def gIsN (x y : PyData) : Option PyData := match y with | .none => some (.bool (isNoneD x)) | _ => none
def gNotN (x y : PyData) : Option PyData := match y with | .none => some (.bool (!isNoneD x)) | _ => none
def signOf (z : Str) : Option Nat := match z.cps.toList with | [c] => some c | _ => none
theorem signOf_eq {z : Str} {c : Nat} (h : signOf z = some c) : z = ⟨#[c]⟩ := by
  unfold signOf at h
  split at h
  · next e =>
    cases h
    cases z with
    | mk a => show Str.mk a = Str.mk #[_]; rw [show a = #[c] from Array.toList_inj.mp e]
  · cases h
def gInS (neg : Bool) (x y : PyData) : Option PyData := match x, y with | .str a, .str z => (signOf a).map fun c => .bool (if neg then !decide (c ∈ z.cps.toList) else decide (c ∈ z.cps.toList)) | _, _ => none
def gCmpS (g : List Nat → List Nat → Bool) (x y : PyData) : Option PyData := match x, y with | .str i, .str j => some (.bool (g i.cps.toList j.cps.toList)) | _, _ => none
def gCat (x y : PyData) : Option PyData := match x, y with | .list xs, .list ys => if xs.length + ys.length ≤ 16777216 then some (.list (xs ++ ys)) else none | _, _ => none
section
variable {K : PySem.W.Frag}
theorem os_i {g : Int → Int → Int} : OpS K (rI0 fun i j => .int (g i j)) (gI g) := fun x y d e => by
  unfold gI at e
  split at e
  · cases e; exact r2_i
  · cases e
theorem os_b {g : Int → Int → Bool} : OpS K (rI0 fun i j => .bl (g i j)) (gB g) := fun x y d e => by
  unfold gB at e
  split at e
  · cases e; exact r2_b
  · cases e
theorem os_c {P : Int → Int → Prop} {C : Int → Int → Bool} {g : Int → Int → Int} (hc : ∀ i j, C i j = true → P i j) : OpS K (rI P fun i j => .int (g i j)) (gC C g) := fun x y d e => by
  unfold gC at e
  split at e
  · split at e
    · next h => cases e; exact r2_c (hc _ _ h)
    · cases e
  · cases e
theorem os_eq : OpS K rEq gEq := fun x y d e => by
  unfold gEq at e
  split at e
  · cases e; exact r2_eqI
  · cases e; exact r2_eqS
  · cases e; exact r2_eqB
  · cases e
theorem os_ne : OpS K rNe gNe := fun x y d e => by
  unfold gNe at e
  split at e
  · cases e; exact r2_neI
  · cases e; exact r2_neS
  · cases e; exact r2_neB
  · cases e
theorem os_eqD : OpS K (rEqD K) gEqD := fun x y d e => by
  unfold gEqD at e
  split at e
  · next h => cases e; exact r2_eqD h.1 h.2
  · cases e
theorem os_neD : OpS K (rNeD K) gNeD := fun x y d e => by
  unfold gNeD at e
  split at e
  · next h => cases e; exact r2_neD h.1 h.2
  · cases e
theorem sizeLine_ge : 16777216 ≤ sizeLine := by decide
theorem os_addS : OpS K (fun x y H Q => ∃ i j, x = .str i ∧ y = .str j ∧ i.length + j.length ≤ sizeLine ∧ Q (.str (i ++ j)) H) gAddS := fun x y d e => by
  unfold gAddS at e
  split at e
  · split at e
    · next h => cases e; exact r2_addS (Nat.le_trans h sizeLine_ge)
    · cases e
  · cases e
theorem os_ixL : OpS K (rIxL K) gIxL := fun x y d e => by
  unfold gIxL at e
  split at e
  · exact r2_ixL e
  · cases e
theorem os_ixT : OpS K (rIxT K) gIxT := fun x y d e => by
  unfold gIxT at e
  split at e
  · exact r2_ixT e
  · cases e
theorem os_ixS : OpS K rIxS gIxS := fun x y d e => by
  unfold gIxS at e
  split at e
  · split at e
    · next h =>
      obtain ⟨c, h1, h2⟩ := Option.map_eq_some_iff.mp e
      cases h2
      exact r2_ixS (Nat.le_trans h sizeLine_ge) h1
    · cases e
  · cases e
theorem os_isN : OpS K (fun x y H Q => y = .non ∧ Q (.bl (decide (x = .non))) H) gIsN := fun x y d e => by
  unfold gIsN at e
  split at e
  · cases e; exact r2_isN
  · cases e
theorem os_notN : OpS K (fun x y H Q => y = .non ∧ Q (.bl (!decide (x = .non))) H) gNotN := fun x y d e => by
  unfold gNotN at e
  split at e
  · cases e; exact r2_notN
  · cases e
theorem os_inS : OpS K (fun x y H Q => ∃ (c : Nat) (z : Str), x = .str ⟨#[c]⟩ ∧ y = .str z ∧ Q (.bl (decide (c ∈ z.cps.toList))) H) (gInS false) := fun x y d e => by
  unfold gInS at e
  split at e
  · obtain ⟨c, h1, h2⟩ := Option.map_eq_some_iff.mp e
    cases h2
    rw [signOf_eq h1]
    intro v w G H gh hx hy Q q
    exact ⟨c, _, dt_str hx, dt_str hy, q _ G H (Ext.refl gh) (.bl _)⟩
  · cases e
theorem os_notInS : OpS K (fun x y H Q => ∃ (c : Nat) (z : Str), x = .str ⟨#[c]⟩ ∧ y = .str z ∧ Q (.bl (!decide (c ∈ z.cps.toList))) H) (gInS true) := fun x y d e => by
  unfold gInS at e
  split at e
  · obtain ⟨c, h1, h2⟩ := Option.map_eq_some_iff.mp e
    cases h2
    rw [signOf_eq h1]
    intro v w G H gh hx hy Q q
    exact ⟨c, _, dt_str hx, dt_str hy, q _ G H (Ext.refl gh) (.bl _)⟩
  · cases e
theorem os_cmpS {g : List Nat → List Nat → Bool} : OpS K (fun x y H Q => ∃ i j, x = .str i ∧ y = .str j ∧ Q (.bl (g i.cps.toList j.cps.toList)) H) (gCmpS g) := fun x y d e => by
  unfold gCmpS at e
  split at e
  · cases e
    intro v w G H gh hx hy Q q
    exact ⟨_, _, dt_str hx, dt_str hy, q _ G H (Ext.refl gh) (.bl _)⟩
  · cases e
end
end S

namespace S
open PySem L2
/-! ### what comes out: a thing and the slots behind it; an exception; nothing is said -/
inductive R (α : Type) where
  | ok (a : α) (s : Sg)
  | ex (x : PyData) (s : Sg)
  | bad
inductive Fl where
  | nx
  | rt (t : T)
  | bk
  | ct
abbrev ME := Sg → R T
abbrev MT := Sg → R Bool
abbrev MS := Sg → R Fl
def R.bind {α β : Type} (r : R α) (k : α → Sg → R β) : R β := match r with
  | .ok a s => k a s
  | .ex x s => .ex x s
  | .bad => .bad
def R.of {α : Type} (o : Option α) (s : Sg) : R α := match o with
  | some a => .ok a s
  | none => .bad
def EXc (E : XK) (x : PyData) (H : Hp) : Prop := ∃ C : Addr, x = dExc C ∧ E (.ref C) none H
section
variable (K : PySem.W.Frag) (E : L2.St → XK)
def PostE (G H : Hp) (F : Addr → Prop) (σ : L2.St) (vs : List V) (ts : List T) (Q : VK) : R T → Prop
  | .ok t s => ∀ v G' H' F', Go F G H F' G' H' → RS K G' H' σ s (v :: vs) (t :: ts) F' → Q v H'
  | .ex x s => ∀ G' H' F', Go F G H F' G' H' → RS K G' H' σ s vs ts F' → EXc (E σ) x H'
  | .bad => False
def PostT (G H : Hp) (F : Addr → Prop) (σ : L2.St) (vs : List V) (ts : List T) (Q : Bool → Hp → Prop) : R Bool → Prop
  | .ok b s => ∀ G' H' F', Go F G H F' G' H' → RS K G' H' σ s vs ts F' → Q b H'
  | .ex x s => ∀ G' H' F', Go F G H F' G' H' → RS K G' H' σ s vs ts F' → EXc (E σ) x H'
  | .bad => False
/-- an expression, a test -/
def SE (te : TE) (m : ME) : Prop := ∀ G H σ s vs ts F Q, RS K G H σ s vs ts F → PostE K E G H F σ vs ts Q (m s) → te σ H Q
def ST (tt : TT) (m : MT) : Prop := ∀ G H σ s vs ts F Q, RS K G H σ s vs ts F → PostT K E G H F σ vs ts Q (m s) → tt σ H Q
def Off (W : List Nat) (σ σ' : L2.St) : Prop := σ'.length = σ.length ∧ ∀ i : Nat, i ∉ W → σ'[i]? = σ[i]?
def PostS (W : List Nat) (G H : Hp) (F : Addr → Prop) (σ : L2.St) (vs : List V) (ts : List T) (D : Ends) : R Fl → Prop
  | .ok .nx s => ∀ σ' G' H' F', Go F G H F' G' H' → Off W σ σ' → RS K G' H' σ' s vs ts F' → D.nx σ' H'
  | .ok .bk s => ∀ σ' G' H' F', Go F G H F' G' H' → Off W σ σ' → RS K G' H' σ' s vs ts F' → D.bk σ' H'
  | .ok .ct s => ∀ σ' G' H' F', Go F G H F' G' H' → Off W σ σ' → RS K G' H' σ' s vs ts F' → D.ct σ' H'
  | .ok (.rt t) s => ∀ v σ' G' H' F', Go F G H F' G' H' → Off W σ σ' → RS K G' H' σ' s (v :: vs) (t :: ts) F' → D.rt v H'
  | .ex x s => ∀ σ' G' H' F', Go F G H F' G' H' → Off W σ σ' → RS K G' H' σ' s vs ts F' → EXc (E σ') x H'
  | .bad => False
def SS' (W : List Nat) (ts' : TS) (m : MS) : Prop := ∀ G H σ s vs ts F D, RS K G H σ s vs ts F → PostS K E W G H F σ vs ts D (m s) → ts' D σ H
end
section
variable {K : PySem.W.Frag} {E : L2.St → XK} {G G1 H H1 : Hp} {F F1 : Addr → Prop} {σ σ1 : L2.St} {s : Sg} {vs : List V} {ts : List T} {Q : VK} {W : List Nat} {D D' : Ends}
theorem Off.refl : Off W σ σ := ⟨rfl, fun _ _ => rfl⟩
theorem Off.trans {σ2 : L2.St} (a : Off W σ σ1) (b : Off W σ1 σ2) : Off W σ σ2 := ⟨b.1.trans a.1, fun i h => (b.2 i h).trans (a.2 i h)⟩
theorem PostE.from (g : Go F G H F1 G1 H1) {r : R T} (h : PostE K E G H F σ vs ts Q r) : PostE K E G1 H1 F1 σ vs ts Q r := by
  cases r with
  | ok t s => exact fun v G' H' F' a => h v G' H' F' (g.trans a)
  | ex x s => exact fun G' H' F' a => h G' H' F' (g.trans a)
  | bad => exact h
theorem PostT.from {Q : Bool → Hp → Prop} (g : Go F G H F1 G1 H1) {r : R Bool} (h : PostT K E G H F σ vs ts Q r) : PostT K E G1 H1 F1 σ vs ts Q r := by
  cases r with
  | ok t s => exact fun G' H' F' a => h G' H' F' (g.trans a)
  | ex x s => exact fun G' H' F' a => h G' H' F' (g.trans a)
  | bad => exact h
theorem PostS.from (g : Go F G H F1 G1 H1) (o : Off W σ σ1) {r : R Fl} (h : PostS K E W G H F σ vs ts D r) : PostS K E W G1 H1 F1 σ1 vs ts D r := by
  cases r with
  | ok t s =>
    cases t with
    | nx => exact fun σ' G' H' F' a b => h σ' G' H' F' (g.trans a) (o.trans b)
    | bk => exact fun σ' G' H' F' a b => h σ' G' H' F' (g.trans a) (o.trans b)
    | ct => exact fun σ' G' H' F' a b => h σ' G' H' F' (g.trans a) (o.trans b)
    | rt t => exact fun v σ' G' H' F' a b => h v σ' G' H' F' (g.trans a) (o.trans b)
  | ex x s => exact fun σ' G' H' F' a b => h σ' G' H' F' (g.trans a) (o.trans b)
  | bad => exact h
/-! ### what is imm: told by its kind alone, never written -/
mutual
def isImm : PyData → Bool
  | .none => true
  | .bool _ => true
  | .int _ => true
  | .str _ => true
  | .tuple xs => isImmL xs
  | _ => false
def isImmL : List PyData → Bool
  | [] => true
  | x :: xs => isImm x && isImmL xs
end
/-- all tuples are known -/
def fillG (G H : Hp) : Hp := fun a => match G a with
  | some o => some o
  | none => match H a with
    | some o => if isTupO o then some o else none
    | none => none
theorem fillG_le : Same G (fillG G H) := fun a o e => by unfold fillG; rw [e]
theorem fillG_of {a : Addr} {o : HO} (h : fillG G H a = some o) : G a = some o ∨ (G a = none ∧ H a = some o ∧ isTupO o = true) := by
  unfold fillG at h
  cases e : G a with
  | some u => rw [e] at h; exact .inl h
  | none =>
    rw [e] at h
    cases e2 : H a with
    | none => rw [e2] at h; cases h
    | some u =>
      rw [e2] at h
      by_cases t : isTupO u = true
      · rw [show (match some u with | some o => if isTupO o = true then some o else none | none => none) = some u from if_pos t] at h
        cases h
        exact .inr ⟨rfl, rfl, t⟩
      · rw [show (match some u with | some o => if isTupO o = true then some o else none | none => none) = none from if_neg t] at h
        cases h
theorem fillG_tup (gh : Same G H) {a : Addr} {o : HO} (h : H a = some o) (t : isTupO o = true) : fillG G H a = some o := by
  unfold fillG
  cases e : G a with
  | some u => have := gh a u e; rw [h] at this; cases this; rfl
  | none => rw [h]; exact if_pos t
theorem fillG_gh (gh : Same G H) : Same (fillG G H) H := fun a o e => (fillG_of e).elim (gh a o) fun z => z.2.1
mutual
theorem imm_dt {G2 H2 : Hp} (gh : Same G2 H2) (g : Same G H2) : ∀ {v : V} {d : PyData}, Dt K G2 v d → isImm d = true → Dt K (fillG G H2) v d
  | _, _, .non, _ => .non
  | _, _, .bl b, _ => .bl b
  | _, _, .int i, _ => .int i
  | _, _, .str x, _ => .str x
  | _, _, .lst _ _, h => by unfold isImm at h; cases h
  | _, _, .tup h hs, i => by
    refine .tup ?_ (imm_dts gh g hs (by unfold isImm at i; exact i))
    rcases h with h | ⟨(h | ⟨o, h⟩) | h, z⟩
    · exact .inl (fillG_tup g (gh _ _ h) rfl)
    · exact .inr ⟨.inl (.inl (fillG_tup g (gh _ _ h) rfl)), z⟩
    · exact .inr ⟨.inl (.inr ⟨o, fillG_tup g (gh _ _ h) rfl⟩), z⟩
    · exact .inr ⟨.inr h, z⟩
  | _, _, .dct _ _, h => by unfold isImm at h; cases h
  | _, _, .obj _ _, h => by unfold isImm at h; cases h
  | _, _, .exc _, h => by unfold isImm at h; cases h
  | _, _, .dtp _ _, h => by unfold isImm at h; cases h
  | _, _, .scr _ _ _, h => by unfold isImm at h; cases h
theorem imm_dts {G2 H2 : Hp} (gh : Same G2 H2) (g : Same G H2) : ∀ {v : List V} {d : List PyData}, DtAll K G2 v d → isImmL d = true → DtAll K (fillG G H2) v d
  | _, _, .nil, _ => .nil
  | _, _, .cons h hs, i => by
    unfold isImmL at i
    rw [Bool.and_eq_true] at i
    exact .cons (imm_dt gh g h i.1) (imm_dts gh g hs i.2)
end
/-- behind a step that changed nothing that was tracked -/
theorem RS.fill {G2 H2 : Hp} (r : RS K G H σ s vs ts F) (e : Ext [] H H G2 H2) : Go F G H F (fillG G H2) H2 ∧ RS K (fillG G H2) H2 σ s vs ts F := by
  have g2 : Same G H2 := r.gh.trans (e.gg.trans e.gh)
  refine ⟨⟨fillG_le, fun a o q _ => e.hh a o q (by simp), fun a o q => ?_, fun _ z => .inl z, e.dm, e.tp⟩, r.keep fillG_le (fillG_gh g2) (fun a h => ?_) fun a h => ?_⟩
  · rcases fillG_of q with z | ⟨_, z, t⟩
    · exact .inl z
    · rcases e.tp a o z t with y | y
      · exact .inr (.inl y)
      · exact .inr (.inr (.inr ⟨y, t⟩))
  · obtain ⟨o, q, _⟩ := r.trk h
    rw [q]
    exact e.keep q (by simp)
  · obtain ⟨o, q, t, n⟩ := r.trk h
    cases z : fillG G H2 a with
    | none => rfl
    | some u =>
      rcases fillG_of z with y | ⟨_, y, t'⟩
      · rw [n] at y; cases y
      · rw [e.keep q (by simp)] at y; cases y; rw [t] at t'; cases t'
/-! ### the views -/
def view (s : Sg) : Vw := s.map (Option.map T.data)
def frzD : Option T → Option PyData
  | some (.d x) => some x
  | _ => none
def viewF (s : Sg) : Vw := s.map frzD
theorem RS.view (r : RS K G H σ s vs ts F) : VR K H σ (view s) := ⟨by
  obtain ⟨L1, L2, h1, _⟩ := r.ex
  simp [S.view, h1.len], fun i d e => by
  obtain ⟨L1, L2, h1, _⟩ := r.ex
  unfold S.view at e
  rw [List.getElem?_map] at e
  cases q : s[i]? with
  | none => rw [q] at e; cases e
  | some o =>
    rw [q] at e
    cases o with
    | none => cases e
    | some t => cases e; exact h1.view r.gh q⟩
theorem RS.viewF (r : RS K G H σ s vs ts F) : VR K G σ (viewF s) := ⟨by
  obtain ⟨L1, L2, h1, _⟩ := r.ex
  simp [S.viewF, h1.len], fun i d e => by
  obtain ⟨L1, L2, h1, _⟩ := r.ex
  unfold S.viewF at e
  rw [List.getElem?_map] at e
  cases q : s[i]? with
  | none => rw [q] at e; cases e
  | some o =>
    rw [q] at e
    cases o with
    | none => cases e
    | some t =>
      cases t with
      | d x =>
        cases e
        obtain ⟨v, F1, F2, a, b, _⟩ := h1.at q
        cases b with
        | d b => exact ⟨v, a, b⟩
      | _ => cases e⟩
/-- pure, told by its kind alone: all slots are seen -/
def mP (f : FP) : ME := fun s => match f (view s) with
  | some d => if isImm d then .ok (.d d) s else .bad
  | none => .bad
/-- pure: what never changes again is seen -/
def mF (f : FP) : ME := fun s => R.of ((f (viewF s)).map .d) s
def bP (f : FT) : MT := fun s => R.of (f (view s)) s
variable {te : TE} {f : FP}
theorem se_P (h : PP K te f) : SE K E te (mP f) := fun G H σ s vs ts F Q r p => by
  unfold mP at p
  cases e : f (view s) with
  | none => rw [e] at p; exact p.elim
  | some d =>
    rw [e] at p
    by_cases i : isImm d = true
    · simp only [i, if_true] at p
      refine h H σ (view s) d r.view e H H (Same.refl H) (Same.refl H) Q fun v G2 H2 x hv => ?_
      obtain ⟨g, r2⟩ := r.fill x
      exact p v _ H2 F g (r2.push (imm_dt x.gh (r.gh.trans (x.gg.trans x.gh)) hv i))
    · simp only [i] at p
      exact p.elim
theorem se_F (h : PP K te f) : SE K E te (mF f) := fun G H σ s vs ts F Q r p => by
  unfold mF at p
  cases e : f (viewF s) with
  | none => rw [e] at p; exact p.elim
  | some d =>
    rw [e] at p
    exact h G σ (viewF s) d r.viewF e G H (Same.refl G) r.gh Q fun v G2 H2 x hv => p v G2 H2 F (.of x) ((r.ext x).push hv)
theorem st_P {tt : TT} {f : FT} (h : PPT K tt f) : ST K E tt (bP f) := fun G H σ s vs ts F Q r p => by
  unfold bP at p
  cases e : f (view s) with
  | none => rw [e] at p; exact p.elim
  | some b =>
    rw [e] at p
    refine h H σ (view s) b r.view e H H (Same.refl H) (Same.refl H) Q fun G2 H2 x => ?_
    obtain ⟨g, r2⟩ := r.fill x
    exact p _ H2 F g r2
/-- the result never changes again -/
def mZ (m : ME) : ME := fun s => (m s).bind fun t s => .ok (.d t.data) s
theorem se_Z {m : ME} (h : SE K E te m) : SE K E te (mZ m) := fun G H σ s vs ts F Q r p => by
  refine h G H σ s vs ts F Q r ?_
  unfold mZ at p
  cases e : m s with
  | bad => rw [e] at p; exact p
  | ex x s' => rw [e] at p; exact p
  | ok t s' =>
    rw [e] at p
    intro v G' H' F' g r'
    obtain ⟨G2, F2, g2, r2⟩ := r'.freeze
    exact p v G2 H' F2 (g.trans g2) r2
/-- a name: what stands there moves away; or never changes again -/
def mMv (i : Nat) : ME := fun s => match s[i]? with
  | some (some t) => .ok t (s.set i none)
  | _ => .bad
def mFz (i : Nat) : ME := fun s => match s[i]? with
  | some (some t) => .ok (.d t.data) (s.set i (some (.d t.data)))
  | _ => .bad
theorem se_Mv {i : Nat} : SE K E (tVar i) (mMv i) := fun G H σ s vs ts F Q r p => by
  unfold mMv at p
  cases e : s[i]? with
  | none => rw [e] at p; exact p.elim
  | some o =>
    cases o with
    | none => rw [e] at p; exact p.elim
    | some t =>
      rw [e] at p
      obtain ⟨v, q, r2⟩ := r.take e
      exact ⟨v, q, p v G H F .refl r2⟩
theorem se_Fz {i : Nat} : SE K E (tVar i) (mFz i) := fun G H σ s vs ts F Q r p => by
  unfold mFz at p
  cases e : s[i]? with
  | none => rw [e] at p; exact p.elim
  | some o =>
    cases o with
    | none => rw [e] at p; exact p.elim
    | some t =>
      rw [e] at p
      obtain ⟨v, q, r2⟩ := r.take e
      obtain ⟨G2, F2, g2, r3⟩ := r2.freeze
      obtain ⟨hd, r4⟩ := r3.top
      have hi : i < s.length := (List.getElem?_eq_some_iff.mp e).1
      have r5 := (r4.push hd).give (i := i) (by simp [hi]) q
      rw [List.set_set] at r5
      exact ⟨v, q, p v G2 H F2 g2 (r5.push hd)⟩
/-! ### statements -/
variable {m m1 m2 : ME} {tz tw : TS} {n1 n2 : MS} {tt : TT} {c : MT}
def sNx : MS := fun s => .ok .nx s
def sSeq (a b : MS) : MS := fun s => match a s with
  | .ok .nx s' => b s'
  | r => r
def sRt (m : ME) : MS := fun s => (m s).bind fun t s => .ok (.rt t) s
def sEx (m : ME) : MS := fun s => (m s).bind fun _ s => .ok .nx s
def sIf (c : MT) (a b : MS) : MS := fun s => (c s).bind fun p s => if p then a s else b s
def sSet (i : Nat) (m : ME) : MS := fun s => (m s).bind fun t s => if i < s.length then .ok .nx (s.set i (some t)) else .bad
theorem ss_Nx : SS' K E W tNext sNx := fun G H σ s vs ts F D r p => p σ G H F .refl .refl r
theorem ss_Seq (h1 : SS' K E W tz n1) (h2 : SS' K E W tw n2) : SS' K E W (tSeq tz tw) (sSeq n1 n2) := fun G H σ s vs ts F D r p => by
  refine h1 G H σ s vs ts F { D with nx := tw D } r ?_
  unfold sSeq at p
  cases e : n1 s with
  | bad => rw [e] at p; exact p
  | ex x s' => rw [e] at p; exact p
  | ok f s' =>
    rw [e] at p
    cases f with
    | nx => exact fun σ' G' H' F' g o r' => h2 G' H' σ' s' vs ts F' D r' (PostS.from g o p)
    | bk => exact p
    | ct => exact p
    | rt t => exact p
theorem ss_Rt (h : SE K E te m) : SS' K E W (tRet te) (sRt m) := fun G H σ s vs ts F D r p => by
  refine h G H σ s vs ts F D.rt r ?_
  unfold sRt at p
  cases e : m s with
  | bad => rw [e] at p; exact p
  | ex x s' => rw [e] at p; exact fun G' H' F' g r' => p σ G' H' F' g .refl r'
  | ok t s' => rw [e] at p; exact fun v G' H' F' g r' => p v σ G' H' F' g .refl r'
theorem ss_RtN : SS' K E W tRetN (sRt (mP (fC .none))) := fun G H σ s vs ts F D r p => p .non σ G H F .refl .refl (r.push .non)
theorem ss_Ex (h : SE K E te m) : SS' K E W (tDrop te) (sEx m) := fun G H σ s vs ts F D r p => by
  refine h G H σ s vs ts F _ r ?_
  unfold sEx at p
  cases e : m s with
  | bad => rw [e] at p; exact p
  | ex x s' => rw [e] at p; exact fun G' H' F' g r' => p σ G' H' F' g .refl r'
  | ok t s' =>
    rw [e] at p
    intro v G' H' F' g r'
    obtain ⟨F2, r2, hf⟩ := r'.pop
    exact p σ G' H' F2 (g.less hf) .refl r2
theorem ss_If (hc : ST K E tt c) (h1 : SS' K E W tz n1) (h2 : SS' K E W tw n2) : SS' K E W (tIfS tt tz tw) (sIf c n1 n2) := fun G H σ s vs ts F D r p => by
  refine hc G H σ s vs ts F _ r ?_
  unfold sIf at p
  cases e : c s with
  | bad => rw [e] at p; exact p
  | ex x s' => rw [e] at p; exact fun G' H' F' g r' => p σ G' H' F' g .refl r'
  | ok b s' =>
    rw [e] at p
    intro G' H' F' g r'
    cases b with
    | true => exact iteT (h1 G' H' σ s' vs ts F' D r' (PostS.from g .refl p))
    | false => exact iteF (h2 G' H' σ s' vs ts F' D r' (PostS.from g .refl p))
theorem off_set {i : Nat} {v : Option V} (h : i ∈ W) : Off W σ (σ.set i v) := ⟨List.length_set .., fun j hj => by
  have n : i ≠ j := fun e => by subst e; exact hj h
  exact List.getElem?_set_ne n⟩
theorem ss_Set {i : Nat} (h : SE K E te m) (hw : i ∈ W) : SS' K E W (tAsg te (gName i)) (sSet i m) := fun G H σ s vs ts F D r p => by
  refine h G H σ s vs ts F _ r ?_
  unfold sSet at p
  cases e : m s with
  | bad => rw [e] at p; exact p
  | ex x s' => rw [e] at p; exact fun G' H' F' g r' => p σ G' H' F' g .refl r'
  | ok t s' =>
    rw [e] at p
    intro v G' H' F' g r'
    by_cases hi : i < s'.length
    · rw [show R.bind (.ok t s') (fun t s => if i < s.length then R.ok Fl.nx (s.set i (some t)) else R.bad) = .ok .nx (s'.set i (some t)) from if_pos hi] at p
      obtain ⟨F2, r2, hf⟩ := r'.asg hi
      exact p _ G' H' F2 (g.less hf) (off_set hw) r2
    · rw [show R.bind (.ok t s') (fun t s => if i < s.length then R.ok Fl.nx (s.set i (some t)) else R.bad) = .bad from if_neg hi] at p
      exact p.elim
/-- a test out of a thing -/
def bE (m : ME) : MT := fun s => (m s).bind fun t s => R.of (boolOf t.data) s
theorem st_E (h : SE K E te m) : ST K E (tTest te) (bE m) := fun G H σ s vs ts F Q r p => by
  refine h G H σ s vs ts F _ r ?_
  unfold bE at p
  cases e : m s with
  | bad => rw [e] at p; exact p
  | ex x s' => rw [e] at p; exact p
  | ok t s' =>
    rw [e] at p
    intro v G' H' F' g r'
    cases q : boolOf t.data with
    | none => rw [show R.bind (.ok t s') (fun t s => R.of (boolOf t.data) s) = R.of (boolOf t.data) s' from rfl, q] at p; exact p.elim
    | some b =>
      rw [show R.bind (.ok t s') (fun t s => R.of (boolOf t.data) s) = R.of (boolOf t.data) s' from rfl, q] at p
      obtain ⟨G2, F2, g2, r2⟩ := r'.freeze
      obtain ⟨hd, r3⟩ := r2.top
      rw [boolOf_eq q] at hd
      exact ⟨b, dt_bool hd, p G2 H' F2 (g.trans g2) r3⟩
theorem st_B (h : SE K E te m) : ST K E (tB te) (bE m) := st_E (te := te) h
def bNot (c : MT) : MT := fun s => (c s).bind fun p s => .ok (!p) s
theorem st_Not (h : ST K E tt c) : ST K E (tNot tt) (bNot c) := fun G H σ s vs ts F Q r p => by
  refine h G H σ s vs ts F _ r ?_
  unfold bNot at p
  cases e : c s with
  | bad => rw [e] at p; exact p
  | ex x s' => rw [e] at p; exact p
  | ok t s' => rw [e] at p; exact p
variable {tu : TT} {c2 : MT}
def bAnd (c d : MT) : MT := fun s => (c s).bind fun p s => if p then d s else .ok false s
def bOr (c d : MT) : MT := fun s => (c s).bind fun p s => if p then .ok true s else d s
theorem st_And (h : ST K E tt c) (h2 : ST K E tu c2) : ST K E (tAnd tt tu) (bAnd c c2) := fun G H σ s vs ts F Q r p => by
  refine h G H σ s vs ts F _ r ?_
  unfold bAnd at p
  cases e : c s with
  | bad => rw [e] at p; exact p
  | ex x s' => rw [e] at p; exact p
  | ok b s' =>
    rw [e] at p
    intro G' H' F' g r'
    cases b with
    | true => exact iteT (h2 G' H' σ s' vs ts F' Q r' (PostT.from g p))
    | false => exact iteF (p G' H' F' g r')
theorem st_Or (h : ST K E tt c) (h2 : ST K E tu c2) : ST K E (tOr tt tu) (bOr c c2) := fun G H σ s vs ts F Q r p => by
  refine h G H σ s vs ts F _ r ?_
  unfold bOr at p
  cases e : c s with
  | bad => rw [e] at p; exact p
  | ex x s' => rw [e] at p; exact p
  | ok b s' =>
    rw [e] at p
    intro G' H' F' g r'
    cases b with
    | true => exact iteT (p G' H' F' g r')
    | false => exact iteF (h2 G' H' σ s' vs ts F' Q r' (PostT.from g p))
end
end S

namespace S
open PySem L2
/-! ### what a def does: of the arguments it tells a thing, and the arguments behind it -/
abbrev MF := List T → R T
section
variable (K : PySem.W.Frag)
def PostF (G H : Hp) (F : Addr → Prop) (vs : List V) (Q : VK) (E : XK) : R T → Prop
  | .ok t as => ∀ v G' H' F', Go F G H F' G' H' → RS K G' H' (vs.map some) as [v] [t] F' → Q v H'
  | .ex x as => ∀ G' H' F', Go F G H F' G' H' → RS K G' H' (vs.map some) as [] [] F' → EXc E x H'
  | .bad => False
def FnM (n : Nat) (m : MF) : Sp := fun vs H Q E => vs.length = n ∧ ∃ G ts F, RS K G H [] [] vs ts F ∧ PostF K G H F vs Q E (m ts)
end
def T.isD : T → Bool
  | .d _ => true
  | _ => false
def okA (W : List Nat) : Nat → List T → Bool
  | _, [] => true
  | i, t :: ts => (!W.contains i || t.isD) && okA W (i + 1) ts
def backA (W : List Nat) : Nat → List T → Sg → Sg
  | i, t :: ts, o :: s => (if W.contains i then some t else o) :: backA W (i + 1) ts s
  | _, _, _ => []
def runF (N : Nat) (W : List Nat) (b : MS) : MF := fun ts => if okA W 0 ts then match b (ts.map some ++ List.replicate (N - ts.length) none) with
  | .ok (.rt t) s => .ok t (backA W 0 ts s)
  | .ok .nx s => .ok (.d .none) (backA W 0 ts s)
  | .ex x s => .ex x (backA W 0 ts s)
  | _ => .bad else .bad
section
variable {K : PySem.W.Frag} {G G' H H' : Hp}
theorem sl_start : ∀ {vs : List V} {ts : List T} {L : List Addr} (n : Nat), OwAll K G H vs ts L → Sl K G H (vs.map some ++ List.replicate n none) (ts.map some ++ List.replicate n none) L
  | _, _, _, n, .nil => by
    induction n with
    | zero => exact .nil
    | succ n ih => exact .no ih
  | _, _, _, n, .cons h hs => .yes h (sl_start n hs)
theorem sl_args {W : List Nat} (g : Same G G') : ∀ {vs : List V} {ts : List T} {L : List Addr} {σ : L2.St} {s : Sg} {M : List Addr} (i : Nat), OwAll K G H vs ts L → okA W i ts = true → Sl K G' H' σ s M → vs.length ≤ σ.length →
    (∀ j v, vs[j]? = some v → i + j ∉ W → σ[j]? = some (some v)) → ∃ M', Sl K G' H' (vs.map some) (backA W i ts s) M' ∧ M'.Sublist M
  | _, _, _, _, _, M, i, .nil, _, h, _, _ => ⟨[], .nil, List.nil_sublist M⟩
  | _, _, _, _, _, _, i, .cons ho hs, ok, .nil, hl, _ => by simp at hl
  | _, t :: ts, _, _, _, _, i, .cons (v := v) ho hs, ok, .no (v := v') (F := M) h, hl, hv => by
    simp only [okA, Bool.and_eq_true] at ok
    obtain ⟨M', a, b⟩ := sl_args g (i + 1) hs ok.2 h (by simpa using hl) fun j w e n => by
      have := hv (j + 1) w (by simpa using e) (by rw [show i + (j + 1) = i + 1 + j by omega]; exact n)
      simpa using this
    simp only [backA, List.map_cons]
    by_cases hw : W.contains i = true
    · simp only [hw, Bool.not_true, Bool.false_or] at ok
      rw [if_pos hw]
      cases t with
      | d x =>
        cases ho with
        | d hd => exact ⟨[] ++ M', .yes (.d (same_dt g hd)) a, b⟩
      | _ => exact absurd ok.1 (by simp [T.isD])
    · rw [if_neg hw]
      exact ⟨M', .no a, b⟩
  | _, t :: ts, _, _, _, _, i, .cons (v := v) ho hs, ok, .yes (v := v') (F := Fa) (F' := M) h h', hl, hv => by
    simp only [okA, Bool.and_eq_true] at ok
    obtain ⟨M', a, b⟩ := sl_args g (i + 1) hs ok.2 h' (by simpa using hl) fun j w e n => by
      have := hv (j + 1) w (by simpa using e) (by rw [show i + (j + 1) = i + 1 + j by omega]; exact n)
      simpa using this
    simp only [backA, List.map_cons]
    by_cases hw : W.contains i = true
    · simp only [hw, Bool.not_true, Bool.false_or] at ok
      rw [if_pos hw]
      cases t with
      | d x =>
        cases ho with
        | d hd => exact ⟨[] ++ M', .yes (.d (same_dt g hd)) a, b.trans (List.sublist_append_right Fa M)⟩
      | _ => exact absurd ok.1 (by simp [T.isD])
    · rw [if_neg hw]
      have e := hv 0 v rfl (by simpa using hw)
      simp at e
      subst e
      exact ⟨Fa ++ M', .yes h a, List.Sublist.append (List.Sublist.refl Fa) b⟩
/-- behind the body: the arguments -/
theorem RS.args {W : List Nat} {vs : List V} {ts : List T} {F F' : Addr → Prop} {σ : L2.St} {s : Sg} {ws : List V} {us : List T} {N : List Str} (r : RS K G H [] [] vs ts F) (g : Same G G') (ok : okA W 0 ts = true) (r' : RS K G' H' σ s ws us F') (o : Off W (L2.start N vs) σ) (hl : vs.length ≤ N.length) :
    ∃ F2, RS K G' H' (vs.map some) (backA W 0 ts s) ws us F2 ∧ ∀ a, F2 a → F' a := by
  obtain ⟨L1, L2, h1, h2, _⟩ := r.ex
  obtain ⟨M1, M2, k1, k2, nd, hn, hf⟩ := r'.ex
  obtain ⟨M', a, b⟩ := sl_args g 0 h2 ok k1 (by rw [o.1]; simp [_root_.L2.start]) fun j v e n => by
    rw [o.2 j (by simpa using n)]
    unfold _root_.L2.start
    obtain ⟨hj, _⟩ := List.getElem?_eq_some_iff.mp e
    rw [List.getElem?_append_left (by simpa using hj), List.getElem?_map, e]
    rfl
  have sb : (M' ++ M2).Sublist (M1 ++ M2) := List.Sublist.append b (List.Sublist.refl M2)
  exact ⟨fun a => a ∈ M' ++ M2, ⟨r'.gh, M', M2, a, k2, nd.sublist sb, fun x m => hn x (sb.subset m), fun x => .rfl⟩, fun x m => (hf x).mpr (sb.subset m)⟩
end
/-- a def by its body -/
theorem fnM_body {K : PySem.W.Frag} {W : List Nat} {N : List Str} {n : Nat} {t : TS} {b : MS} {E : XK} (h : SS' K (fun _ => E) W t b) (hn : n ≤ N.length) {vs : List V} {H : Hp} {Q : VK} (q : FnM K n (runF N.length W b) vs H Q E) :
    t { nx := fun _ H' => Q .non H', rt := Q } (L2.start N vs) H := by
  obtain ⟨hv, G, ts, F, r, p⟩ := q
  unfold runF at p
  by_cases ok : okA W 0 ts = true
  · rw [if_pos ok] at p
    have r0 : RS K G H (L2.start N vs) (ts.map some ++ List.replicate (N.length - ts.length) none) [] [] F := by
      obtain ⟨L1, L2, h1, h2, nd, hg, hf⟩ := r.ex
      cases h1
      have e : vs.length = ts.length := h2.len
      refine ⟨r.gh, L2, [], ?_, .nil, by simpa using nd, by simpa using hg, by simpa using hf⟩
      unfold _root_.L2.start
      rw [e]
      exact sl_start _ h2
    refine h G H _ _ [] [] F _ r0 ?_
    have hl : vs.length ≤ N.length := by omega
    cases e : b (ts.map some ++ List.replicate (N.length - ts.length) none) with
    | bad => rw [e] at p; exact p
    | ex x s =>
      rw [e] at p
      intro σ' G' H' F' g o r'
      obtain ⟨F2, r2, hf⟩ := r.args g.gg ok r' o hl
      exact p G' H' F2 (g.less hf) r2
    | ok f s =>
      rw [e] at p
      cases f with
      | nx =>
        intro σ' G' H' F' g o r'
        obtain ⟨F2, r2, hf⟩ := r.args g.gg ok r' o hl
        exact p .non G' H' F2 (g.less hf) (r2.push .non)
      | rt u =>
        intro v σ' G' H' F' g o r'
        obtain ⟨F2, r2, hf⟩ := r.args g.gg ok r' o hl
        exact p v G' H' F2 (g.less hf) r2
      | bk => exact p.elim
      | ct => exact p.elim
  · rw [if_neg ok] at p
    exact p.elim
/-! ### arguments: things, or slots that are lent -/
inductive AR where
  | br (i : Nat)
  | tm (t : T)
abbrev MA := Sg → R (List AR)
def tmT : List AR → List T
  | [] => []
  | .br _ :: us => tmT us
  | .tm t :: us => t :: tmT us
inductive AW (σ : L2.St) : List V → List AR → List V → Prop
  | nil : AW σ [] [] []
  | br {i : Nat} {w : V} {ws tv : List V} {us : List AR} : σ[i]? = some (some w) → AW σ ws us tv → AW σ (w :: ws) (.br i :: us) tv
  | tm {t : T} {w : V} {ws tv : List V} {us : List AR} : AW σ ws us tv → AW σ (w :: ws) (.tm t :: us) (w :: tv)
theorem AW.len {σ : L2.St} : ∀ {ws tv : List V} {us : List AR}, AW σ ws us tv → tv.length = (tmT us).length
  | _, _, _, .nil => rfl
  | _, _, _, .br _ h => h.len
  | _, _, _, .tm h => by simp [tmT, h.len]
theorem AW.len2 {σ : L2.St} : ∀ {ws tv : List V} {us : List AR}, AW σ ws us tv → ws.length = us.length
  | _, _, _, .nil => rfl
  | _, _, _, .br _ h => by simp [h.len2]
  | _, _, _, .tm h => by simp [h.len2]
def PostA (K : PySem.W.Frag) (E : L2.St → XK) (G H : Hp) (F : Addr → Prop) (σ : L2.St) (vs : List V) (ts : List T) (Q : List V → Hp → Prop) : R (List AR) → Prop
  | .ok us s => ∀ ws tv G' H' F', Go F G H F' G' H' → AW σ ws us tv → RS K G' H' σ s (tv ++ vs) (tmT us ++ ts) F' → Q ws H'
  | .ex x s => ∀ G' H' F', Go F G H F' G' H' → RS K G' H' σ s vs ts F' → EXc (E σ) x H'
  | .bad => False
def SAr (K : PySem.W.Frag) (E : L2.St → XK) (ta : TA) (m : MA) : Prop := ∀ G H σ s vs ts F Q, RS K G H σ s vs ts F → PostA K E G H F σ vs ts Q (m s) → ta σ H Q
def aNil : MA := fun s => .ok [] s
def aCons (m : ME) (ms : MA) : MA := fun s => (m s).bind fun t s => (ms s).bind fun us s => .ok (.tm t :: us) s
def aBr (i : Nat) (ms : MA) : MA := fun s => match s[i]? with
  | some (some _) => (ms s).bind fun us s => .ok (.br i :: us) s
  | _ => .bad
section
variable {K : PySem.W.Frag} {E : L2.St → XK} {te : TE} {ta : TA} {m : ME} {ms : MA} {G H : Hp} {F : Addr → Prop} {σ : L2.St} {s : Sg} {vs : List V} {ts : List T} {v : V} {t : T}
theorem RS.rotB {ws : List V} {us : List T} (r : RS K G H σ s (v :: (ws ++ vs)) (t :: (us ++ ts)) F) (hl : ws.length = us.length) : RS K G H σ s (ws ++ v :: vs) (us ++ t :: ts) F := r.perm fun L h => by
  cases h with
  | @cons _ _ _ _ Fa Fb o hs =>
  obtain ⟨La, Lb, h1, h2, rfl⟩ := hs.split hl
  refine ⟨La ++ (Fa ++ Lb), h1.join (.cons o h2), ?_⟩
  rw [← List.append_assoc, ← List.append_assoc]
  exact List.Perm.append_right Lb List.perm_append_comm
/-- an exception: the temporaries of the arguments so far are dropped -/
theorem RS.popN : ∀ {ws : List V} {us : List T} {vs : List V} {ts : List T} {F : Addr → Prop}, RS K G H σ s (ws ++ vs) (us ++ ts) F → ws.length = us.length → ∃ F', RS K G H σ s vs ts F' ∧ ∀ a, F' a → F a
  | [], [], _, _, F, r, _ => ⟨F, r, fun _ h => h⟩
  | w :: ws, u :: us, _, _, F, r, e => by
    obtain ⟨F', r', h⟩ := RS.pop r
    obtain ⟨F2, r2, h2⟩ := RS.popN (ws := ws) (us := us) r' (by simpa using e)
    exact ⟨F2, r2, fun a z => h a (h2 a z)⟩
theorem sa_Nil : SAr K E tNil aNil := fun G H σ s vs ts F Q r p => p [] [] G H F .refl .nil r
theorem sa_Cons (h : SE K E te m) (hs : SAr K E ta ms) : SAr K E (tCons te ta) (aCons m ms) := fun G H σ s vs ts F Q r p => by
  refine h G H σ s vs ts F _ r ?_
  unfold aCons at p
  cases e : m s with
  | bad => rw [e] at p; exact p
  | ex x s' => rw [e] at p; exact p
  | ok t s' =>
    rw [e] at p
    intro v G' H' F' g r'
    refine hs G' H' σ s' (v :: vs) (t :: ts) F' _ r' ?_
    cases e2 : ms s' with
    | bad => rw [show R.bind (R.ok t s') (fun t s => (ms s).bind fun us s => .ok (.tm t :: us) s) = (ms s').bind (fun us s => .ok (.tm t :: us) s) from rfl, e2] at p; exact p
    | ex x s2 =>
      rw [show R.bind (R.ok t s') (fun t s => (ms s).bind fun us s => .ok (.tm t :: us) s) = (ms s').bind (fun us s => .ok (.tm t :: us) s) from rfl, e2] at p
      intro G2 H2 F2 g2 r2
      obtain ⟨F3, r3, h3⟩ := r2.pop
      exact p G2 H2 F3 ((g.trans g2).less h3) r3
    | ok us s2 =>
      rw [show R.bind (R.ok t s') (fun t s => (ms s).bind fun us s => .ok (.tm t :: us) s) = (ms s').bind (fun us s => .ok (.tm t :: us) s) from rfl, e2] at p
      intro ws tv G2 H2 F2 g2 w r2
      exact p (v :: ws) (v :: tv) G2 H2 F2 (g.trans g2) (.tm w) (r2.rot w.len)
theorem sa_Br {i : Nat} (hs : SAr K E ta ms) : SAr K E (tCons (tVar i) ta) (aBr i ms) := fun G H σ s vs ts F Q r p => by
  unfold aBr at p
  cases e : s[i]? with
  | none => rw [e] at p; exact p.elim
  | some o =>
    cases o with
    | none => rw [e] at p; exact p.elim
    | some t =>
      rw [e] at p
      obtain ⟨v, q, _⟩ := r.take e
      refine ⟨v, q, hs G H σ s vs ts F _ r ?_⟩
      cases e2 : ms s with
      | bad => simp only [e2] at p; exact p
      | ex x s2 => simp only [e2] at p; exact p
      | ok us s2 => simp only [e2] at p; exact fun ws tv G2 H2 F2 g2 w r2 => p (v :: ws) tv G2 H2 F2 g2 (.br q w) r2
/-- data in a slot -/
theorem RS.peek {i : Nat} {x : PyData} (r : RS K G H σ s vs ts F) (h : s[i]? = some (some (.d x))) : ∃ v, σ[i]? = some (some v) ∧ Dt K G v x := by
  obtain ⟨L1, L2, h1, _⟩ := r.ex
  obtain ⟨v, F1, F2, a, b, _⟩ := h1.at h
  cases b with
  | d b => exact ⟨v, a, b⟩
/-- at the call -/
def ldA : List AR → Sg → Option (List T × Sg)
  | [], s => some ([], s)
  | .tm t :: us, s => (ldA us s).map fun p => (t :: p.1, p.2)
  | .br i :: us, s => match s[i]? with
    | some (some (.d x)) => (ldA us s).map fun p => (.d x :: p.1, p.2)
    | some (some t) => (ldA us (s.set i none)).map fun p => (t :: p.1, p.2)
    | _ => none
theorem RS.load : ∀ {us : List AR} {ws tv : List V} {s : Sg} {as : List T} {s' : Sg} {vs : List V} {ts : List T}, ldA us s = some (as, s') → AW σ ws us tv → RS K G H σ s (tv ++ vs) (tmT us ++ ts) F → RS K G H σ s' (ws ++ vs) (as ++ ts) F ∧ ws.length = as.length
  | [], _, _, _, _, _, _, _, e, .nil, r => by cases e; exact ⟨r, rfl⟩
  | .tm t :: us, _, _, s, _, _, vs, ts, e, .tm (w := w) h, r => by
    obtain ⟨p, e1, e2⟩ := Option.map_eq_some_iff.mp e
    cases e2
    obtain ⟨r2, l⟩ := RS.load (us := us) e1 h (RS.rotB (ws := _) (us := tmT us) r h.len)
    exact ⟨r2.rot l, by simp [l]⟩
  | .br i :: us, _, _, s, as, s', vs, ts, e, .br (w := w) q h, r => by
    unfold ldA at e
    cases z : s[i]? with
    | none => rw [z] at e; cases e
    | some o =>
      cases o with
      | none => rw [z] at e; cases e
      | some t =>
        rw [z] at e
        by_cases hd : ∃ x, t = .d x
        · obtain ⟨x, rfl⟩ := hd
          obtain ⟨p, e1, e2⟩ := Option.map_eq_some_iff.mp e
          cases e2
          obtain ⟨v, q', hv⟩ := r.peek z
          rw [q] at q'
          cases q'
          obtain ⟨r2, l⟩ := RS.load (us := us) e1 h (RS.rotB (ws := _) (us := tmT us) (r.push hv) h.len)
          exact ⟨r2.rot l, by simp [l]⟩
        have e : (ldA us (s.set i none)).map (fun p => (t :: p.1, p.2)) = some (as, s') := by
          cases t with
          | d x => exact absurd ⟨x, rfl⟩ hd
          | _ => exact e
        obtain ⟨p, e1, e2⟩ := Option.map_eq_some_iff.mp e
        cases e2
        obtain ⟨v, q', r1⟩ := r.take z
        rw [q] at q'
        cases q'
        obtain ⟨r2, l⟩ := RS.load (us := us) e1 h (RS.rotB (ws := _) (us := tmT us) r1 h.len)
        exact ⟨r2.rot l, by simp [l]⟩
/-- behind the call -/
def gbA : List AR → Sg → Sg → Sg
  | .br i :: us, some t :: as, s => gbA us as (match s[i]? with | some none => s.set i (some t) | _ => s)
  | _ :: us, _ :: as, s => gbA us as s
  | _, _, s => s
theorem RS.back : ∀ {us : List AR} {ws tv : List V} {as : Sg} {L : List Addr} {s : Sg} {F : Addr → Prop}, AW σ ws us tv → Sl K G H (ws.map some) as L → RS K G H σ s vs ts F → L.Nodup → (∀ a ∈ L, ¬ F a ∧ G a = none) → ∃ F', RS K G H σ (gbA us as s) vs ts F' ∧ ∀ a, F' a → F a ∨ a ∈ L
  | [], _, _, _, _, s, F, .nil, .nil, r, _, _ => ⟨F, r, fun _ h => .inl h⟩
  | .tm t :: us, _, _, _, _, s, F, .tm h, .no hs, r, nd, hn => by
    obtain ⟨F', a, b⟩ := RS.back h hs r nd hn
    exact ⟨F', a, b⟩
  | .tm t :: us, _, _, _, _, s, F, .tm h, .yes (F := Fa) (F' := Fb) ho hs, r, nd, hn => by
    rw [List.nodup_append] at nd
    obtain ⟨F', a, b⟩ := RS.back h hs r nd.2.1 fun a m => hn a (by simp [m])
    exact ⟨F', a, fun x z => (b x z).imp id fun m => by simp [m]⟩
  | .br i :: us, _, _, _, _, s, F, .br q h, .no hs, r, nd, hn => by
    obtain ⟨F', a, b⟩ := RS.back h hs r nd hn
    exact ⟨F', a, b⟩
  | .br i :: us, _, _, _, _, s, F, .br q h, .yes (t := t) (F := Fa) (F' := Fb) ho hs, r, nd, hn => by
    rw [List.nodup_append] at nd
    unfold gbA
    by_cases z : s[i]? = some none
    · have r2 := (r.pushO ho nd.1 (fun a m => (hn a (by simp [m])).1) fun a m => (hn a (by simp [m])).2).give z q
      obtain ⟨F', a, b⟩ := RS.back h hs r2 nd.2.1 fun a m => ⟨fun x => x.elim (hn a (by simp [m])).1 fun y => nd.2.2 a y a m rfl, (hn a (by simp [m])).2⟩
      rw [z]
      exact ⟨F', a, fun x y => (b x y).elim (fun y => y.imp id fun y => by simp [y]) fun y => .inr (by simp [y])⟩
    · obtain ⟨F', a, b⟩ := RS.back h hs r nd.2.1 fun a m => hn a (by simp [m])
      refine ⟨F', ?_, fun x z => (b x z).imp id fun m => by simp [m]⟩
      have e : (match s[i]? with | some none => s.set i (some t) | _ => s) = s := by
        split
        · next y => exact absurd y z
        · rfl
      rw [e]
      exact a
/-- the arguments apart from all else -/
theorem RS.part {ws : List V} {as : List T} (r : RS K G H σ s (ws ++ vs) (as ++ ts) F) (hl : ws.length = as.length) : ∃ Fa Fr, RS K G H [] [] ws as Fa ∧ RS K G H σ s vs ts Fr ∧ (∀ a, Fa a → F a) ∧ (∀ a, Fr a → F a ∧ ¬ Fa a) := by
  obtain ⟨L1, L2, h1, h2, nd, hn, hf⟩ := r.ex
  obtain ⟨La, Lb, k1, k2, rfl⟩ := h2.split hl
  have p : (L1 ++ (La ++ Lb)).Perm (La ++ (L1 ++ Lb)) := by
    rw [← List.append_assoc, ← List.append_assoc]
    exact List.Perm.append_right Lb List.perm_append_comm
  have nd' := p.nodup_iff.mp nd
  rw [List.nodup_append] at nd'
  refine ⟨fun a => a ∈ La, fun a => a ∈ L1 ++ Lb, ⟨r.gh, [], La, .nil, k1, by simpa using nd'.1, fun a m => hn a (by simp at m; simp [m]), fun a => by simp⟩, ⟨r.gh, L1, Lb, h1, k2, nd'.2.1, fun a m => hn a (p.mem_iff.mpr (by simp [List.mem_append.mp m])), fun a => .rfl⟩, fun a m => (hf a).mpr (by simp [m]), fun a m => ⟨(hf a).mpr (p.mem_iff.mpr (by simp [List.mem_append.mp m])), fun z => nd'.2.2 a z a m rfl⟩⟩
/-- what is apart stays behind a call -/
theorem RS.stays {G' H' : Hp} {Fa F' : Addr → Prop} (r : RS K G H σ s vs ts F) (g : Go Fa G H F' G' H') (gh : Same G' H') (hd : ∀ a, F a → ¬ Fa a) : RS K G' H' σ s vs ts F ∧ ∀ a, F' a → ¬ F a := by
  refine ⟨r.keep g.gg gh (fun a h => ?_) fun a h => ?_, fun a h z => ?_⟩
  · obtain ⟨o, q, _⟩ := r.trk h
    rw [q]
    exact g.hh a o q (hd a h)
  · obtain ⟨o, q, t, n⟩ := r.trk h
    cases z : G' a with
    | none => rfl
    | some u =>
      rcases g.nw a u z with y | y | y | ⟨y, t'⟩
      · rw [n] at y; cases y
      · rw [q] at y; cases y
      · exact (hd a h y).elim
      · rw [q] at y; cases y; rw [t] at t'; cases t'
  · obtain ⟨o, q, _⟩ := r.trk z
    rcases g.nf a h with y | y
    · exact hd a z y
    · rw [q] at y; cases y
def mCall (mf : MF) (ma : MA) : ME := fun s => (ma s).bind fun us s => match ldA us s with
  | none => .bad
  | some p => match mf p.1 with
    | .ok t as => .ok t (gbA us as p.2)
    | .ex x as => .ex x (gbA us as p.2)
    | .bad => .bad
/-- the heart of all calls -/
theorem call_M {n : Nat} {mf : MF} {us : List AR} {ws tv : List V} {as : List T} {s2 : Sg} {Q : VK} {F0 : Addr → Prop} {G0 H0 : Hp} (hw : AW σ ws us tv) (hl : ldA us s = some (as, s2)) (hn : ws.length = n) (r : RS K G H σ s (tv ++ vs) (tmT us ++ ts) F) (g : Go F0 G0 H0 F G H)
    (p : PostE K E G0 H0 F0 σ vs ts Q (match mf as with | .ok t as => .ok t (gbA us as s2) | .ex x as => .ex x (gbA us as s2) | .bad => .bad)) : FnM K n mf ws H Q (E σ) := by
  obtain ⟨r2, e⟩ := r.load hl hw
  obtain ⟨Fa, Fr, ra, rr, ha, hr⟩ := r2.part e
  refine ⟨hn, G, as, Fa, ra, ?_⟩
  have sub : ∀ {F' : Addr → Prop} {G' H' : Hp}, Go Fa G H F' G' H' → ∀ {F2 : Addr → Prop}, (∀ a, F2 a → Fr a ∨ F' a) → Go F0 G0 H0 F2 G' H' := fun {F' G' H'} g1 {F2} h => g.trans ⟨g1.gg, fun a o q n => g1.hh a o q fun z => n (ha a z), fun a o q => (g1.nw a o q).imp id fun z => z.imp id fun z => z.imp (ha a) id, fun a z => (h a z).elim (fun y => .inl (hr a y).1) fun y => (g1.nf a y).imp (ha a) id, g1.dm, g1.tp⟩
  cases z : mf as with
  | bad => rw [z] at p; exact p
  | ex x as' =>
    rw [z] at p
    intro G' H' F' g1 r1
    obtain ⟨L1, L2, h1, h2, nd, hg, hf⟩ := r1.ex
    obtain ⟨r3, dj⟩ := rr.stays g1 r1.gh fun a y => (hr a y).2
    cases h2
    obtain ⟨F4, r4, h4⟩ := RS.back hw h1 r3 (by simpa using nd) fun a m => ⟨dj a ((hf a).mpr (by simp [m])), hg a (by simp [m])⟩
    exact p G' H' F4 (sub g1 fun a y => (h4 a y).imp id fun m => (hf a).mpr (by simp [m])) r4
  | ok t as' =>
    rw [z] at p
    intro v G' H' F' g1 r1
    obtain ⟨L1, L2, h1, h2, nd, hg, hf⟩ := r1.ex
    obtain ⟨r3, dj⟩ := rr.stays g1 r1.gh fun a y => (hr a y).2
    cases h2 with
    | @cons _ _ _ _ Fx Fy ho hs =>
    cases hs
    rw [List.append_nil] at nd hg hf
    rw [List.nodup_append] at nd
    obtain ⟨F4, r4, h4⟩ := RS.back hw h1 r3 nd.1 fun a m => ⟨dj a ((hf a).mpr (by simp [m])), hg a (by simp [m])⟩
    have r5 := r4.pushO ho nd.2.1 (fun a m y => (h4 a y).elim (fun y => dj a ((hf a).mpr (by simp [m])) y) fun y => nd.2.2 a y a m rfl) fun a m => hg a (by simp [m])
    exact p v G' H' _ (sub g1 fun a y => y.elim (fun y => (h4 a y).imp id fun m => (hf a).mpr (by simp [m])) fun y => .inr ((hf a).mpr (by simp [y]))) r5
theorem ldA_len : ∀ {us : List AR} {s : Sg} {p : List T × Sg}, ldA us s = some p → p.1.length = us.length
  | [], _, _, e => by cases e; rfl
  | .tm t :: us, s, _, e => by
    obtain ⟨p, e1, e2⟩ := Option.map_eq_some_iff.mp e
    cases e2
    simp [ldA_len e1]
  | .br i :: us, s, _, e => by
    unfold ldA at e
    split at e
    · obtain ⟨p, e1, e2⟩ := Option.map_eq_some_iff.mp e
      cases e2
      simp [ldA_len e1]
    · obtain ⟨p, e1, e2⟩ := Option.map_eq_some_iff.mp e
      cases e2
      simp [ldA_len e1]
    · cases e
/-- how many arguments there are -/
def LenA (ms : MA) (n : Nat) : Prop := ∀ s us s', ms s = .ok us s' → us.length = n
theorem len_Nil : LenA aNil 0 := fun s us s' e => by cases e; rfl
theorem bind_ok {α β : Type} {r : R α} {k : α → Sg → R β} {b : β} {s : Sg} (h : r.bind k = .ok b s) : ∃ a s1, r = .ok a s1 ∧ k a s1 = .ok b s := by
  cases r with
  | ok a s1 => exact ⟨a, s1, rfl, h⟩
  | ex x s1 => cases h
  | bad => cases h
theorem len_Cons {n : Nat} (h : LenA ms n) : LenA (aCons m ms) (n + 1) := fun s us s' e => by
  obtain ⟨t, s1, _, e⟩ := bind_ok e
  obtain ⟨us', s2, e2, e⟩ := bind_ok e
  cases e
  simp [h _ _ _ e2]
theorem len_Br {n i : Nat} (h : LenA ms n) : LenA (aBr i ms) (n + 1) := fun s us s' e => by
  unfold aBr at e
  split at e
  · obtain ⟨us', s2, e2, e⟩ := bind_ok e
    cases e
    simp [h _ _ _ e2]
  · cases e
theorem se_Call {n : Nat} {mf : MF} (ha : SAr K E ta ms) (hn : LenA ms n) : SE K E (tCallS (FnM K n mf) E ta) (mCall mf ms) := fun G H σ s vs ts F Q r p => by
  refine ha G H σ s vs ts F _ r ?_
  unfold mCall at p
  cases e : ms s with
  | bad => rw [e] at p; exact p
  | ex x s' => rw [e] at p; exact p
  | ok us s' =>
    rw [e] at p
    intro ws tv G' H' F' g w r'
    simp only [R.bind] at p
    cases z : ldA us s' with
    | none => rw [z] at p; exact p.elim
    | some q =>
      rw [z] at p
      exact call_M w z (w.len2.trans (hn _ _ _ e)) r' g p
end
end S

namespace S
open PySem L2
/-! ### defs, methods, classes that keep their mirrors -/
section
variable {P : Program} {w : World} {K : PySem.W.Frag} {mg : Str → Option Value} {base : Heap} {C : Addr} {m x q : Str} {st : Stmt} {N ps : List Str} {k n : Nat} {W : List Nat} {b : MS}
theorem fnM_len {K : PySem.W.Frag} {n : Nat} {m : MF} {vs : List V} {H : Hp} {Q : VK} {E : XK} (h : FnM K n m vs H Q E) : vs.length = n := h.1
theorem FnIn.okF (F : FnIn K mg x st) (S : FnScope N ps (defScope st)) (hn : ps.length ≤ N.length)
    (hb : ∀ (kV doc pm : Value) (an : Option Addr) (cdv ct : Value) (us : List Value), us.length = ps.length → bindArgs (PySem.W.fnOf x x (defArgs st) (defBody st) (defScope st) .none kV doc pm an cdv ct) ⟨us, []⟩ = Pure.pure (ps.zip us))
    (body : ∀ (f : Addr) (cdv : Value) (A : Around) (outer : List Env) (s : Shared) (H : Hp) (E : XK), Room k (A.deeper (PyProof.Rows.envOfC x (defScope st) s.heap.objs.size f cdv)) →
      ∃ t, PSs (cxOf (L2.CX P w) P w K mg base N x (defScope st) f cdv A outer s H E) (defBody st) t ∧ SS' K (fun _ => E) W t b) : Has P w K mg base (L2.CX P w) (k + 1) x ps (FnM K ps.length (runF N.length W b)) := by
  obtain ⟨f, fd, F, hm⟩ := F.ex
  refine ⟨f, fd, F.okX S (fun vs H Q E h => fnM_len h) (fun cdv A outer s H vs Q E hr h => ?_), hm, F.kp, F.binds hb⟩
  obtain ⟨t, ht, hs⟩ := body f cdv A outer s H E hr
  exact ⟨t, ht, fnM_body hs hn h⟩
theorem MethIn.okF (F : MethIn K C m q st) (S : FnScope N ps (defScope st)) (hn : ps.length ≤ N.length)
    (hb : ∀ (kV doc pm : Value) (an : Option Addr) (cdv ct : Value) (us : List Value), us.length = ps.length → bindArgs (PySem.W.fnOf m q (defArgs st) (defBody st) (defScope st) .none kV doc pm an cdv ct) ⟨us, []⟩ = Pure.pure (ps.zip us))
    (body : ∀ (f : Addr) (cdv : Value) (A : Around) (outer : List Env) (s : Shared) (H : Hp) (E : XK), Room k (A.deeper (PyProof.Rows.envOfC q (defScope st) s.heap.objs.size f cdv)) →
      ∃ t, PSs (cxOf (L2.CX P w) P w K mg base N q (defScope st) f cdv A outer s H E) (defBody st) t ∧ SS' K (fun _ => E) W t b) : HasM P w K mg base (L2.CX P w) (k + 1) C m ps (FnM K ps.length (runF N.length W b)) := by
  obtain ⟨f, fd, F, hm⟩ := F
  refine ⟨f, fd, F.okX S (fun vs H Q E h => fnM_len h) (fun cdv A outer s H vs Q E hr h => ?_), hm, F.binds hb⟩
  obtain ⟨t, ht, hs⟩ := body f cdv A outer s H E hr
  exact ⟨t, ht, fnM_body hs hn h⟩
theorem CfunIn.okF (F : CfunIn K C m q st) (S : FnScope N ps (defScope st)) (hn : ps.length ≤ N.length)
    (hb : ∀ (kV doc pm : Value) (an : Option Addr) (cdv ct : Value) (us : List Value), us.length = ps.length → bindArgs (PySem.W.fnOf m q (defArgs st) (defBody st) (defScope st) .none kV doc pm an cdv ct) ⟨us, []⟩ = Pure.pure (ps.zip us))
    (body : ∀ (f : Addr) (cdv : Value) (A : Around) (outer : List Env) (s : Shared) (H : Hp) (E : XK), Room k (A.deeper (PyProof.Rows.envOfC q (defScope st) s.heap.objs.size f cdv)) →
      ∃ t, PSs (cxOf (L2.CX P w) P w K mg base N q (defScope st) f cdv A outer s H E) (defBody st) t ∧ SS' K (fun _ => E) W t b) : HasC P w K mg base (L2.CX P w) (k + 1) C m ps (FnM K ps.length (runF N.length W b)) := by
  obtain ⟨f, fd, mc, F, r, c⟩ := F
  refine ⟨f, fd, mc, F.okX S (fun vs H Q E h => fnM_len h) (fun cdv A outer s H vs Q E hr h => ?_), r, c, F.kp, F.binds hb⟩
  obtain ⟨t, ht, hs⟩ := body f cdv A outer s H E hr
  exact ⟨t, ht, fnM_body hs hn h⟩
theorem InitIn.okF (F : InitIn K mg x C q st) (S : FnScope N ps (defScope st)) (hn : ps.length ≤ N.length)
    (hb : ∀ (kV doc pm : Value) (an : Option Addr) (cdv ct : Value) (us : List Value), us.length = ps.length → bindArgs (PySem.W.fnOf "__init__" q (defArgs st) (defBody st) (defScope st) .none kV doc pm an cdv ct) ⟨us, []⟩ = Pure.pure (ps.zip us))
    (body : ∀ (f : Addr) (cdv : Value) (A : Around) (outer : List Env) (s : Shared) (H : Hp) (E : XK), Room k (A.deeper (PyProof.Rows.envOfC q (defScope st) s.heap.objs.size f cdv)) →
      ∃ t, PSs (cxOf (L2.CX P w) P w K mg base N q (defScope st) f cdv A outer s H E) (defBody st) t ∧ SS' K (fun _ => E) W t b) : HasI P w K mg base (L2.CX P w) (k + 1) x C ps (FnM K ps.length (runF N.length W b)) := by
  obtain ⟨f, fd, F, M, hm⟩ := F
  refine ⟨f, fd, F.okX S (fun vs H Q E h => fnM_len h) (fun cdv A outer s H vs Q E hr h => ?_), M, F.binds hb, hm⟩
  obtain ⟨t, ht, hs⟩ := body f cdv A outer s H E hr
  exact ⟨t, ht, fnM_body hs hn h⟩
end
/-! ### calls: the layer's rules -/
def tMethS (C : Addr) (m : Str) (sp : Sp) (E : L2.St → XK) (ta : TE) (t : TA) : TE := fun σ H Q => ta σ H fun x H1 => ∃ a dx fs, x = .ref a ∧ H1 a = some (.ins C dx fs) ∧ fs.lookup m = none ∧ t σ H1 fun vs H2 => sp (x :: vs) H2 Q (E σ)
def tCFunS (C : Addr) (sp : Sp) (E : L2.St → XK) (ta : TE) (t : TA) : TE := fun σ H Q => ta σ H fun x H1 => x = .ref C ∧ t σ H1 fun vs H2 => sp vs H2 Q (E σ)
section
variable {X : Cx} {CX : CXT} {j k : Nat} {C : Addr} {m x : Str} {ps : List Str} {sp : Sp} {o e : Expr} {es : List Expr} {ta : TE} {t : TA} {p pos apos : Pos} {pl : Sem Bool} {E : L2.St → XK}
theorem pe_fnS (h : Has X.prog X.w X.K X.mg X.base CX k x ps sp) (hr : Room j X.A) (hk : k ≤ j) (hg : Gl X x) (hx : ∀ σ, PassesAt CX X σ (E σ)) (ha : PA X (e :: es) t)
    (hdb : (x == ("__debug__" : Str)) = false := by decide) (he : starEach (e :: es) X.env = (false, eval e X.env) :: starEach es X.env := by rfl) (hpl : (backTo pos (starEach es X.env)).any (·.1) = false := by rfl) :
    PE X (.Call (.Name x p) (e :: es) [] pos) (tCallS sp E t) := by
  obtain ⟨f, fd, G, hm, kp, b⟩ := h
  exact pe_callS G (hr.mono hk) hg hm kp b hx ha hdb he hpl
theorem pe_mthS (he : PE X o ta) (c : Cls X.K C) (h : HasM X.prog X.w X.K X.mg X.base CX k C m ps sp) (hr : Room j X.A) (hk : k ≤ j) (hx : ∀ σ, PassesAt CX X σ (E σ)) (ha : PA X (e :: es) t)
    (hst : starEach (e :: es) X.env = (false, eval e X.env) :: starEach es X.env := by rfl) (hpl : (backTo pos (starEach es X.env)).any (·.1) = false := by rfl)
    (ht : eval (.Call (.Attribute o m apos) (e :: es) [] pos) X.env = (do
      let ov ← eval o X.env
      standAt apos.atName
      let (f, first) ← holding [ov] (getMethod ov m pl)
      callWith pos f first (backTo pos (starEach (e :: es) X.env)) (backToKw pos (keywordEach [] X.env))) := by rfl) :
    PE X (.Call (.Attribute o m apos) (e :: es) [] pos) (tMethS C m sp E ta t) := by
  obtain ⟨f, fd, F, hm, b⟩ := h
  refine ⟨fun pins s σ H Q I h => ?_⟩
  refine PySem.W.methodCall_KW (pl := pl) (thn (he.run pins s σ H _ I h) fun u s1 ⟨x, H1, I1, rx, a, dx, fs, ex, ea, l, q⟩ => ?_) ht
  subst ex
  obtain rfl : u = Value.ref a := rx
  refine getmeth_ok I1 ea c hm l ?_
  refine PySem.W.callWith_K (first := [.ref a]) (h₀ := X.base) I.ok.mod.kin hm.kp (thn (ha.run pos pins s1 σ H1 _ I1 q) fun us s2 ⟨vs, H2, I2, r, q2⟩ => ⟨I2.kIn, ?_⟩) hst hpl
  exact run_fnS (us := .ref a :: us) (vs := .ref a :: vs) F (hr.mono hk) b (hx σ) I2 (.cons rfl r) q2
theorem pe_mthS0 (he : PE X o ta) (c : Cls X.K C) (h : HasM X.prog X.w X.K X.mg X.base CX k C m ps sp) (hr : Room j X.A) (hk : k ≤ j) (hx : ∀ σ, PassesAt CX X σ (E σ))
    (ht : eval (.Call (.Attribute o m apos) [] [] pos) X.env = (do
      let ov ← eval o X.env
      standAt apos.atName
      let (f, first) ← holding [ov] (getMethod ov m pl)
      callWith pos f first (backTo pos (starEach [] X.env)) (backToKw pos (keywordEach [] X.env))) := by rfl) :
    PE X (.Call (.Attribute o m apos) [] [] pos) (tMethS C m sp E ta tNil) := by
  obtain ⟨f, fd, F, hm, b⟩ := h
  refine ⟨fun pins s σ H Q I h => ?_⟩
  refine PySem.W.methodCall_KW (pl := pl) (thn (he.run pins s σ H _ I h) fun u s1 ⟨x, H1, I1, rx, a, dx, fs, ex, ea, l, q⟩ => ?_) ht
  subst ex
  obtain rfl : u = Value.ref a := rx
  refine getmeth_ok I1 ea c hm l ?_
  exact PySem.W.callWith_K0 (first := [.ref a]) I1.kIn hm.kp (run_fnS (us := [.ref a]) (vs := [.ref a]) F (hr.mono hk) b (hx σ) I1 (.cons rfl .nil) q)
theorem pe_cfunS (he : PE X o ta) (h : HasC X.prog X.w X.K X.mg X.base CX k C m ps sp) (hr : Room j X.A) (hk : k ≤ j) (hx : ∀ σ, PassesAt CX X σ (E σ)) (ha : PA X (e :: es) t)
    (hst : starEach (e :: es) X.env = (false, eval e X.env) :: starEach es X.env := by rfl) (hpl : (backTo pos (starEach es X.env)).any (·.1) = false := by rfl)
    (ht : eval (.Call (.Attribute o m apos) (e :: es) [] pos) X.env = (do
      let ov ← eval o X.env
      standAt apos.atName
      let (f, first) ← holding [ov] (getMethod ov m pl)
      callWith pos f first (backTo pos (starEach (e :: es) X.env)) (backToKw pos (keywordEach [] X.env))) := by rfl) :
    PE X (.Call (.Attribute o m apos) (e :: es) [] pos) (tCFunS C sp E ta t) := by
  obtain ⟨f, fd, mc, F, r, c, kp, b⟩ := h
  refine ⟨fun pins s σ H Q I h => ?_⟩
  refine PySem.W.methodCall_KW (pl := pl) (thn (he.run pins s σ H _ I h) fun u s1 ⟨y, H1, I1, rx, ex, q⟩ => ?_) ht
  subst ex
  obtain rfl : u = Value.ref C := rx
  refine PySem.W.method_cls I1.kIn r.ga (ClX.getcval_ok I1 r c fun s2 I2 => ?_)
  refine PySem.W.callWith_K (h₀ := X.base) I.ok.mod.kin kp (thn (ha.run pos pins s2 σ H1 _ I2 q) fun us s3 ⟨vs, H2, I3, r3, q2⟩ => ⟨I3.kIn, ?_⟩) hst hpl
  exact run_fnS F (hr.mono hk) b (hx σ) I3 r3 q2
end
/-! ### pure calls -/
def fFn (mf : MF) (as : FA) : FP := fun w => (as w).bind fun ds => match mf (ds.map .d) with
  | .ok t _ => some t.data
  | _ => none
section
variable {K : PySem.W.Frag} {G H G' H' : Hp} {E : L2.St → XK}
theorem Go.ext {F' : Addr → Prop} (g : Go (fun _ => False) G H F' G' H') (gh : Same G' H') : Ext [] G H G' H' :=
  ⟨g.gg, gh, fun a o q _ => g.hh a o q id, fun a o q => (g.nw a o q).imp id fun z => z.imp id fun z => z.elim False.elim id, g.dm, g.tp⟩
theorem owall_d : ∀ {vs : List V} {ds : List PyData}, DtAll K G vs ds → OwAll K G H vs (ds.map .d) []
  | _, _, .nil => .nil
  | _, _, .cons h hs => .cons (F := []) (.d h) (owall_d hs)
theorem rs_d {vs : List V} {ds : List PyData} (gh : Same G H) (h : DtAll K G vs ds) : RS K G H [] [] vs (ds.map .d) (fun _ => False) :=
  ⟨gh, [], [], .nil, owall_d h, by simp, by simp, by simp⟩
theorem pure_M {n : Nat} {mf : MF} {vs : List V} {ds : List PyData} {t : T} {as : Sg} {G1 H1 : Hp} {Q : VK} {Ex : XK} (e : Ext [] G1 H1 G H) (h : DtAll K G vs ds) (hn : vs.length = n) (hm : mf (ds.map .d) = .ok t as) (q : ∀ v G2 H2, Ext [] G1 H1 G2 H2 → Dt K G2 v t.data → Q v H2) : FnM K n mf vs H Q Ex := by
  refine ⟨hn, G, ds.map .d, _, rs_d e.gh h, ?_⟩
  rw [hm]
  intro v G' H' F' g r
  obtain ⟨G2, F2, g2, r2⟩ := r.freeze
  exact q v G2 H' (e.same ((g.trans g2).ext r2.gh)) r2.top.1
theorem pp_fn {n : Nat} {mf : MF} {tas : TA} {as : FA} (ha : PPA K tas as) (hn : ∀ w ds, as w = some ds → ds.length = n) : PP K (tCallS (FnM K n mf) E tas) (fFn mf as) := fun G σ w d h e => by
  obtain ⟨ds, e1, e⟩ := Option.bind_eq_some_iff.mp e
  cases z : mf (ds.map .d) with
  | ok t as =>
    rw [z] at e
    cases e
    exact fun G1 H a gh Q q => ha G σ w ds h e1 G1 H a gh _ fun vs G2 H2 x hv => pure_M x hv ((dts_len hv).trans (hn w ds e1)) z q
  | _ => rw [z] at e; cases e
/-- the class of a thing, the names of its fields -/
def namesD : List (PyData × PyData) → List Str
  | [] => []
  | (.str f, _) :: ds => f :: namesD ds
  | _ :: ds => namesD ds
def clsD : PyData → Option (Addr × List Str)
  | .dict ((.none, .int (.ofNat C)) :: ds) => some (C, namesD ds)
  | _ => none
def clsT : T → Option (Addr × List Str)
  | .d x => clsD x
  | .obj C fs => some (C, fs.map (·.1))
  | _ => none
theorem dtfs_names : ∀ {fs : List (Str × V)} {ds : List (PyData × PyData)}, DtFs K G fs ds → namesD ds = fs.map (·.1)
  | _, _, .nil => rfl
  | _, _, .cons h hs => by simp [namesD, dtfs_names hs]
theorem lookup_no {m : Str} : ∀ {fs : List (Str × V)}, (fs.map (·.1)).contains m = false → fs.lookup m = none
  | [], _ => rfl
  | (f, v) :: fs, h => by
    simp only [List.map_cons, List.contains_cons, Bool.or_eq_false_iff] at h
    rw [List.lookup_cons, h.1]
    exact lookup_no h.2
theorem owf_names : ∀ {fs : List (Str × V)} {ts : List (Str × T)} {L : List Addr}, OwF K G H fs ts L → ts.map (·.1) = fs.map (·.1)
  | _, _, _, .nil => rfl
  | _, _, _, .cons h hs => by simp [owf_names hs]
theorem dt_cls {v : V} {d : PyData} {C : Addr} {ns : List Str} (h : Dt K G v d) (e : clsD d = some (C, ns)) : ∃ a dx fs, v = .ref a ∧ G a = some (.ins C dx fs) ∧ ns = fs.map (·.1) := by
  unfold clsD at e
  split at e
  · next c ds =>
    cases e
    generalize hx : PyData.dict ((PyData.none, PyData.int (Int.ofNat C)) :: ds) = d' at h
    cases h with
    | obj h1 h2 =>
      have e : _ = _ := hx
      injection e with e
      injection e with e1 e2
      injection e1 with e3 e4
      injection e4 with e5
      have e6 := Int.ofNat.inj e5
      subst e6 e2
      exact ⟨_, _, _, rfl, h1, dtfs_names h2⟩
    | dct h1 h2 =>
      injection hx with e
      generalize hy : (PyData.none, PyData.int (Int.ofNat C)) :: ds = l at e
      rw [← e] at h2
      cases h2 with
      | nil => cases hy
      | @cons k _ _ _ _ _ _ => injection hy with e1; injection e1 with e3; cases k <;> cases e3
    | exc h1 =>
      injection hx with e
      injection e with e1 e2
      injection e1 with e3
      cases e3
    | _ => cases hx
  · cases e
theorem ow_cls {v : V} {t : T} {C : Addr} {ns : List Str} {L : List Addr} {m : Str} (h : Ow K G H v t L) (gh : Same G H) (e : clsT t = some (C, ns)) (hm : ns.contains m = false) : ∃ a dx fs, v = .ref a ∧ H a = some (.ins C dx fs) ∧ fs.lookup m = none := by
  cases h with
  | d h =>
    obtain ⟨a, dx, fs, e1, e2, e3⟩ := dt_cls h e
    subst e3
    exact ⟨a, dx, fs, e1, gh _ _ e2, lookup_no hm⟩
  | obj h hs =>
    cases e
    rw [owf_names hs] at hm
    exact ⟨_, _, _, rfl, h, lookup_no hm⟩
  | lst h hs => cases e
  | dct h hs => cases e
  | dtp h hs => cases e
def fMeth (C : Addr) (m : Str) (mf : MF) (a : FP) (as : FA) : FP := fun w => (a w).bind fun x => match clsD x with
  | some (C', ns) => if C' = C ∧ ns.contains m = false then (as w).bind fun ds => (match mf (.d x :: ds.map .d) with | .ok t _ => some t.data | _ => none) else none
  | none => none
theorem pp_meth {n : Nat} {C : Addr} {m : Str} {mf : MF} {ta : TE} {tas : TA} {a : FP} {as : FA} (h0 : PP K ta a) (ha : PPA K tas as) (hn : ∀ w ds, as w = some ds → ds.length + 1 = n) : PP K (tMethS C m (FnM K n mf) E ta tas) (fMeth C m mf a as) := fun G σ w d h e => by
  obtain ⟨x, e0, e⟩ := Option.bind_eq_some_iff.mp e
  cases hc : clsD x with
  | none => rw [hc] at e; cases e
  | some p =>
    obtain ⟨C', ns⟩ := p
    rw [hc] at e
    by_cases hz : C' = C ∧ ns.contains m = false
    · have e' : (if C' = C ∧ ns.contains m = false then (as w).bind fun ds => (match mf (.d x :: List.map T.d ds) with | .ok t _ => some t.data | _ => none) else none) = some d := e
      rw [if_pos hz] at e'
      obtain ⟨rfl, hm⟩ := hz
      obtain ⟨ds, e1, e⟩ := Option.bind_eq_some_iff.mp e'
      cases z : mf (.d x :: ds.map .d) with
      | ok t as' =>
        rw [z] at e
        cases e
        exact fun G1 H ag gh Q q => h0 G σ w x h e0 G1 H ag gh _ fun v G2 H2 x2 hv => by
          obtain ⟨b, dx, fs, e2, e3, e4⟩ := dt_cls hv hc
          subst e4
          refine ⟨b, dx, fs, e2, x2.gh _ _ e3, lookup_no hm, ?_⟩
          exact ha G σ w ds h e1 G2 H2 (ag.trans x2.gg) x2.gh _ fun vs G3 H3 x3 hvs => pure_M (x2.same x3) (.cons (same_dt x3.gg hv) hvs) (by rw [List.length_cons, dts_len hvs]; exact hn w ds e1) z q
      | _ => rw [z] at e; cases e
    · rw [show (match some (C', ns) with | some (C', ns) => if C' = C ∧ ns.contains m = false then (as w).bind fun ds => (match mf (.d x :: List.map T.d ds) with | .ok t _ => some t.data | _ => none) else none | none => none) = none from if_neg hz] at e
      cases e
def LenP (as : FA) (n : Nat) : Prop := ∀ w ds, as w = some ds → ds.length = n
theorem lp_nil : LenP fNil 0 := fun w ds e => by cases e; rfl
theorem lp_cons {n : Nat} {a : FP} {as : FA} (h : LenP as n) : LenP (fCons a as) (n + 1) := fun w ds e => by
  obtain ⟨x, e1, e⟩ := Option.bind_eq_some_iff.mp e
  obtain ⟨y, e2, e⟩ := Option.bind_eq_some_iff.mp e
  cases e
  simp [h w y e2]
end
end S

namespace S
open PySem L2
/-! ### keyed lists, of anything -/
section
variable {κ α β : Type} [DecidableEq κ]
def valG (kvs : List (κ × α)) (k : κ) : Option α := (kvs.find? fun kv => decide (kv.1 = k)).map (·.2)
def putG (kvs : List (κ × α)) (k : κ) (v : α) : List (κ × α) :=
  if (kvs.any fun kv => decide (kv.1 = k)) = true then kvs.map (fun kv => if kv.1 = k then (kv.1, v) else kv) else kvs ++ [(k, v)]
def dropG (kvs : List (κ × α)) (k : κ) : List (κ × α) := kvs.filter fun kv => decide (kv.1 ≠ k)
/-- where a key stands first -/
def ixG (kvs : List (κ × α)) (k : κ) : Option Nat := kvs.findIdx? fun kv => decide (kv.1 = k)
theorem ixG_cons {p : κ × α} {r : List (κ × α)} {k : κ} : ixG (p :: r) k = if p.1 = k then some 0 else (ixG r k).map (· + 1) := by
  unfold ixG
  rw [List.findIdx?_cons]
  by_cases h : p.1 = k
  · simp [h]
  · simp [h]
theorem valG_cons {p : κ × α} {r : List (κ × α)} {k : κ} : valG (p :: r) k = if p.1 = k then some p.2 else valG r k := by
  unfold valG
  rw [List.find?_cons]
  by_cases h : p.1 = k
  · simp [h]
  · simp [h]
theorem valG_ix : ∀ {kvs : List (κ × α)} {k : κ} {x : α}, valG kvs k = some x → ∃ j, ixG kvs k = some j ∧ kvs[j]? = some (k, x)
  | [], _, _, e => by cases e
  | p :: r, k, x, e => by
    rw [valG_cons] at e
    rw [ixG_cons]
    by_cases h : p.1 = k
    · rw [if_pos h] at e
      cases e
      exact ⟨0, by rw [if_pos h], by rw [← h]; rfl⟩
    · rw [if_neg h] at e
      obtain ⟨j, e1, e2⟩ := valG_ix e
      exact ⟨j + 1, by rw [if_neg h, e1]; rfl, by simpa using e2⟩
theorem ix_valG : ∀ {kvs : List (κ × α)} {k : κ} {j : Nat}, ixG kvs k = some j → ∃ x, kvs[j]? = some (k, x) ∧ valG kvs k = some x
  | [], _, _, e => by cases e
  | p :: r, k, j, e => by
    rw [ixG_cons] at e
    rw [valG_cons]
    by_cases h : p.1 = k
    · rw [if_pos h] at e
      cases e
      exact ⟨p.2, by rw [← h]; rfl, by rw [if_pos h]⟩
    · rw [if_neg h] at e
      obtain ⟨j', e1, e2⟩ := Option.map_eq_some_iff.mp e
      obtain ⟨x, h1, h2⟩ := ix_valG e1
      subst e2
      exact ⟨x, by simpa using h1, by rw [if_neg h]; exact h2⟩
theorem ixG_keys : ∀ {kvs : List (κ × α)} {kws : List (κ × β)} {k : κ}, kvs.map (·.1) = kws.map (·.1) → ixG kvs k = ixG kws k
  | [], [], _, _ => rfl
  | p :: r, q :: r', k, e => by
    simp only [List.map_cons, List.cons.injEq] at e
    rw [ixG_cons, ixG_cons, e.1, ixG_keys e.2]
  | [], _ :: _, _, e => by simp at e
  | _ :: _, [], _, e => by simp at e
theorem valG_none_keys : ∀ {kvs : List (κ × α)} {kws : List (κ × β)} {k : κ}, kvs.map (·.1) = kws.map (·.1) → valG kvs k = none → valG kws k = none
  | [], [], _, _, _ => rfl
  | p :: r, q :: r', k, e, h => by
    simp only [List.map_cons, List.cons.injEq] at e
    rw [valG_cons] at h ⊢
    by_cases z : p.1 = k
    · rw [if_pos z] at h; cases h
    · rw [if_neg z] at h
      rw [if_neg (by rw [← e.1]; exact z)]
      exact valG_none_keys e.2 h
  | [], _ :: _, _, e, _ => by simp at e
  | _ :: _, [], _, e, _ => by simp at e
end
theorem valV_G {κ : Type} [DecidableEq κ] {kvs : List (κ × V)} {k : κ} : valV kvs k = valG kvs k := rfl
theorem putK_G {κ : Type} [DecidableEq κ] {kvs : List (κ × V)} {k : κ} {v : V} : putK kvs k v = putG kvs k v := rfl
theorem dropK_G {κ : Type} [DecidableEq κ] {kvs : List (κ × V)} {k : κ} : dropK kvs k = dropG kvs k := rfl
/-! ### less is owned -/
def SubP (B A : List Addr) : Prop := ∃ R : List Addr, A.Perm (B ++ R)
theorem SubP.refl {A : List Addr} : SubP A A := ⟨[], by simp⟩
theorem SubP.trans {A B C : List Addr} (a : SubP C B) (b : SubP B A) : SubP C A := by
  obtain ⟨R, h⟩ := a
  obtain ⟨R', h'⟩ := b
  exact ⟨R ++ R', h'.trans (by rw [← List.append_assoc]; exact List.Perm.append_right R' h)⟩
theorem SubP.perm {A B : List Addr} (a : A.Perm B) : SubP B A := ⟨[], by simpa using a⟩
theorem SubP.app {A B C D : List Addr} (a : SubP B A) (b : SubP D C) : SubP (B ++ D) (A ++ C) := by
  obtain ⟨R, h⟩ := a
  obtain ⟨R', h'⟩ := b
  refine ⟨R ++ R', (h.append h').trans ?_⟩
  simp only [List.append_assoc]
  refine List.Perm.append_left B ?_
  rw [← List.append_assoc, ← List.append_assoc]
  exact List.Perm.append_right R' List.perm_append_comm
theorem SubP.nodup {A B : List Addr} (a : SubP B A) (n : A.Nodup) : B.Nodup := by
  obtain ⟨R, h⟩ := a
  exact ((h.nodup_iff.mp n).sublist (List.sublist_append_left B R))
theorem SubP.mem {A B : List Addr} (a : SubP B A) {x : Addr} (m : x ∈ B) : x ∈ A := by
  obtain ⟨R, h⟩ := a
  exact h.mem_iff.mpr (List.mem_append_left R m)
theorem SubP.left {A B : List Addr} : SubP A (A ++ B) := ⟨B, .refl _⟩
theorem SubP.right {A B : List Addr} : SubP B (A ++ B) := ⟨A, List.perm_append_comm⟩
theorem SubP.nil {A : List Addr} : SubP [] A := ⟨A, by simp⟩
theorem perm3 {A B C : List Addr} : (A ++ (B ++ C)).Perm (B ++ (A ++ C)) := by
  rw [← List.append_assoc, ← List.append_assoc]
  exact List.Perm.append_right C List.perm_append_comm
/-! ### keyed trees as lists of trees -/
section
variable {K : PySem.W.Frag} {G G' H H' : Hp}
theorem owk_all : ∀ {vs : List (Key × V)} {ts : List (Key × T)} {L : List Addr}, OwK K G H vs ts L → vs.map (·.1) = ts.map (·.1) ∧ OwAll K G H (vs.map (·.2)) (ts.map (·.2)) L
  | _, _, _, .nil => ⟨rfl, .nil⟩
  | _, _, _, .cons h hs => by
    obtain ⟨e, a⟩ := owk_all hs
    exact ⟨by simp [e], .cons h a⟩
theorem all_owk : ∀ {vs : List (Key × V)} {ts : List (Key × T)} {L : List Addr}, vs.map (·.1) = ts.map (·.1) → OwAll K G H (vs.map (·.2)) (ts.map (·.2)) L → OwK K G H vs ts L
  | [], [], _, _, .nil => .nil
  | (k, v) :: vs, (k', t) :: ts, _, e, .cons h hs => by
    simp only [List.map_cons, List.cons.injEq] at e
    obtain ⟨rfl, e⟩ := e
    exact .cons h (all_owk e hs)
  | [], _ :: _, _, e, _ => by simp at e
  | _ :: _, [], _, e, _ => by simp at e
theorem owt_all : ∀ {vs : List (List Key × V)} {ts : List (List Key × T)} {L : List Addr}, OwKt K G H vs ts L → vs.map (·.1) = ts.map (·.1) ∧ OwAll K G H (vs.map (·.2)) (ts.map (·.2)) L
  | _, _, _, .nil => ⟨rfl, .nil⟩
  | _, _, _, .cons h hs => by
    obtain ⟨e, a⟩ := owt_all hs
    exact ⟨by simp [e], .cons h a⟩
theorem all_owt : ∀ {vs : List (List Key × V)} {ts : List (List Key × T)} {L : List Addr}, vs.map (·.1) = ts.map (·.1) → OwAll K G H (vs.map (·.2)) (ts.map (·.2)) L → OwKt K G H vs ts L
  | [], [], _, _, .nil => .nil
  | (k, v) :: vs, (k', t) :: ts, _, e, .cons h hs => by
    simp only [List.map_cons, List.cons.injEq] at e
    obtain ⟨rfl, e⟩ := e
    exact .cons h (all_owt e hs)
  | [], _ :: _, _, e, _ => by simp at e
  | _ :: _, [], _, e, _ => by simp at e
theorem owf_all : ∀ {vs : List (Str × V)} {ts : List (Str × T)} {L : List Addr}, OwF K G H vs ts L → vs.map (·.1) = ts.map (·.1) ∧ OwAll K G H (vs.map (·.2)) (ts.map (·.2)) L
  | _, _, _, .nil => ⟨rfl, .nil⟩
  | _, _, _, .cons h hs => by
    obtain ⟨e, a⟩ := owf_all hs
    exact ⟨by simp [e], .cons h a⟩
theorem all_owf : ∀ {vs : List (Str × V)} {ts : List (Str × T)} {L : List Addr}, vs.map (·.1) = ts.map (·.1) → OwAll K G H (vs.map (·.2)) (ts.map (·.2)) L → OwF K G H vs ts L
  | [], [], _, _, .nil => .nil
  | (k, v) :: vs, (k', t) :: ts, _, e, .cons h hs => by
    simp only [List.map_cons, List.cons.injEq] at e
    obtain ⟨rfl, e⟩ := e
    exact .cons h (all_owf e hs)
  | [], _ :: _, _, e, _ => by simp at e
  | _ :: _, [], _, e, _ => by simp at e
/-- one of them, and all else -/
theorem OwAll.at : ∀ {vs : List V} {ts : List T} {L : List Addr} {j : Nat} {t : T}, OwAll K G H vs ts L → ts[j]? = some t → ∃ v L1 L2, vs[j]? = some v ∧ Ow K G H v t L1 ∧ L.Perm (L1 ++ L2) ∧
    ∀ {G' H' : Hp} {t' : T} {L1' : List Addr}, Same G G' → Ow K G' H' v t' L1' → (∀ a ∈ L2, H' a = H a) → ∃ L', OwAll K G' H' vs (ts.set j t') L' ∧ L'.Perm (L1' ++ L2)
  | _, _, _, _, _, .nil, e => by simp at e
  | _, _, _, 0, _, .cons (F := Fa) (F' := Fb) h hs, e => by
    simp only [List.getElem?_cons_zero, Option.some.injEq] at e
    subst e
    refine ⟨_, Fa, Fb, rfl, h, .refl _, fun {G' H' t' L1'} g o k => ⟨L1' ++ Fb, .cons o (hs.keep g k), .refl _⟩⟩
  | _, _, _, j + 1, _, .cons (F := Fa) (F' := Fb) h hs, e => by
    obtain ⟨v, L1, L2, e1, o, p, k⟩ := hs.at (j := j) (by simpa using e)
    refine ⟨v, L1, Fa ++ L2, by simpa using e1, o, (List.Perm.append_left Fa p).trans perm3, fun {G' H' t' L1'} g o' kk => ?_⟩
    obtain ⟨L', a, b⟩ := k g o' fun a m => kk a (by simp [m])
    exact ⟨Fa ++ L', .cons (h.keep g fun a m => kk a (by simp [m])) a, (List.Perm.append_left Fa b).trans perm3⟩
end
/-! ### paths -/
inductive PStep where
  | ix (j : Nat)
  | ky (k : Key)
  | kt (k : List Key)
  | fl (f : Str)
def setAt {κ : Type} (kvs : List (κ × T)) (j : Nat) (t : T) : List (κ × T) := match kvs[j]? with
  | some p => kvs.set j (p.1, t)
  | none => kvs
def T.get : T → List PStep → Option T
  | t, [] => some t
  | .lst ts, .ix j :: p => (ts[j]?).bind fun t => t.get p
  | .dct kvs, .ky k :: p => (valG kvs k).bind fun t => t.get p
  | .dtp kvs, .kt k :: p => (valG kvs k).bind fun t => t.get p
  | .obj _ fs, .fl f :: p => (valG fs f).bind fun t => t.get p
  | _, _ => none
termination_by structural _ p => p
def T.put : T → List PStep → T → Option T
  | _, [], u => some u
  | .lst ts, .ix j :: p, u => (ts[j]?).bind fun t => (t.put p u).map fun t' => .lst (ts.set j t')
  | .dct kvs, .ky k :: p, u => (ixG kvs k).bind fun j => (valG kvs k).bind fun t => (t.put p u).map fun t' => .dct (setAt kvs j t')
  | .dtp kvs, .kt k :: p, u => (ixG kvs k).bind fun j => (valG kvs k).bind fun t => (t.put p u).map fun t' => .dtp (setAt kvs j t')
  | .obj C fs, .fl f :: p, u => (ixG fs f).bind fun j => (valG fs f).bind fun t => (t.put p u).map fun t' => .obj C (setAt fs j t')
  | _, _, _ => none
termination_by structural _ p _ => p
def AtV (H : Hp) : V → List PStep → V → Prop
  | v, [], w => v = w
  | v, .ix j :: p, w => ∃ a xs x, v = .ref a ∧ H a = some (.lst xs) ∧ xs[j]? = some x ∧ AtV H x p w
  | v, .ky k :: p, w => ∃ a xs x, v = .ref a ∧ H a = some (.dK xs) ∧ valG xs k = some x ∧ AtV H x p w
  | v, .kt k :: p, w => ∃ a xs x, v = .ref a ∧ H a = some (.dT xs) ∧ valG xs k = some x ∧ AtV H x p w
  | v, .fl f :: p, w => ∃ a C dx xs x, v = .ref a ∧ H a = some (.ins C dx xs) ∧ valG xs f = some x ∧ AtV H x p w
theorem setAt_keys {κ : Type} {kvs : List (κ × T)} {j : Nat} {t : T} : (setAt kvs j t).map (·.1) = kvs.map (·.1) := by
  unfold setAt
  cases e : kvs[j]? with
  | none => rfl
  | some p =>
    show (kvs.set j (p.1, t)).map (·.1) = _
    rw [List.map_set]
    apply List.ext_getElem?
    intro i
    by_cases h : j = i
    · subst h
      have hj : j < kvs.length := (List.getElem?_eq_some_iff.mp e).1
      rw [List.getElem?_set_self (by simpa using hj), List.getElem?_map, e]; rfl
    · rw [List.getElem?_set_ne h]
theorem setAt_vals {κ : Type} {kvs : List (κ × T)} {j : Nat} {t : T} : (setAt kvs j t).map (·.2) = (kvs.map (·.2)).set j t := by
  unfold setAt
  cases e : kvs[j]? with
  | none =>
    show kvs.map (·.2) = _
    rw [List.set_eq_of_length_le]
    simpa using List.getElem?_eq_none_iff.mp e
  | some p => show (kvs.set j (p.1, t)).map (·.2) = _; rw [List.map_set]
section
variable {K : PySem.W.Frag} {G G' H H' : Hp}
/-- the place that a path leads to, and all else -/
theorem Ow.focus : ∀ {p : List PStep} {v : V} {t t1 : T} {L : List Addr}, Ow K G H v t L → t.get p = some t1 → ∃ v1 L1 L2, AtV H v p v1 ∧ Ow K G H v1 t1 L1 ∧ L.Perm (L1 ++ L2) ∧
    ∀ {G' H' : Hp} {t2 : T} {L1' : List Addr}, Same G G' → Ow K G' H' v1 t2 L1' → (∀ a ∈ L2, H' a = H a) → ∃ t' L', t.put p t2 = some t' ∧ Ow K G' H' v t' L' ∧ L'.Perm (L1' ++ L2)
  | [], v, t, t1, L, h, e => by
    unfold T.get at e
    cases e
    refine ⟨v, L, [], rfl, h, by simp, fun {G' H' t2 L1'} g o k => ⟨t2, L1', ?_, o, by simp⟩⟩
    unfold T.put
    rfl
  | .ix j :: p, v, t, t1, L, h, e => by
    cases h with
    | @lst a vs ts F ha hs =>
      unfold T.get at e
      obtain ⟨t', e1, e2⟩ := Option.bind_eq_some_iff.mp e
      obtain ⟨x, L1, L2, hx, ox, px, kx⟩ := hs.at e1
      obtain ⟨v1, M1, M2, av, o1, p1, k1⟩ := Ow.focus (p := p) ox e2
      refine ⟨v1, M1, a :: (M2 ++ L2), ⟨a, vs, x, rfl, ha, hx, av⟩, o1, ?_, fun {G' H' t2 L1'} g o k => ?_⟩
      · refine (List.Perm.cons a (px.trans (List.Perm.append_right L2 p1))).trans ?_
        rw [List.append_assoc]
        exact (List.perm_middle (a := a) (l₁ := M1) (l₂ := M2 ++ L2)).symm
      · obtain ⟨u, N, e3, o3, p3⟩ := k1 g o fun b m => k b (by simp [m])
        obtain ⟨N2, o4, p4⟩ := kx g o3 fun b m => k b (by simp [m])
        refine ⟨.lst (ts.set j u), a :: N2, ?_, .lst ((k a (by simp)).trans ha) o4, ?_⟩
        · unfold T.put
          rw [e1]
          show (t'.put p t2).map _ = _
          rw [e3]; rfl
        · refine (List.Perm.cons a (p4.trans (List.Perm.append_right L2 p3))).trans ?_
          rw [List.append_assoc]
          exact (List.perm_middle (a := a) (l₁ := L1') (l₂ := M2 ++ L2)).symm
    | d h => unfold T.get at e; cases e
    | dct h hs => unfold T.get at e; cases e
    | dtp h hs => unfold T.get at e; cases e
    | obj h hs => unfold T.get at e; cases e
  | .ky k0 :: p, v, t, t1, L, h, e => by
    cases h with
    | @dct a vs ts F ha hs =>
      unfold T.get at e
      obtain ⟨t', e1, e2⟩ := Option.bind_eq_some_iff.mp e
      obtain ⟨j, hj, hjt⟩ := valG_ix e1
      obtain ⟨hk, ho⟩ := owk_all hs
      obtain ⟨x, L1, L2, hx, ox, px, kx⟩ := ho.at (j := j) (t := t') (by rw [List.getElem?_map, hjt]; rfl)
      obtain ⟨v1, M1, M2, av, o1, p1, k1⟩ := Ow.focus (p := p) ox e2
      have hv : valG vs k0 = some x := by
        obtain ⟨y, h1, h2⟩ := ix_valG (kvs := vs) (k := k0) (j := j) (by rw [ixG_keys hk]; exact hj)
        rw [List.getElem?_map, h1] at hx
        cases hx
        exact h2
      refine ⟨v1, M1, a :: (M2 ++ L2), ⟨a, vs, x, rfl, ha, hv, av⟩, o1, ?_, fun {G' H' t2 L1'} g o k => ?_⟩
      · refine (List.Perm.cons a (px.trans (List.Perm.append_right L2 p1))).trans ?_
        rw [List.append_assoc]
        exact (List.perm_middle (a := a) (l₁ := M1) (l₂ := M2 ++ L2)).symm
      · obtain ⟨u, N, e3, o3, p3⟩ := k1 g o fun b m => k b (by simp [m])
        obtain ⟨N2, o4, p4⟩ := kx g o3 fun b m => k b (by simp [m])
        refine ⟨.dct (setAt ts j u), a :: N2, ?_, .dct ((k a (by simp)).trans ha) (all_owk (by rw [setAt_keys]; exact hk) (by rw [setAt_vals]; exact o4)), ?_⟩
        · unfold T.put
          rw [hj, e1]
          show (t'.put p t2).map _ = _
          rw [e3]; rfl
        · refine (List.Perm.cons a (p4.trans (List.Perm.append_right L2 p3))).trans ?_
          rw [List.append_assoc]
          exact (List.perm_middle (a := a) (l₁ := L1') (l₂ := M2 ++ L2)).symm
    | d h => unfold T.get at e; cases e
    | lst h hs => unfold T.get at e; cases e
    | dtp h hs => unfold T.get at e; cases e
    | obj h hs => unfold T.get at e; cases e
  | .kt k0 :: p, v, t, t1, L, h, e => by
    cases h with
    | @dtp a vs ts F ha hs =>
      unfold T.get at e
      obtain ⟨t', e1, e2⟩ := Option.bind_eq_some_iff.mp e
      obtain ⟨j, hj, hjt⟩ := valG_ix e1
      obtain ⟨hk, ho⟩ := owt_all hs
      obtain ⟨x, L1, L2, hx, ox, px, kx⟩ := ho.at (j := j) (t := t') (by rw [List.getElem?_map, hjt]; rfl)
      obtain ⟨v1, M1, M2, av, o1, p1, k1⟩ := Ow.focus (p := p) ox e2
      have hv : valG vs k0 = some x := by
        obtain ⟨y, h1, h2⟩ := ix_valG (kvs := vs) (k := k0) (j := j) (by rw [ixG_keys hk]; exact hj)
        rw [List.getElem?_map, h1] at hx
        cases hx
        exact h2
      refine ⟨v1, M1, a :: (M2 ++ L2), ⟨a, vs, x, rfl, ha, hv, av⟩, o1, ?_, fun {G' H' t2 L1'} g o k => ?_⟩
      · refine (List.Perm.cons a (px.trans (List.Perm.append_right L2 p1))).trans ?_
        rw [List.append_assoc]
        exact (List.perm_middle (a := a) (l₁ := M1) (l₂ := M2 ++ L2)).symm
      · obtain ⟨u, N, e3, o3, p3⟩ := k1 g o fun b m => k b (by simp [m])
        obtain ⟨N2, o4, p4⟩ := kx g o3 fun b m => k b (by simp [m])
        refine ⟨.dtp (setAt ts j u), a :: N2, ?_, .dtp ((k a (by simp)).trans ha) (all_owt (by rw [setAt_keys]; exact hk) (by rw [setAt_vals]; exact o4)), ?_⟩
        · unfold T.put
          rw [hj, e1]
          show (t'.put p t2).map _ = _
          rw [e3]; rfl
        · refine (List.Perm.cons a (p4.trans (List.Perm.append_right L2 p3))).trans ?_
          rw [List.append_assoc]
          exact (List.perm_middle (a := a) (l₁ := L1') (l₂ := M2 ++ L2)).symm
    | d h => unfold T.get at e; cases e
    | lst h hs => unfold T.get at e; cases e
    | dct h hs => unfold T.get at e; cases e
    | obj h hs => unfold T.get at e; cases e
  | .fl k0 :: p, v, t, t1, L, h, e => by
    cases h with
    | @obj a C dx vs ts F ha hs =>
      unfold T.get at e
      obtain ⟨t', e1, e2⟩ := Option.bind_eq_some_iff.mp e
      obtain ⟨j, hj, hjt⟩ := valG_ix e1
      obtain ⟨hk, ho⟩ := owf_all hs
      obtain ⟨x, L1, L2, hx, ox, px, kx⟩ := ho.at (j := j) (t := t') (by rw [List.getElem?_map, hjt]; rfl)
      obtain ⟨v1, M1, M2, av, o1, p1, k1⟩ := Ow.focus (p := p) ox e2
      have hv : valG vs k0 = some x := by
        obtain ⟨y, h1, h2⟩ := ix_valG (kvs := vs) (k := k0) (j := j) (by rw [ixG_keys hk]; exact hj)
        rw [List.getElem?_map, h1] at hx
        cases hx
        exact h2
      refine ⟨v1, M1, a :: (M2 ++ L2), ⟨a, C, dx, vs, x, rfl, ha, hv, av⟩, o1, ?_, fun {G' H' t2 L1'} g o k => ?_⟩
      · refine (List.Perm.cons a (px.trans (List.Perm.append_right L2 p1))).trans ?_
        rw [List.append_assoc]
        exact (List.perm_middle (a := a) (l₁ := M1) (l₂ := M2 ++ L2)).symm
      · obtain ⟨u, N, e3, o3, p3⟩ := k1 g o fun b m => k b (by simp [m])
        obtain ⟨N2, o4, p4⟩ := kx g o3 fun b m => k b (by simp [m])
        refine ⟨.obj C (setAt ts j u), a :: N2, ?_, .obj (dx := dx) ((k a (by simp)).trans ha) (all_owf (by rw [setAt_keys]; exact hk) (by rw [setAt_vals]; exact o4)), ?_⟩
        · unfold T.put
          rw [hj, e1]
          show (t'.put p t2).map _ = _
          rw [e3]; rfl
        · refine (List.Perm.cons a (p4.trans (List.Perm.append_right L2 p3))).trans ?_
          rw [List.append_assoc]
          exact (List.perm_middle (a := a) (l₁ := L1') (l₂ := M2 ++ L2)).symm
    | d h => unfold T.get at e; cases e
    | lst h hs => unfold T.get at e; cases e
    | dct h hs => unfold T.get at e; cases e
    | dtp h hs => unfold T.get at e; cases e
end
end S

namespace S
open PySem L2
section
variable {K : PySem.W.Frag} {G G' H H' : Hp} {F : Addr → Prop} {σ : L2.St} {s : Sg} {vs : List V} {ts : List T}
theorem perm_of {A B : List Addr} (h : ∀ x, A.count x = B.count x) : A.Perm B := List.perm_iff_count.mpr h
theorem AtV.mono (e : Same H H') : ∀ {p : List PStep} {v w : V}, AtV H v p w → AtV H' v p w
  | [], _, _, h => h
  | .ix j :: p, _, _, ⟨a, xs, x, e1, e2, e3, e4⟩ => ⟨a, xs, x, e1, e _ _ e2, e3, e4.mono e⟩
  | .ky j :: p, _, _, ⟨a, xs, x, e1, e2, e3, e4⟩ => ⟨a, xs, x, e1, e _ _ e2, e3, e4.mono e⟩
  | .kt j :: p, _, _, ⟨a, xs, x, e1, e2, e3, e4⟩ => ⟨a, xs, x, e1, e _ _ e2, e3, e4.mono e⟩
  | .fl j :: p, _, _, ⟨a, C, dx, xs, x, e1, e2, e3, e4⟩ => ⟨a, C, dx, xs, x, e1, e _ _ e2, e3, e4.mono e⟩
theorem AtV.fun : ∀ {p : List PStep} {v w w' : V}, AtV H v p w → AtV H v p w' → w = w'
  | [], _, _, _, h, h' => by unfold AtV at h h'; rw [← h, ← h']
  | .ix j :: p, _, _, _, ⟨a, xs, x, e1, e2, e3, e4⟩, ⟨a', xs', x', f1, f2, f3, f4⟩ => by
    rw [e1] at f1; cases f1; rw [e2] at f2; cases f2; rw [e3] at f3; cases f3
    exact e4.fun f4
  | .ky j :: p, _, _, _, ⟨a, xs, x, e1, e2, e3, e4⟩, ⟨a', xs', x', f1, f2, f3, f4⟩ => by
    rw [e1] at f1; cases f1; rw [e2] at f2; cases f2; rw [e3] at f3; cases f3
    exact e4.fun f4
  | .kt j :: p, _, _, _, ⟨a, xs, x, e1, e2, e3, e4⟩, ⟨a', xs', x', f1, f2, f3, f4⟩ => by
    rw [e1] at f1; cases f1; rw [e2] at f2; cases f2; rw [e3] at f3; cases f3
    exact e4.fun f4
  | .fl j :: p, _, _, _, ⟨a, C, dx, xs, x, e1, e2, e3, e4⟩, ⟨a', C', dx', xs', x', f1, f2, f3, f4⟩ => by
    rw [e1] at f1; cases f1; rw [e2] at f2; cases f2; rw [e3] at f3; cases f3
    exact e4.fun f4
theorem AtV.app : ∀ {p q : List PStep} {v w z : V}, AtV H v p w → AtV H w q z → AtV H v (p ++ q) z
  | [], _, _, _, _, h, h' => by unfold AtV at h; subst h; exact h'
  | .ix j :: p, _, _, _, _, ⟨a, xs, x, e1, e2, e3, e4⟩, h' => ⟨a, xs, x, e1, e2, e3, e4.app h'⟩
  | .ky j :: p, _, _, _, _, ⟨a, xs, x, e1, e2, e3, e4⟩, h' => ⟨a, xs, x, e1, e2, e3, e4.app h'⟩
  | .kt j :: p, _, _, _, _, ⟨a, xs, x, e1, e2, e3, e4⟩, h' => ⟨a, xs, x, e1, e2, e3, e4.app h'⟩
  | .fl j :: p, _, _, _, _, ⟨a, C, dx, xs, x, e1, e2, e3, e4⟩, h' => ⟨a, C, dx, xs, x, e1, e2, e3, e4.app h'⟩
/-- the path reads nothing but what is owned -/
theorem Ow.atv : ∀ {p : List PStep} {v : V} {t t1 : T} {L : List Addr}, Ow K G H v t L → t.get p = some t1 → ∀ {H' : Hp}, (∀ a ∈ L, H' a = H a) → ∀ {w : V}, AtV H v p w → AtV H' v p w := fun {p v t t1 L} h e {H'} k {w} a => by
  obtain ⟨v1, L1, L2, a1, o1, _⟩ := h.focus e
  have h' : Ow K G H' v t L := h.keep (Same.refl G) k
  obtain ⟨v2, M1, M2, a2, o2, _⟩ := h'.focus e
  have ev := a.fun a1
  subst ev
  have key : ∀ {p : List PStep} {v : V} {t t1 : T} {L : List Addr}, Ow K G H v t L → t.get p = some t1 → (∀ a ∈ L, H' a = H a) → ∀ {w w' : V}, AtV H v p w → AtV H' v p w' → w = w' := by
    intro p
    induction p with
    | nil => intro v t t1 L _ _ _ w w' a b; unfold AtV at a b; rw [← a, ← b]
    | cons st p ih =>
      intro v t t1 L h e k w w' a b
      cases st with
      | ix j =>
        obtain ⟨a, xs, x, e1, e2, e3, e4⟩ := a
        obtain ⟨a', xs', x', f1, f2, f3, f4⟩ := b
        cases h with
        | @lst b vs ts F ha hs =>
          cases e1; cases f1
          rw [k _ (by simp), e2] at f2
          cases f2
          rw [e3] at f3
          cases f3
          rw [ha] at e2
          cases e2
          unfold T.get at e
          obtain ⟨t', q1, q2⟩ := Option.bind_eq_some_iff.mp e
          obtain ⟨y, M1, M2, hy, oy, py, _⟩ := hs.at q1
          rw [e3] at hy
          cases hy
          exact ih oy q2 (fun a m => k a (by simp [py.mem_iff, m])) e4 f4
        | d h => unfold T.get at e; cases e
        | dct h hs => unfold T.get at e; cases e
        | dtp h hs => unfold T.get at e; cases e
        | obj h hs => unfold T.get at e; cases e
      | ky j =>
        obtain ⟨a, xs, x, e1, e2, e3, e4⟩ := a
        obtain ⟨a', xs', x', f1, f2, f3, f4⟩ := b
        cases h with
        | @dct b vs ts F ha hs =>
          cases e1; cases f1
          rw [k _ (by simp), e2] at f2
          cases f2
          rw [e3] at f3
          cases f3
          rw [ha] at e2
          cases e2
          unfold T.get at e
          obtain ⟨t', q1, q2⟩ := Option.bind_eq_some_iff.mp e
          obtain ⟨j', hj, hjt⟩ := valG_ix q1
          obtain ⟨hk, ho⟩ := owk_all hs
          obtain ⟨y, M1, M2, hy, oy, py, _⟩ := ho.at (j := j') (t := t') (by rw [List.getElem?_map, hjt]; rfl)
          obtain ⟨z, h1, h2⟩ := ix_valG (kvs := xs) (k := j) (j := j') (by rw [ixG_keys hk]; exact hj)
          rw [List.getElem?_map, h1] at hy
          cases hy
          rw [e3] at h2
          cases h2
          exact ih oy q2 (fun a m => k a (by simp [py.mem_iff, m])) e4 f4
        | d h => unfold T.get at e; cases e
        | lst h hs => unfold T.get at e; cases e
        | dtp h hs => unfold T.get at e; cases e
        | obj h hs => unfold T.get at e; cases e
      | kt j =>
        obtain ⟨a, xs, x, e1, e2, e3, e4⟩ := a
        obtain ⟨a', xs', x', f1, f2, f3, f4⟩ := b
        cases h with
        | @dtp b vs ts F ha hs =>
          cases e1; cases f1
          rw [k _ (by simp), e2] at f2
          cases f2
          rw [e3] at f3
          cases f3
          rw [ha] at e2
          cases e2
          unfold T.get at e
          obtain ⟨t', q1, q2⟩ := Option.bind_eq_some_iff.mp e
          obtain ⟨j', hj, hjt⟩ := valG_ix q1
          obtain ⟨hk, ho⟩ := owt_all hs
          obtain ⟨y, M1, M2, hy, oy, py, _⟩ := ho.at (j := j') (t := t') (by rw [List.getElem?_map, hjt]; rfl)
          obtain ⟨z, h1, h2⟩ := ix_valG (kvs := xs) (k := j) (j := j') (by rw [ixG_keys hk]; exact hj)
          rw [List.getElem?_map, h1] at hy
          cases hy
          rw [e3] at h2
          cases h2
          exact ih oy q2 (fun a m => k a (by simp [py.mem_iff, m])) e4 f4
        | d h => unfold T.get at e; cases e
        | lst h hs => unfold T.get at e; cases e
        | dct h hs => unfold T.get at e; cases e
        | obj h hs => unfold T.get at e; cases e
      | fl j =>
        obtain ⟨a, C, dx, xs, x, e1, e2, e3, e4⟩ := a
        obtain ⟨a', C', dx', xs', x', f1, f2, f3, f4⟩ := b
        cases h with
        | @obj b C dx vs ts F ha hs =>
          cases e1; cases f1
          rw [k _ (by simp), e2] at f2
          cases f2
          rw [e3] at f3
          cases f3
          rw [ha] at e2
          cases e2
          unfold T.get at e
          obtain ⟨t', q1, q2⟩ := Option.bind_eq_some_iff.mp e
          obtain ⟨j', hj, hjt⟩ := valG_ix q1
          obtain ⟨hk, ho⟩ := owf_all hs
          obtain ⟨y, M1, M2, hy, oy, py, _⟩ := ho.at (j := j') (t := t') (by rw [List.getElem?_map, hjt]; rfl)
          obtain ⟨z, h1, h2⟩ := ix_valG (kvs := xs) (k := j) (j := j') (by rw [ixG_keys hk]; exact hj)
          rw [List.getElem?_map, h1] at hy
          cases hy
          rw [e3] at h2
          cases h2
          exact ih oy q2 (fun a m => k a (by simp [py.mem_iff, m])) e4 f4
        | d h => unfold T.get at e; cases e
        | lst h hs => unfold T.get at e; cases e
        | dct h hs => unfold T.get at e; cases e
        | dtp h hs => unfold T.get at e; cases e
  have q := key h e k a a2
  rw [q]
  exact a2
/-- the place at a path of a slot, some temporaries, and all else; one address is written -/
theorem RS.mut {i : Nat} {p : List PStep} {t0 t1 : T} {ws : List V} {us : List T} (r : RS K G H σ s (ws ++ vs) (us ++ ts) F) (hi : s[i]? = some (some t0)) (hg : t0.get p = some t1) (hl : ws.length = us.length) :
    ∃ u v1 L1 Lw, σ[i]? = some (some u) ∧ AtV H u p v1 ∧ Ow K G H v1 t1 L1 ∧ OwAll K G H ws us Lw ∧ (L1 ++ Lw).Nodup ∧ (∀ a ∈ L1 ++ Lw, G a = none) ∧
      ∀ {a : Addr} {o : HO} {t2 : T} {zs : List V} {xs : List T} {L1' Lz : List Addr}, a ∈ L1 → isTupO o = false → Ow K G (upd H a o) v1 t2 L1' → OwAll K G (upd H a o) zs xs Lz → SubP (L1' ++ Lz) (L1 ++ Lw) →
        ∃ t0' F', t0.put p t2 = some t0' ∧ Go F G H F' G (upd H a o) ∧ RS K G (upd H a o) σ (s.set i (some t0')) (zs ++ vs) (xs ++ ts) F' := by
  obtain ⟨S1, S2, h1, h2, nd, hn, hf⟩ := r.ex
  obtain ⟨u, F1, F2, eu, ou, hsl, pp⟩ := h1.at hi
  obtain ⟨La, Lb, k1, k2, rfl⟩ := h2.split hl
  obtain ⟨v1, M1, M2, av, o1, p1, kk⟩ := ou.focus hg
  have all : (S1 ++ (La ++ Lb)).Perm ((M1 ++ La) ++ (M2 ++ (F2 ++ Lb))) := perm_of fun x => by
    have c1 := List.perm_iff_count.mp pp x
    have c2 := List.perm_iff_count.mp p1 x
    simp only [List.count_append] at c1 c2 ⊢
    omega
  have nd2 := all.nodup_iff.mp nd
  have nd3 := nd2
  rw [List.nodup_append] at nd3
  refine ⟨u, v1, M1, La, eu, av, o1, k1, nd3.1, fun a m => hn a (all.mem_iff.mpr (List.mem_append_left _ m)), fun {a o t2 zs xs L1' Lz} ha ht o2 oz sub => ?_⟩
  have off : ∀ b ∈ M2 ++ (F2 ++ Lb), upd H a o b = H b := fun b m => upd_ne fun z => nd3.2.2 a (List.mem_append_left _ ha) b m z.symm
  obtain ⟨t0', N, e3, o3, p3⟩ := kk (G' := G) (H' := upd H a o) (Same.refl G) o2 fun b m => off b (List.mem_append_left _ m)
  have hsl' : Sl K G (upd H a o) σ (s.set i none) F2 := hsl.keep (Same.refl G) fun b m => off b (by simp [m])
  have hlen : i < s.length := (List.getElem?_eq_some_iff.mp hi).1
  obtain ⟨F3, h3, p4⟩ := hsl'.fill (i := i) (by simp [hlen]) eu o3
  rw [List.set_set] at h3
  have kb : OwAll K G (upd H a o) vs ts Lb := k2.keep (Same.refl G) fun b m => off b (by simp [m])
  have new : SubP (F3 ++ (Lz ++ Lb)) (S1 ++ (La ++ Lb)) := by
    refine SubP.trans ?_ (SubP.perm all)
    refine SubP.trans (SubP.perm (A := (L1' ++ Lz) ++ (M2 ++ (F2 ++ Lb))) (perm_of fun x => ?_)) (sub.app .refl)
    have c1 := List.perm_iff_count.mp p3 x
    have c2 := List.perm_iff_count.mp p4 x
    simp only [List.count_append] at c1 c2 ⊢
    omega
  have fa : F a := (hf a).mpr (all.mem_iff.mpr (by simp [ha]))
  obtain ⟨o', ea, ta, ga⟩ := r.trk fa
  refine ⟨t0', fun x => x ∈ F3 ++ (Lz ++ Lb), e3, ⟨Same.refl G, fun b w q n => ?_, fun b w q => .inl q, fun b m => .inl ((hf b).mpr (new.mem m)), fun b q => ?_, fun b w q t => ?_⟩, ⟨fun b w q => ?_, F3, Lz ++ Lb, h3, oz.join kb, new.nodup nd, fun b m => hn b (new.mem m), fun b => .rfl⟩⟩
  · have z : b ≠ a := fun z => n (z ▸ fa)
    rw [upd_ne z]; exact q
  · by_cases z : b = a
    · subst z; rw [upd_same] at q; cases q
    · rw [upd_ne z] at q; exact q
  · by_cases z : b = a
    · subst z; rw [upd_same] at q; cases q; rw [ht] at t; cases t
    · rw [upd_ne z] at q; exact .inr q
  · have z : b ≠ a := fun z => by subst z; rw [ga] at q; cases q
    rw [upd_ne z]; exact r.gh b w q
end
end S

namespace S
open PySem L2
abbrev MPth := Sg → Option (Nat × List PStep)
def atP (s : Sg) (ip : Nat × List PStep) : Option T := (s[ip.1]?).join.bind fun t => t.get ip.2
def putP (s : Sg) (ip : Nat × List PStep) (t : T) : Option Sg := (s[ip.1]?).join.bind fun t0 => (t0.put ip.2 t).map fun t' => s.set ip.1 (some t')
theorem join_some {α : Type} {o : Option (Option α)} {x : α} : o.join = some x ↔ o = some (some x) := by
  cases o with
  | none => simp
  | some y => cases y <;> simp
section
variable {K : PySem.W.Frag} {E : L2.St → XK} {G G' H H' : Hp} {F : Addr → Prop} {σ : L2.St} {s : Sg} {vs : List V} {ts : List T} {ip : Nat × List PStep} {t t1 : T} {W : List Nat}
theorem RS.mutP {ws : List V} {us : List T} (r : RS K G H σ s (ws ++ vs) (us ++ ts) F) (h : atP s ip = some t1) (hl : ws.length = us.length) :
    ∃ u v1 L1 Lw, σ[ip.1]? = some (some u) ∧ AtV H u ip.2 v1 ∧ Ow K G H v1 t1 L1 ∧ OwAll K G H ws us Lw ∧ (L1 ++ Lw).Nodup ∧ (∀ a ∈ L1 ++ Lw, G a = none) ∧
      ∀ {a : Addr} {o : HO} {t2 : T} {zs : List V} {xs : List T} {L1' Lz : List Addr}, a ∈ L1 → isTupO o = false → Ow K G (upd H a o) v1 t2 L1' → OwAll K G (upd H a o) zs xs Lz → SubP (L1' ++ Lz) (L1 ++ Lw) →
        ∃ s' F', putP s ip t2 = some s' ∧ Go F G H F' G (upd H a o) ∧ RS K G (upd H a o) σ s' (zs ++ vs) (xs ++ ts) F' := by
  obtain ⟨t0, h1, h2⟩ := Option.bind_eq_some_iff.mp h
  rw [join_some] at h1
  obtain ⟨u, v1, L1, Lw, a1, a2, a3, a4, a5, a6, k⟩ := r.mut h1 h2 hl
  refine ⟨u, v1, L1, Lw, a1, a2, a3, a4, a5, a6, fun {a o t2 zs xs L1' Lz} ha ht o2 oz sub => ?_⟩
  obtain ⟨t0', F', e, g, r'⟩ := k ha ht o2 oz sub
  refine ⟨_, F', ?_, g, r'⟩
  unfold putP
  rw [h1]
  show (t0.put ip.2 t2).map _ = _
  rw [e]; rfl
theorem RS.seeP (r : RS K G H σ s vs ts F) (h : atP s ip = some t1) : ∃ u v1 L1, σ[ip.1]? = some (some u) ∧ AtV H u ip.2 v1 ∧ Ow K G H v1 t1 L1 := by
  obtain ⟨u, v1, L1, Lw, a1, a2, a3, _⟩ := r.mutP (ws := []) (us := []) h rfl
  exact ⟨u, v1, L1, a1, a2, a3⟩
/-- a place -/
def SO (K : PySem.W.Frag) (to : TE) (pl : MPth) : Prop := ∀ G H σ s vs ts F Q ip t1, RS K G H σ s vs ts F → pl s = some ip → atP s ip = some t1 →
  (∀ u v G' H', Go F G H F G' H' → RS K G' H' σ s vs ts F → σ[ip.1]? = some (some u) → AtV H' u ip.2 v → Q v H') → to σ H Q
def pVar (i : Nat) : MPth := fun _ => some (i, [])
theorem so_var {i : Nat} : SO K (tVar i) (pVar i) := fun G H σ s vs ts F Q ip t1 r e h q => by
  cases e
  obtain ⟨u, v1, L1, a1, a2, a3⟩ := r.seeP h
  exact ⟨u, a1, q u u G H .refl r a1 rfl⟩
theorem lookup_valG : ∀ {fs : List (Str × V)} {f : Str}, fs.lookup f = valG fs f
  | [], _ => rfl
  | (g, v) :: fs, f => by
    rw [List.lookup_cons, valG_cons]
    by_cases h : g = f
    · subst h; simp
    · have : (f == g) = false := by simp; exact fun z => h z.symm
      rw [this, if_neg h]
      exact lookup_valG
/-- e.f -/
def pFl (C : Addr) (f : Str) (q : MPth) : MPth := fun s => (q s).bind fun ip => (atP s ip).bind fun t => match t with
  | .obj C' fs => if C' = C ∧ (valG fs f).isSome then some (ip.1, ip.2 ++ [.fl f]) else none
  | _ => none
theorem so_fl {C : Addr} {f : Str} {to : TE} {q : MPth} (h : SO K to q) (c : Cls K C) (n : NoAttr K C f) : SO K (tFld K to f) (pFl C f q) := fun G H σ s vs ts F Q ip t1 r e ha k => by
  obtain ⟨jp, e1, e⟩ := Option.bind_eq_some_iff.mp e
  obtain ⟨t, e2, e⟩ := Option.bind_eq_some_iff.mp e
  cases t with
  | obj C' fs =>
    by_cases hc : C' = C ∧ (valG fs f).isSome
    · have e : (if C' = C ∧ (valG fs f).isSome then some (jp.1, jp.2 ++ [.fl f]) else none) = some ip := e
      rw [if_pos hc] at e
      cases e
      obtain ⟨rfl, hf⟩ := hc
      refine h G H σ s vs ts F _ jp _ r e1 e2 fun u v G' H' g r' eu av => ?_
      obtain ⟨u', v1, L1, b1, b2, b3⟩ := r'.seeP e2
      rw [eu] at b1
      cases b1
      have := av.fun b2
      subst this
      cases b3 with
      | @obj a _ dx xs _ F' ho hs =>
      obtain ⟨hk, hall⟩ := owf_all hs
      obtain ⟨x, hx⟩ := Option.isSome_iff_exists.mp hf
      obtain ⟨j, hj, hjt⟩ := valG_ix hx
      obtain ⟨y, h1, h2⟩ := ix_valG (kvs := xs) (k := f) (j := j) (by rw [ixG_keys hk]; exact hj)
      refine ⟨a, C', dx, xs, y, rfl, ho, c, n, by rw [lookup_valG]; exact h2, k u y G' H' g r' eu (av.app ⟨a, C', dx, xs, y, rfl, ho, h2, rfl⟩)⟩
    · have e : (if C' = C ∧ (valG fs f).isSome then some (jp.1, jp.2 ++ [.fl f]) else none) = some ip := e
      rw [if_neg hc] at e
      cases e
  | d _ => cases e
  | lst _ => cases e
  | dct _ => cases e
  | dtp _ => cases e
/-- a pure step, while temporaries stand -/
theorem RS.pure {te : TE} {f : FP} {d : PyData} {Q : VK} (r : RS K G H σ s vs ts F) (h : PP K te f) (e : f (S.view s) = some d) (q : ∀ v G' H' G2, Go F G H F G' H' → RS K G' H' σ s vs ts F → Same H H' → Same G2 H' → Dt K G2 v d → Q v H') : te σ H Q :=
  h H σ (S.view s) d r.view e H H (Same.refl H) (Same.refl H) Q fun v G2 H2 x hv => by
    obtain ⟨g, r2⟩ := r.fill x
    exact q v _ H2 G2 g r2 (x.gg.trans x.gh) x.gh hv
/-- x[k] -/
def pIx (q : MPth) (f : FP) : MPth := fun s => (q s).bind fun ip => (atP s ip).bind fun t => match t, f (view s) with
  | .lst us, some (.int k) => (ixN us.length k).map fun j => (ip.1, ip.2 ++ [.ix j])
  | _, _ => none
theorem so_ix {to ti : TE} {q : MPth} {f : FP} (h : SO K to q) (hf : PP K ti f) : SO K (tOp (rIxL K) to ti) (pIx q f) := fun G H σ s vs ts F Q ip t1 r e ha k => by
  obtain ⟨jp, e1, e⟩ := Option.bind_eq_some_iff.mp e
  obtain ⟨t, e2, e⟩ := Option.bind_eq_some_iff.mp e
  split at e
  · next us n en =>
    obtain ⟨j, hj, e⟩ := Option.map_eq_some_iff.mp e
    cases e
    refine h G H σ s vs ts F _ jp _ r e1 e2 fun u v G' H' g r' eu av => ?_
    refine r'.pure hf en fun y G2 H2 G3 g2 r2 hh g3 hy => ?_
    obtain ⟨u', v1, L1, b1, b2, b3⟩ := r2.seeP e2
    rw [eu] at b1
    cases b1
    have := (av.mono hh).fun b2
    subst this
    cases b3 with
    | @lst a xs _ F' ho hs =>
    have hjl : j < us.length := (ixN_seq hj).2.1
    obtain ⟨x, M1, M2, hx, ox, _⟩ := hs.at (j := j) (t := us[j]) (by simp [hjl])
    refine ⟨a, xs, n, x, rfl, dt_int hy, SqL.of ho, ?_, k u x G2 H2 (g.trans g2) r2 eu ((av.mono hh).app ⟨a, xs, x, rfl, ho, hx, rfl⟩)⟩
    unfold atI
    rw [hs.len, hj]
    exact hx
  · cases e
def keyOfD : PyData → Option Key
  | .int i => some (.inl i)
  | .str x => some (.inr x)
  | _ => none
theorem keyOfD_eq {d : PyData} {k : Key} (h : keyOfD d = some k) : d = keyD k := by
  cases d <;> cases h <;> rfl
theorem dt_key {v : V} {k : Key} (h : Dt K G v (keyD k)) : v = kV k := by
  cases k with
  | inl i => exact dt_int h
  | inr x => exact dt_str h
def keysOfL : List PyData → Option (List Key)
  | [] => some []
  | d :: ds => (keyOfD d).bind fun k => (keysOfL ds).map fun ks => k :: ks
def keysOfD : PyData → Option (List Key)
  | .tuple (.int i :: ds) => keysOfL (.int i :: ds)
  | _ => none
theorem keysOfL_eq : ∀ {ds : List PyData} {ks : List Key}, keysOfL ds = some ks → ds = ks.map keyD
  | [], _, h => by cases h; rfl
  | d :: ds, _, h => by
    obtain ⟨k, h1, h⟩ := Option.bind_eq_some_iff.mp h
    obtain ⟨ks, h2, h⟩ := Option.map_eq_some_iff.mp h
    cases h
    rw [keyOfD_eq h1, keysOfL_eq h2]; rfl
theorem dts_keys : ∀ {xs : List V} {ks : List Key}, DtAll K G xs (ks.map keyD) → xs = ks.map kV
  | _, [], .nil => rfl
  | _, k :: ks, .cons a b => by rw [dt_key a, dts_keys b]; rfl
theorem dt_keys {v : V} {d : PyData} {ks : List Key} (h : Dt K G v d) (gh : Same G H) (e : keysOfD d = some ks) : ∃ b, v = .ref b ∧ H b = some (.tup (ks.map kV)) := by
  unfold keysOfD at e
  split at e
  · next i ds =>
    obtain ⟨a, xs, rfl, h1, h2⟩ := dt_tupI h rfl
    rw [keysOfL_eq e] at h2
    rw [dts_keys h2] at h1
    exact ⟨a, rfl, gh _ _ h1⟩
  · cases e
theorem keysOfD_eq {d : PyData} {ks : List Key} (e : keysOfD d = some ks) : d = .tuple (ks.map keyD) := by
  unfold keysOfD at e
  split at e
  · rw [← keysOfL_eq e]
  · cases e
/-- d[k] -/
def pKy (q : MPth) (f : FP) : MPth := fun s => (q s).bind fun ip => (atP s ip).bind fun t => (f (view s)).bind fun d => match t with
  | .dct us => (keyOfD d).bind fun k => if (valG us k).isSome then some (ip.1, ip.2 ++ [.ky k]) else none
  | .dtp us => (keysOfD d).bind fun k => if (valG us k).isSome then some (ip.1, ip.2 ++ [.kt k]) else none
  | _ => none
theorem so_ky {to ti : TE} {q : MPth} {f : FP} (h : SO K to q) (hf : PP K ti f) : SO K (tDGet to ti) (pKy q f) := fun G H σ s vs ts F Q ip t1 r e ha k => by
  obtain ⟨jp, e1, e⟩ := Option.bind_eq_some_iff.mp e
  obtain ⟨t, e2, e⟩ := Option.bind_eq_some_iff.mp e
  obtain ⟨d, en, e⟩ := Option.bind_eq_some_iff.mp e
  cases t with
  | dct us =>
    obtain ⟨ky, hk, e⟩ := Option.bind_eq_some_iff.mp e
    by_cases hs : (valG us ky).isSome = true
    · rw [if_pos hs] at e
      cases e
      refine h G H σ s vs ts F _ jp _ r e1 e2 fun u v G' H' g r' eu av => ?_
      refine r'.pure hf en fun y G2 H2 G3 g2 r2 hh g3 hy => ?_
      obtain ⟨u', v1, L1, b1, b2, b3⟩ := r2.seeP e2
      rw [eu] at b1
      cases b1
      have := (av.mono hh).fun b2
      subst this
      cases b3 with
      | @dct a xs _ F' ho hso =>
      obtain ⟨hkk, hall⟩ := owk_all hso
      obtain ⟨x, hx⟩ := Option.isSome_iff_exists.mp hs
      obtain ⟨j, hj, hjt⟩ := valG_ix hx
      obtain ⟨z, h1, h2⟩ := ix_valG (kvs := xs) (k := ky) (j := j) (by rw [ixG_keys hkk]; exact hj)
      rw [keyOfD_eq hk] at hy
      have q := DGet.k (k := ky) ho
      rw [valV_G, h2, ← dt_key hy] at q
      exact ⟨a, z, rfl, q, k u z G2 H2 (g.trans g2) r2 eu ((av.mono hh).app ⟨a, xs, z, rfl, ho, h2, rfl⟩)⟩
    · rw [if_neg hs] at e
      cases e
  | dtp us =>
    obtain ⟨ky, hk, e⟩ := Option.bind_eq_some_iff.mp e
    by_cases hs : (valG us ky).isSome = true
    · rw [if_pos hs] at e
      cases e
      refine h G H σ s vs ts F _ jp _ r e1 e2 fun u v G' H' g r' eu av => ?_
      refine r'.pure hf en fun y G2 H2 G3 g2 r2 hh g3 hy => ?_
      obtain ⟨u', v1, L1, b1, b2, b3⟩ := r2.seeP e2
      rw [eu] at b1
      cases b1
      have := (av.mono hh).fun b2
      subst this
      cases b3 with
      | @dtp a xs _ F' ho hso =>
      obtain ⟨hkk, hall⟩ := owt_all hso
      obtain ⟨x, hx⟩ := Option.isSome_iff_exists.mp hs
      obtain ⟨j, hj, hjt⟩ := valG_ix hx
      obtain ⟨z, h1, h2⟩ := ix_valG (kvs := xs) (k := ky) (j := j) (by rw [ixG_keys hkk]; exact hj)
      obtain ⟨b, rfl, hb⟩ := dt_keys hy g3 hk
      have q := DGet.t (k := ky) ho hb
      rw [valV_G, h2] at q
      exact ⟨a, z, rfl, q, k u z G2 H2 (g.trans g2) r2 eu ((av.mono hh).app ⟨a, xs, z, rfl, ho, h2, rfl⟩)⟩
    · rw [if_neg hs] at e
      cases e
  | d _ => cases e
  | lst _ => cases e
  | obj _ _ => cases e
/-- what stands there and never changes again -/
def mPath (pl : MPth) : ME := fun s => match (pl s).bind (atP s) with
  | some (.d x) => .ok (.d x) s
  | _ => .bad
theorem se_Path {to : TE} {pl : MPth} (h : SO K to pl) : SE K E to (mPath pl) := fun G H σ s vs ts F Q r p => by
  unfold mPath at p
  split at p
  · next x e =>
    obtain ⟨ip, e1, e2⟩ := Option.bind_eq_some_iff.mp e
    refine h G H σ s vs ts F Q ip _ r e1 e2 fun u v G' H' g r' eu av => ?_
    obtain ⟨u', v1, L1, b1, b2, b3⟩ := r'.seeP e2
    rw [eu] at b1
    cases b1
    have := av.fun b2
    subst this
    cases b3 with
    | d hd => exact p v G' H' F g (r'.push hd)
  · exact p.elim
/-! ### stores -/
variable {te to ti : TE} {m : ME} {pl : MPth} {f : FP}
/-- x[k] = e, x a list -/
def sSetL (m : ME) (pl : MPth) (f : FP) : MS := fun s => (m s).bind fun t s => match (pl s).bind fun ip => (atP s ip).bind fun u => (f (view s)).bind fun d => (match u, d with
  | .lst us, .int k => (ixN us.length k).bind fun j => putP s ip (.lst (us.set j t))
  | _, _ => none) with
  | some s' => .ok .nx s'
  | none => .bad
theorem OwAll.set : ∀ {vs : List V} {ts : List T} {L : List Addr} {j : Nat} {v : V} {t : T} {Lt : List Addr}, OwAll K G H vs ts L → Ow K G H v t Lt → ∃ L', OwAll K G H (vs.set j v) (ts.set j t) L' ∧ SubP L' (L ++ Lt)
  | _, _, _, _, _, _, Lt, .nil, _ => ⟨[], .nil, .nil⟩
  | _, _, _, 0, _, _, Lt, .cons (F := Fa) (F' := Fb) h hs, o => ⟨Lt ++ Fb, .cons o hs, ⟨Fa, perm_of fun x => by simp only [List.count_append]; omega⟩⟩
  | _, _, _, j + 1, _, _, Lt, .cons (F := Fa) (F' := Fb) h hs, o => by
    obtain ⟨L', a, R, b⟩ := hs.set (j := j) o
    refine ⟨Fa ++ L', .cons h a, R, perm_of fun x => ?_⟩
    have c := List.perm_iff_count.mp b x
    simp only [List.count_append] at c ⊢
    omega
theorem nodup_head {a : Addr} {A B : List Addr} (n : (a :: A ++ B).Nodup) : a ∉ A ++ B := by
  rw [List.cons_append, List.nodup_cons] at n
  exact n.1
theorem subp_cons {a : Addr} {A B : List Addr} (h : SubP A B) : SubP (a :: A) (a :: B) := by
  obtain ⟨R, h⟩ := h
  exact ⟨R, by rw [List.cons_append]; exact .cons a h⟩
theorem ss_SetL (hm : SE K E te m) (ho : SO K to pl) (hf : PP K ti f) : SS' K E W (tAsg te (gSub to ti rSetL)) (sSetL m pl f) := fun G H σ s vs ts F D r p => by
  refine hm G H σ s vs ts F _ r ?_
  unfold sSetL at p
  cases e : m s with
  | bad => rw [e] at p; exact p
  | ex x s' => rw [e] at p; exact fun G' H' F' g r' => p σ G' H' F' g .refl r'
  | ok t s' =>
    rw [e] at p
    intro v G' H' F' g r'
    simp only [R.bind] at p
    split at p
    · next s2 e2 =>
      obtain ⟨ip, e3, ex⟩ := Option.bind_eq_some_iff.mp e2
      obtain ⟨u, e4, ey⟩ := Option.bind_eq_some_iff.mp ex
      obtain ⟨d, e5, ez⟩ := Option.bind_eq_some_iff.mp ey
      clear e2 ex ey
      split at ez
      · next us k =>
        obtain ⟨j, hj, ez⟩ := Option.bind_eq_some_iff.mp ez
        refine ho G' H' σ s' (v :: vs) (t :: ts) F' _ ip _ r' e3 e4 fun w x G2 H2 g2 r2 eu av => ?_
        refine r2.pure hf e5 fun y G3 H3 G4 g3 r3 hh g4 hy => ?_
        obtain ⟨w', v1, L1, Lw, b1, b2, b3, b4, b5, b6, kk⟩ := RS.mutP (ws := [v]) (us := [t]) r3 e4 rfl
        rw [eu] at b1
        cases b1
        have := (av.mono hh).fun b2
        subst this
        cases b3 with
        | @lst a xs _ F2 hl hs =>
        cases b4 with
        | @cons _ _ _ _ Ft Fn ot ont =>
        cases ont
        rw [List.append_nil] at b5 b6 kk
        refine ⟨a, xs, k, j, rfl, dt_int hy, hl, by rw [hs.len]; exact hj, ?_⟩
        have na := nodup_head b5
        have keep : ∀ {L : List Addr}, (∀ b ∈ L, b ∈ F2 ++ Ft) → ∀ b ∈ L, upd H3 a (.lst (xs.set j v)) b = H3 b := fun hL b m => upd_ne fun z => na (z ▸ hL b m)
        obtain ⟨L', o', sb⟩ := (hs.keep (H' := upd H3 a (.lst (xs.set j v))) (Same.refl G3) (keep fun b m => by simp [m])).set (j := j) (ot.keep (Same.refl G3) (keep fun b m => by simp [m]))
        obtain ⟨s3, F3, e6, g6, r6⟩ := kk (a := a) (o := .lst (xs.set j v)) (zs := []) (xs := []) (by simp) rfl (.lst upd_same o') .nil (by
          rw [List.append_nil, List.cons_append]
          exact subp_cons sb)
        rw [e6] at ez
        cases ez
        exact p σ G3 _ F3 (((g.trans g2).trans g3).trans g6) .refl r6
      · cases ez
    · exact p.elim
/-- fields -/
def putFG {α : Type} (f : Str) (v : α) : List (Str × α) → List (Str × α)
  | [] => [(f, v)]
  | (g, x) :: r => if g = f then (g, v) :: r else (g, x) :: putFG f v r
theorem owf_put {fn : Str} {v : V} {t : T} {Lt : List Addr} : ∀ {vs : List (Str × V)} {ts : List (Str × T)} {L : List Addr}, OwF K G H vs ts L → Ow K G H v t Lt → ∃ L', OwF K G H (putF fn v vs) (putFG fn t ts) L' ∧ SubP L' (L ++ Lt)
  | _, _, _, .nil, o => ⟨Lt ++ [], .cons o .nil, by simpa using SubP.refl⟩
  | _, _, _, .cons (k := k) (F := Fa) (F' := Fb) h hs, o => by
    unfold putF putFG
    by_cases e : k = fn
    · rw [if_pos e, if_pos e]
      exact ⟨Lt ++ Fb, .cons o hs, ⟨Fa, perm_of fun x => by simp only [List.count_append]; omega⟩⟩
    · rw [if_neg e, if_neg e]
      obtain ⟨L', a, R, b⟩ := owf_put hs o
      refine ⟨Fa ++ L', .cons h a, R, perm_of fun x => ?_⟩
      have c := List.perm_iff_count.mp b x
      simp only [List.count_append] at c ⊢
      omega
/-- x.f = e -/
def sSetF (C : Addr) (fn : Str) (m : ME) (pl : MPth) : MS := fun s => (m s).bind fun t s => match (pl s).bind fun ip => (atP s ip).bind fun u => (match u with
  | .obj C' fs => if C' = C ∧ fs.length < 1000 then putP s ip (.obj C' (putFG fn t fs)) else none
  | _ => none) with
  | some s' => .ok .nx s'
  | none => .bad
theorem owf_len : ∀ {vs : List (Str × V)} {ts : List (Str × T)} {L : List Addr}, OwF K G H vs ts L → vs.length = ts.length
  | _, _, _, .nil => rfl
  | _, _, _, .cons _ h => by simp [owf_len h]
theorem ss_SetF {C : Addr} {fn : Str} (hm : SE K E te m) (ho : SO K to pl) (c : Cls K C) (n : NoAttr K C fn) : SS' K E W (sFld K to te fn) (sSetF C fn m pl) := fun G H σ s vs ts F D r p => by
  refine hm G H σ s vs ts F _ r ?_
  unfold sSetF at p
  cases e : m s with
  | bad => rw [e] at p; exact p
  | ex x s' => rw [e] at p; exact fun G' H' F' g r' => p σ G' H' F' g .refl r'
  | ok t s' =>
    rw [e] at p
    intro v G' H' F' g r'
    simp only [R.bind] at p
    split at p
    · next s2 e2 =>
      obtain ⟨ip, e3, ey⟩ := Option.bind_eq_some_iff.mp e2
      obtain ⟨u, e4, ez⟩ := Option.bind_eq_some_iff.mp ey
      clear e2 ey
      split at ez
      · next C' fs =>
        by_cases hc : C' = C ∧ fs.length < 1000
        · rw [if_pos hc] at ez
          obtain ⟨rfl, hfl⟩ := hc
          refine ho G' H' σ s' (v :: vs) (t :: ts) F' _ ip _ r' e3 e4 fun w x G3 H3 g2 r3 eu av => ?_
          obtain ⟨w', v1, L1, Lw, b1, b2, b3, b4, b5, b6, kk⟩ := RS.mutP (ws := [v]) (us := [t]) r3 e4 rfl
          rw [eu] at b1
          cases b1
          have := av.fun b2
          subst this
          cases b3 with
          | @obj a _ dx xs _ F2 hl hs =>
          cases b4 with
          | @cons _ _ _ _ Ft Fn ot ont =>
          cases ont
          rw [List.append_nil] at b5 b6 kk
          refine ⟨a, C', dx, xs, rfl, hl, c, n, by rw [owf_len hs]; exact hfl, ?_⟩
          have na := nodup_head b5
          have keep : ∀ {L : List Addr}, (∀ b ∈ L, b ∈ F2 ++ Ft) → ∀ b ∈ L, upd H3 a (.ins C' dx (putF fn v xs)) b = H3 b := fun hL b m => upd_ne fun z => na (z ▸ hL b m)
          obtain ⟨L', o', sb⟩ := owf_put (fn := fn) (hs.keep (H' := upd H3 a (.ins C' dx (putF fn v xs))) (Same.refl G3) (keep fun b m => by simp [m])) (ot.keep (Same.refl G3) (keep fun b m => by simp [m]))
          obtain ⟨s3, F3, e6, g6, r6⟩ := kk (a := a) (o := .ins C' dx (putF fn v xs)) (zs := []) (xs := []) (by simp) rfl (.obj upd_same o') .nil (by
            rw [List.append_nil, List.cons_append]
            exact subp_cons sb)
          rw [e6] at ez
          cases ez
          exact p σ G3 _ F3 ((g.trans g2).trans g6) .refl r6
        · rw [if_neg hc] at ez
          cases ez
      · cases ez
    · exact p.elim
end
end S

namespace S
open PySem L2
section
variable {K : PySem.W.Frag} {E : L2.St → XK} {G G' H H' : Hp} {F : Addr → Prop} {σ : L2.St} {s : Sg} {vs : List V} {ts : List T} {ip : Nat × List PStep} {t t1 : T} {W : List Nat}
section
variable {κ : Type} [DecidableEq κ]
def oneG {α : Type} (kvs : List (κ × α)) (k : κ) : Bool := decide ((kvs.filter fun kv => decide (kv.1 = k)).length ≤ 1)
theorem rep_no {α : Type} {k : κ} {v : α} : ∀ {kvs : List (κ × α)}, (kvs.filter fun kv => decide (kv.1 = k)).length = 0 → kvs.map (fun kv => if kv.1 = k then (kv.1, v) else kv) = kvs
  | [], _ => rfl
  | p :: r, h => by
    rw [List.filter_cons] at h
    by_cases e : p.1 = k
    · simp [e] at h
    · simp only [e, decide_false, Bool.false_eq_true, if_false] at h
      rw [List.map_cons, if_neg e, rep_no h]
theorem filt_len {α β : Type} {k : κ} : ∀ {a : List (κ × α)} {b : List (κ × β)}, a.map (·.1) = b.map (·.1) → (a.filter fun kv => decide (kv.1 = k)).length = (b.filter fun kv => decide (kv.1 = k)).length
  | [], [], _ => rfl
  | p :: r, q :: r', e => by
    simp only [List.map_cons, List.cons.injEq] at e
    rw [List.filter_cons, List.filter_cons, e.1]
    have := filt_len (k := k) e.2
    split <;> simp [this]
  | [], _ :: _, e => by simp at e
  | _ :: _, [], e => by simp at e
theorem any_keys {α β : Type} {k : κ} : ∀ {a : List (κ × α)} {b : List (κ × β)}, a.map (·.1) = b.map (·.1) → (a.any fun kv => decide (kv.1 = k)) = (b.any fun kv => decide (kv.1 = k))
  | [], [], _ => rfl
  | p :: r, q :: r', e => by
    simp only [List.map_cons, List.cons.injEq] at e
    rw [List.any_cons, List.any_cons, e.1, any_keys e.2]
  | [], _ :: _, e => by simp at e
  | _ :: _, [], e => by simp at e
theorem rep_keys {α : Type} {k : κ} {v : α} : ∀ {kvs : List (κ × α)}, (kvs.map (fun kv => if kv.1 = k then (kv.1, v) else kv)).map (·.1) = kvs.map (·.1)
  | [] => rfl
  | p :: r => by
    rw [List.map_cons, List.map_cons, rep_keys, List.map_cons]
    by_cases e : p.1 = k
    · rw [if_pos e]
    · rw [if_neg e]
theorem rep_d {k : κ} {v : V} {x : PyData} (o : Ow K G H v (.d x) []) : ∀ {vs : List (κ × V)} {ts : List (κ × T)} {L : List Addr}, vs.map (·.1) = ts.map (·.1) → OwAll K G H (vs.map (·.2)) (ts.map (·.2)) L →
    ∃ L', OwAll K G H ((vs.map (fun kv => if kv.1 = k then (kv.1, v) else kv)).map (·.2)) ((ts.map (fun kv => if kv.1 = k then (kv.1, T.d x) else kv)).map (·.2)) L' ∧ SubP L' L
  | [], [], _, _, .nil => ⟨[], .nil, .refl⟩
  | p :: r, q :: r', _, e, .cons (F := Fa) (F' := Fb) h hs => by
    simp only [List.map_cons, List.cons.injEq] at e
    obtain ⟨L', a, b⟩ := rep_d (k := k) o e.2 hs
    rw [List.map_cons, List.map_cons, List.map_cons, List.map_cons, e.1]
    by_cases z : q.1 = k
    · rw [if_pos z, if_pos z]
      exact ⟨[] ++ L', .cons o a, by rw [List.nil_append]; exact b.trans .right⟩
    · rw [if_neg z, if_neg z]
      exact ⟨Fa ++ L', .cons h a, SubP.app .refl b⟩
  | [], _ :: _, _, e, _ => by simp at e
  | _ :: _, [], _, e, _ => by simp at e
theorem rep_one {k : κ} {v : V} {t : T} {Lt : List Addr} (o : Ow K G H v t Lt) : ∀ {vs : List (κ × V)} {ts : List (κ × T)} {L : List Addr}, vs.map (·.1) = ts.map (·.1) → OwAll K G H (vs.map (·.2)) (ts.map (·.2)) L → (ts.filter fun kv => decide (kv.1 = k)).length ≤ 1 →
    ∃ L', OwAll K G H ((vs.map (fun kv => if kv.1 = k then (kv.1, v) else kv)).map (·.2)) ((ts.map (fun kv => if kv.1 = k then (kv.1, t) else kv)).map (·.2)) L' ∧ SubP L' (L ++ Lt)
  | [], [], _, _, .nil, _ => ⟨[], .nil, .nil⟩
  | p :: r, q :: r', _, e, .cons (F := Fa) (F' := Fb) h hs, c => by
    simp only [List.map_cons, List.cons.injEq] at e
    rw [List.filter_cons] at c
    rw [List.map_cons, List.map_cons, List.map_cons, List.map_cons, e.1]
    by_cases z : q.1 = k
    · rw [if_pos z, if_pos z]
      simp only [z, decide_true, if_true, List.length_cons] at c
      have c0 : (r'.filter fun kv => decide (kv.1 = k)).length = 0 := by omega
      rw [rep_no c0, rep_no (by rw [filt_len e.2]; exact c0)]
      exact ⟨Lt ++ Fb, .cons o hs, ⟨Fa, perm_of fun x => by simp only [List.count_append]; omega⟩⟩
    · rw [if_neg z, if_neg z]
      simp only [z, decide_false, Bool.false_eq_true, if_false] at c
      obtain ⟨L', a, R, b⟩ := rep_one (k := k) o e.2 hs c
      refine ⟨Fa ++ L', .cons h a, R, perm_of fun x => ?_⟩
      have c := List.perm_iff_count.mp b x
      simp only [List.count_append] at c ⊢
      omega
  | [], _ :: _, _, e, _, _ => by simp at e
  | _ :: _, [], _, e, _, _ => by simp at e
theorem all_put {k : κ} {v : V} {t : T} {Lt : List Addr} {vs : List (κ × V)} {ts : List (κ × T)} {L : List Addr} (o : Ow K G H v t Lt) (e : vs.map (·.1) = ts.map (·.1)) (h : OwAll K G H (vs.map (·.2)) (ts.map (·.2)) L) (c : (t.isD || oneG ts k) = true) :
    (putG vs k v).map (·.1) = (putG ts k t).map (·.1) ∧ ∃ L', OwAll K G H ((putG vs k v).map (·.2)) ((putG ts k t).map (·.2)) L' ∧ SubP L' (L ++ Lt) := by
  unfold putG
  rw [any_keys e]
  by_cases z : (ts.any fun kv => decide (kv.1 = k)) = true
  · rw [if_pos z, if_pos z]
    refine ⟨by rw [rep_keys, rep_keys]; exact e, ?_⟩
    rw [Bool.or_eq_true] at c
    rcases c with c | c
    · cases t with
      | d x =>
        cases o with
        | d hd =>
        obtain ⟨L', a, b⟩ := rep_d (k := k) (Ow.d hd) e h
        exact ⟨L', a, b.trans .left⟩
      | _ => cases c
    · exact rep_one o e h (by simpa [oneG] using c)
  · rw [if_neg z, if_neg z]
    refine ⟨by simp [e], L ++ (Lt ++ []), ?_, by simpa using SubP.refl⟩
    rw [List.map_append, List.map_append]
    exact h.join (.cons o .nil)
end
/-- d[k] = e -/
def sSetK (m : ME) (pl : MPth) (f : FP) : MS := fun s => (m s).bind fun t s => match (pl s).bind fun ip => (atP s ip).bind fun u => (f (view s)).bind fun d => (match u with
  | .dct us => (keyOfD d).bind fun k => if us.length < 16777216 ∧ (t.isD || oneG us k) = true then putP s ip (.dct (putG us k t)) else none
  | .dtp us => (keysOfD d).bind fun k => if us.length < 16777216 ∧ (t.isD || oneG us k) = true then putP s ip (.dtp (putG us k t)) else none
  | _ => none) with
  | some s' => .ok .nx s'
  | none => .bad
variable {te to ti : TE} {m : ME} {pl : MPth} {f : FP}
theorem keys_len {κ α β : Type} {a : List (κ × α)} {b : List (κ × β)} (e : a.map (·.1) = b.map (·.1)) : a.length = b.length := by
  have := congrArg List.length e
  simpa using this
theorem ss_SetK (hm : SE K E te m) (ho : SO K to pl) (hf : PP K ti f) : SS' K E W (sDPut to ti te) (sSetK m pl f) := fun G H σ s vs ts F D r p => by
  refine hm G H σ s vs ts F _ r ?_
  unfold sSetK at p
  cases e : m s with
  | bad => rw [e] at p; exact p
  | ex x s' => rw [e] at p; exact fun G' H' F' g r' => p σ G' H' F' g .refl r'
  | ok t s' =>
    rw [e] at p
    intro v G' H' F' g r'
    simp only [R.bind] at p
    split at p
    · next s2 e2 =>
      obtain ⟨ip, e3, ex⟩ := Option.bind_eq_some_iff.mp e2
      obtain ⟨u, e4, ey⟩ := Option.bind_eq_some_iff.mp ex
      obtain ⟨d, e5, ez⟩ := Option.bind_eq_some_iff.mp ey
      clear e2 ex ey
      split at ez
      · next us =>
        obtain ⟨k, hk, ez⟩ := Option.bind_eq_some_iff.mp ez
        by_cases hc : us.length < 16777216 ∧ (t.isD || oneG us k) = true
        · rw [if_pos hc] at ez
          refine ho G' H' σ s' (v :: vs) (t :: ts) F' _ ip _ r' e3 e4 fun w x G2 H2 g2 r2 eu av => ?_
          refine r2.pure hf e5 fun y G3 H3 G4 g3 r3 hh g4 hy => ?_
          obtain ⟨w', v1, L1, Lw, b1, b2, b3, b4, b5, b6, kk⟩ := RS.mutP (ws := [v]) (us := [t]) r3 e4 rfl
          rw [eu] at b1
          cases b1
          have := (av.mono hh).fun b2
          subst this
          cases b3 with
          | @dct a xs _ F2 hl hs =>
          cases b4 with
          | @cons _ _ _ _ Ft Fn ot ont =>
          cases ont
          rw [List.append_nil] at b5 b6 kk
          obtain ⟨hkk, hall⟩ := owk_all hs
          rw [keyOfD_eq hk] at hy
          rw [dt_key hy]
          refine ⟨a, _, rfl, DPut.k hl (by rw [keys_len hkk]; exact Nat.lt_of_lt_of_le hc.1 (by decide)), ?_⟩
          have na := nodup_head b5
          have keep : ∀ {L : List Addr}, (∀ b ∈ L, b ∈ F2 ++ Ft) → ∀ b ∈ L, upd H3 a (.dK (putK xs k v)) b = H3 b := fun hL b m => upd_ne fun z => na (z ▸ hL b m)
          obtain ⟨ek, L', o', sb⟩ := all_put (k := k) (H := upd H3 a (.dK (putK xs k v))) (ot.keep (Same.refl G3) (keep fun b m => by simp [m])) hkk (hall.keep (Same.refl G3) (keep fun b m => by simp [m])) hc.2
          obtain ⟨s3, F3, e6, g6, r6⟩ := kk (a := a) (o := .dK (putK xs k v)) (zs := []) (xs := []) (by simp) rfl (.dct upd_same (all_owk ek o')) .nil (by
            rw [List.append_nil, List.cons_append]
            exact subp_cons sb)
          rw [e6] at ez
          cases ez
          exact p σ G3 _ F3 (((g.trans g2).trans g3).trans g6) .refl r6
        · rw [if_neg hc] at ez
          cases ez
      · next us =>
        obtain ⟨k, hk, ez⟩ := Option.bind_eq_some_iff.mp ez
        by_cases hc : us.length < 16777216 ∧ (t.isD || oneG us k) = true
        · rw [if_pos hc] at ez
          refine ho G' H' σ s' (v :: vs) (t :: ts) F' _ ip _ r' e3 e4 fun w x G2 H2 g2 r2 eu av => ?_
          refine r2.pure hf e5 fun y G3 H3 G4 g3 r3 hh g4 hy => ?_
          obtain ⟨w', v1, L1, Lw, b1, b2, b3, b4, b5, b6, kk⟩ := RS.mutP (ws := [v]) (us := [t]) r3 e4 rfl
          rw [eu] at b1
          cases b1
          have := (av.mono hh).fun b2
          subst this
          cases b3 with
          | @dtp a xs _ F2 hl hs =>
          cases b4 with
          | @cons _ _ _ _ Ft Fn ot ont =>
          cases ont
          rw [List.append_nil] at b5 b6 kk
          obtain ⟨hkk, hall⟩ := owt_all hs
          obtain ⟨b, rfl, hb⟩ := dt_keys hy g4 hk
          refine ⟨a, _, rfl, DPut.t hl hb (by rw [keys_len hkk]; exact Nat.lt_of_lt_of_le hc.1 (by decide)), ?_⟩
          have na := nodup_head b5
          have keep : ∀ {L : List Addr}, (∀ b ∈ L, b ∈ F2 ++ Ft) → ∀ b ∈ L, upd H3 a (.dT (putK xs k v)) b = H3 b := fun hL b m => upd_ne fun z => na (z ▸ hL b m)
          obtain ⟨ek, L', o', sb⟩ := all_put (k := k) (H := upd H3 a (.dT (putK xs k v))) (ot.keep (Same.refl G3) (keep fun b m => by simp [m])) hkk (hall.keep (Same.refl G3) (keep fun b m => by simp [m])) hc.2
          obtain ⟨s3, F3, e6, g6, r6⟩ := kk (a := a) (o := .dT (putK xs k v)) (zs := []) (xs := []) (by simp) rfl (.dtp upd_same (all_owt ek o')) .nil (by
            rw [List.append_nil, List.cons_append]
            exact subp_cons sb)
          rw [e6] at ez
          cases ez
          exact p σ G3 _ F3 (((g.trans g2).trans g3).trans g6) .refl r6
        · rw [if_neg hc] at ez
          cases ez
      · cases ez
    · exact p.elim
/-! ### methods that write -/
/-- what a method does at a place: of what stands there and of the arguments, what stands there behind it, and what it tells -/
def MutOp (K : PySem.W.Frag) (r : V → List V → Hp → VK → Prop) (g : T → List T → Option (T × T)) : Prop :=
  ∀ G H v1 ws t1 us t2 t3 L1 Lw Q, Same G H → Ow K G H v1 t1 L1 → OwAll K G H ws us Lw → (L1 ++ Lw).Nodup → (∀ a ∈ L1 ++ Lw, G a = none) → g t1 us = some (t2, t3) →
    (∀ a o v3 L1' L3, a ∈ L1 → isTupO o = false → Ow K G (upd H a o) v1 t2 L1' → Ow K G (upd H a o) v3 t3 L3 → SubP (L1' ++ L3) (L1 ++ Lw) → Q v3 (upd H a o)) → r v1 ws H Q
def tyT (Ty : String) : T → Bool
  | .lst _ => Ty == "list"
  | .dct _ => Ty == "dict"
  | .dtp _ => Ty == "dict"
  | _ => false
theorem ow_ty {Ty : String} {v : V} {L : List Addr} (h : Ow K G H v t L) (e : tyT Ty t = true) : tyV K Ty v H := by
  cases h with
  | lst h hs => exact .inl ⟨by simpa [tyT] using e, _, SqL.of h⟩
  | dct h hs => exact .inr (.inr (.inl ⟨by simpa [tyT] using e, .inl ⟨_, h⟩⟩))
  | dtp h hs => exact .inr (.inr (.inl ⟨by simpa [tyT] using e, .inr ⟨_, h⟩⟩))
  | d h => cases e
  | obj h hs => cases e
def tmsOnly : List AR → Option (List T)
  | [] => some []
  | .tm t :: us => (tmsOnly us).map fun ts => t :: ts
  | .br _ :: _ => none
theorem tms_aw : ∀ {us : List AR} {as : List T} {ws tv : List V}, tmsOnly us = some as → AW σ ws us tv → tv = ws ∧ tmT us = as
  | [], _, _, _, e, .nil => by cases e; exact ⟨rfl, rfl⟩
  | .tm t :: us, _, _, _, e, .tm h => by
    obtain ⟨ts, e1, e2⟩ := Option.map_eq_some_iff.mp e
    cases e2
    obtain ⟨h1, h2⟩ := tms_aw e1 h
    exact ⟨by rw [h1], by simp [tmT, h2]⟩
  | .br _ :: _, _, _, _, e, _ => by cases e
/-- x.m(..), x a name -/
def mMut0 (Ty : String) (i : Nat) (ms : MA) (g : T → List T → Option (T × T)) : ME := fun s => match s[i]? with
  | some (some t) => if tyT Ty t then (ms s).bind fun us s => (match (tmsOnly us).bind fun as => (atP s (i, [])).bind fun t => g t as with
    | some (t2, t3) => .ok t3 (s.set i (some t2))
    | none => .bad) else .bad
  | _ => .bad
variable {ta : TA} {ms : MA} {g : T → List T → Option (T × T)} {rr : V → List V → Hp → VK → Prop} {Ty : String} {i : Nat}
theorem putP0 {t0 : T} (h : s[i]? = some (some t0)) : putP s (i, []) t = some (s.set i (some t)) := by
  simp [putP, h, T.put]
theorem atP0 {t0 : T} (h : atP s (i, []) = some t0) : s[i]? = some (some t0) := by
  obtain ⟨t, h1, h2⟩ := Option.bind_eq_some_iff.mp h
  unfold T.get at h2
  cases h2
  exact join_some.mp h1
theorem se_Mut0 (ha : SAr K E ta ms) (hm : MutOp K rr g) : SE K E (tBM K Ty rr (tVar i) ta) (mMut0 Ty i ms g) := fun G H σ s vs ts F Q r p => by
  unfold mMut0 at p
  split at p
  · next t hi =>
    split at p
    · next hty =>
      obtain ⟨v, q, _⟩ := r.take hi
      obtain ⟨L1, L2, h1, _⟩ := r.ex
      obtain ⟨v', F1, F2, ev, o, _⟩ := h1.at hi
      rw [q] at ev
      cases ev
      refine ⟨v, q, ow_ty o hty, ha G H σ s vs ts F _ r ?_⟩
      cases e : ms s with
      | bad => rw [e] at p; exact p
      | ex x s' => rw [e] at p; exact p
      | ok us s' =>
        rw [e] at p
        intro ws tv G' H' F' g' aw r'
        simp only [R.bind] at p
        split at p
        · next t2 t3 e2 =>
          obtain ⟨as, e3, ex⟩ := Option.bind_eq_some_iff.mp e2
          obtain ⟨t1, e4, ez⟩ := Option.bind_eq_some_iff.mp ex
          obtain ⟨rfl, rfl⟩ := tms_aw e3 aw
          obtain ⟨w', v1, L1, Lw, b1, b2, b3, b4, b5, b6, kk⟩ := RS.mutP r' e4 (aw.len)
          rw [q] at b1
          cases b1
          have b2 : v = v1 := b2
          subst b2
          refine hm G' H' v _ t1 _ t2 t3 L1 Lw Q r'.gh b3 b4 b5 b6 ez fun a oo v3 L1' L3 m1 m2 m3 m4 m5 => ?_
          obtain ⟨s3, F3, e6, g6, r6⟩ := kk (zs := [v3]) (xs := [t3]) m1 m2 m3 (.cons m4 .nil) (by rw [List.append_nil]; exact m5)
          rw [putP0 (atP0 e4)] at e6
          cases e6
          exact p v3 G' _ F3 (g'.trans g6) r6
        · exact p.elim
    · exact p.elim
  · exact p.elim
/-- x.m(..), x a place, the arguments without the name that it is of -/
def mMutP (Ty : String) (pl : MPth) (ms : MA) (g : T → List T → Option (T × T)) : ME := fun s => match pl s with
  | some ip => match atP s ip, s[ip.1]? with
    | some t, some (some t0) => if tyT Ty t then (ms (s.set ip.1 none)).bind fun us s => (match s[ip.1]?, (tmsOnly us).bind fun as => (g t as) with
      | some none, some (t2, t3) => (match putP (s.set ip.1 (some t0)) ip t2 with
        | some s' => .ok t3 s'
        | none => .bad)
      | _, _ => .bad) else .bad
    | _, _ => .bad
  | none => .bad
theorem Go.wider {F1 F2 : Addr → Prop} {G1 H1 : Hp} (g : Go F1 G H F2 G1 H1) (h : ∀ a, F1 a → F a) : Go F G H F2 G1 H1 :=
  ⟨g.gg, fun a o q n => g.hh a o q fun z => n (h a z), fun a o q => (g.nw a o q).imp id fun z => z.imp id fun z => z.imp (h a) id, fun a z => (g.nf a z).imp (h a) id, g.dm, g.tp⟩
theorem se_MutP (ho : SO K to pl) (ha : SAr K E ta ms) (hm : MutOp K rr g) : SE K E (tBM K Ty rr to ta) (mMutP Ty pl ms g) := fun G H σ s vs ts F Q r p => by
  unfold mMutP at p
  split at p
  · next ip e0 =>
    split at p
    · next t t0 e1 hi =>
      split at p
      · next hty =>
        refine ho G H σ s vs ts F _ ip _ r e0 e1 fun u v G' H' g0 r' eu av => ?_
        obtain ⟨u', v1, L1, b1, b2, b3⟩ := r'.seeP e1
        rw [eu] at b1
        cases b1
        have := av.fun b2
        subst this
        refine ⟨ow_ty b3 hty, ?_⟩
        obtain ⟨u', eu', rt⟩ := r'.take hi
        rw [eu] at eu'
        cases eu'
        obtain ⟨Fa, Fr, ra, rr', hFa, hFr⟩ := RS.part (ws := [u]) (as := [t0]) rt rfl
        refine ha G' H' σ _ vs ts Fr _ rr' ?_
        cases e : ms (s.set ip.1 none) with
        | bad => rw [e] at p; exact p
        | ex x s' => rw [e] at p; exact fun G2 H2 F2 g2 r2 => p G2 H2 F2 (g0.trans (g2.wider fun a z => (hFr a z).1)) r2
        | ok us s2 =>
          rw [e] at p
          intro ws tv G2 H2 F2 g2 aw r2
          simp only [R.bind] at p
          split at p
          · next t2 t3 e5 e6 =>
            split at p
            · next s3 e7 =>
              obtain ⟨as, e3, ez⟩ := Option.bind_eq_some_iff.mp e6
              obtain ⟨rfl, rfl⟩ := tms_aw e3 aw
              have hd : ∀ a, Fa a → ¬ Fr a := fun a z y => (hFr a y).2 z
              obtain ⟨ra2, dj⟩ := ra.stays g2 r2.gh hd
              obtain ⟨N1, N2, n1, n2, nn, ng, nf⟩ := ra2.ex
              cases n1
              cases n2 with
              | @cons _ _ _ _ L0 Ln o0 on =>
              cases on
              rw [List.nil_append, List.append_nil] at nn ng nf
              have r3 := r2.pushO o0 nn (fun a m z => dj a z ((nf a).mpr m)) ng
              have r4 := r3.give e5 eu
              have hl2 : ip.1 < s2.length := (List.getElem?_eq_some_iff.mp e5).1
              have e8 : atP (s2.set ip.1 (some t0)) ip = some t := by
                unfold atP at e1 ⊢
                rw [hi] at e1
                rw [List.getElem?_set_self hl2]
                exact e1
              have av2 : AtV H2 u ip.2 v := by
                obtain ⟨M1, M2, m1, m2, mn, mg', mf⟩ := ra.ex
                cases m1
                cases m2 with
                | @cons _ _ _ _ P0 Pn o1 on =>
                cases on
                rw [List.nil_append, List.append_nil] at mf
                have eg : t0.get ip.2 = some t := by
                  unfold atP at e1
                  rw [hi] at e1
                  exact e1
                refine o1.atv eg (fun a m => ?_) av
                obtain ⟨o, q, _⟩ := ra.trk ((mf a).mpr m)
                rw [q]
                exact g2.hh a o q (hd a ((mf a).mpr m))
              obtain ⟨w', v1, L1, Lw, c1, c2, c3, c4, c5, c6, kk⟩ := RS.mutP r4 e8 (aw.len)
              rw [eu] at c1
              cases c1
              have := av2.fun c2
              subst this
              refine hm G2 H2 v _ t _ t2 t3 L1 Lw Q r2.gh c3 c4 c5 c6 ez fun a oo v3 L1' L3 m1 m2 m3 m4 m5 => ?_
              obtain ⟨s4, F3, e9, g6, r6⟩ := kk (zs := [v3]) (xs := [t3]) m1 m2 m3 (.cons m4 .nil) (by rw [List.append_nil]; exact m5)
              rw [e7] at e9
              cases e9
              refine p v3 G2 _ F3 ((g0.trans ?_).trans g6) r6
              have gw := g2.wider (F := F) fun a z => (hFr a z).1
              exact ⟨gw.gg, gw.hh, gw.nw, fun a z => z.elim (gw.nf a) fun m => .inl (hFa a ((nf a).mpr m)), gw.dm, gw.tp⟩
            · exact p.elim
          · exact p.elim
      · exact p.elim
    · exact p.elim
  · exact p.elim
/-! the methods -/
theorem MutOp.arg0 {us : List T} {ws : List V} {L : List Addr} (h : OwAll K G H ws us L) (e : us = []) : ws = [] := by
  subst e
  cases h
  rfl
theorem sz_lt {n : Nat} (h : n < 16777216) : n < sizeLine := Nat.lt_of_lt_of_le h sizeLine_ge
def gAppend (t : T) (as : List T) : Option (T × T) := match t, as with
  | .lst us, [x] => if us.length < 16777216 then some (.lst (us ++ [x]), .d .none) else none
  | _, _ => none
theorem mo_append : MutOp K rAppend gAppend := fun G H v1 ws t1 us t2 t3 L1 Lw Q gh h hw nd hg e q => by
  unfold gAppend at e
  split at e
  · next us x =>
    split at e
    · next hl =>
      cases e
      cases hw with
      | @cons w _ _ _ Fx Fn ox on =>
      cases on
      rw [List.append_nil] at nd hg q
      cases h with
      | @lst a xs _ F' ha hs =>
      refine ⟨a, xs, w, rfl, rfl, ha, by rw [hs.len]; exact sz_lt hl, ?_⟩
      have na := nodup_head nd
      have keep : ∀ {L : List Addr}, (∀ b ∈ L, b ∈ F' ++ Fx) → ∀ b ∈ L, upd H a (.lst (xs ++ [w])) b = H b := fun hL b m => upd_ne fun z => na (z ▸ hL b m)
      refine q a (.lst (xs ++ [w])) .non (a :: (F' ++ (Fx ++ []))) [] (by simp) rfl (.lst upd_same ((hs.keep (Same.refl G) (keep fun b m => by simp [m])).join (.cons (ox.keep (Same.refl G) (keep fun b m => by simp [m])) .nil))) (.d .non) (by simp; exact .refl)
    · cases e
  · cases e
def gClear (t : T) (as : List T) : Option (T × T) := match t, as with
  | .lst us, [] => some (.lst [], .d .none)
  | _, _ => none
theorem mo_clear : MutOp K rClear gClear := fun G H v1 ws t1 us t2 t3 L1 Lw Q gh h hw nd hg e q => by
  unfold gClear at e
  split at e
  · next us =>
    cases e
    cases hw
    cases h with
    | @lst a xs _ F' ha hs =>
    exact ⟨a, xs, rfl, rfl, ha, q a (.lst []) .non [a] [] (by simp) rfl (.lst upd_same .nil) (.d .non) (by simp; exact subp_cons .nil)⟩
  · cases e
theorem dropLast_erase {α : Type} : ∀ (l : List α), l.eraseIdx (l.length - 1) = l.dropLast
  | [] => rfl
  | [_] => rfl
  | a :: b :: l => by
    have := dropLast_erase (b :: l)
    simp only [List.length_cons, Nat.add_sub_cancel] at this ⊢
    rw [List.eraseIdx_cons_succ, this]; rfl
theorem OwAll.eraseIdx : ∀ {vs : List V} {ts : List T} {L : List Addr} {j : Nat} {t : T}, OwAll K G H vs ts L → ts[j]? = some t → ∃ v L1 L2, vs[j]? = some v ∧ Ow K G H v t L1 ∧ OwAll K G H (vs.eraseIdx j) (ts.eraseIdx j) L2 ∧ L.Perm (L1 ++ L2)
  | _, _, _, _, _, .nil, e => by simp at e
  | _, _, _, 0, _, .cons (F := Fa) (F' := Fb) h hs, e => by
    simp only [List.getElem?_cons_zero, Option.some.injEq] at e
    subst e
    exact ⟨_, Fa, Fb, rfl, h, hs, .refl _⟩
  | _, _, _, j + 1, _, .cons (F := Fa) (F' := Fb) h hs, e => by
    obtain ⟨v, L1, L2, e1, o, h2, p⟩ := hs.eraseIdx (j := j) (by simpa using e)
    exact ⟨v, L1, Fa ++ L2, by simpa using e1, o, .cons h h2, (List.Perm.append_left Fa p).trans perm3⟩
def gPop (t : T) (as : List T) : Option (T × T) := match t, as with
  | .lst us, [] => (us[us.length - 1]?).map fun x => (.lst us.dropLast, x)
  | _, _ => none
theorem mo_pop : MutOp K rPop gPop := fun G H v1 ws t1 us t2 t3 L1 Lw Q gh h hw nd hg e q => by
  unfold gPop at e
  split at e
  · next us =>
    obtain ⟨x, hx, e⟩ := Option.map_eq_some_iff.mp e
    cases e
    cases hw
    rw [List.append_nil] at nd hg q
    cases h with
    | @lst a xs _ F' ha hs =>
    have na : a ∉ F' := (List.nodup_cons.mp nd).1
    have keep : ∀ {L : List Addr}, (∀ b ∈ L, b ∈ F') → ∀ b ∈ L, upd H a (.lst xs.dropLast) b = H b := fun hL b m => upd_ne fun z => na (z ▸ hL b m)
    obtain ⟨v, M1, M2, ev, o, h2, pp⟩ := hs.eraseIdx hx
    rw [← hs.len] at ev
    refine ⟨a, xs, v, rfl, rfl, ha, ev, ?_⟩
    rw [dropLast_erase, ← hs.len, dropLast_erase] at h2
    exact q a (.lst xs.dropLast) v (a :: M2) M1 (by simp) rfl (.lst upd_same (h2.keep (Same.refl G) (keep fun b m => pp.mem_iff.mpr (by simp [m])))) (o.keep (Same.refl G) (keep fun b m => pp.mem_iff.mpr (by simp [m]))) (by
      rw [List.cons_append]
      exact subp_cons (SubP.perm (pp.trans List.perm_append_comm)))
  · cases e
def gPopAt (t : T) (as : List T) : Option (T × T) := match t, as with
  | .lst us, [.d (.int i)] => (ixN us.length i).bind fun j => (us[j]?).bind fun x => if us.length ≤ 16777216 then some (.lst (us.eraseIdx j), x) else none
  | _, _ => none
theorem mo_popAt : MutOp K rPopAt gPopAt := fun G H v1 ws t1 us t2 t3 L1 Lw Q gh h hw nd hg e q => by
  unfold gPopAt at e
  split at e
  · next us i =>
    obtain ⟨j, hj, e⟩ := Option.bind_eq_some_iff.mp e
    obtain ⟨x, hx, e⟩ := Option.bind_eq_some_iff.mp e
    split at e
    · next hz =>
      cases e
      cases hw with
      | @cons w _ _ _ Fx Fn ox on =>
      cases on
      cases ox with
      | d hd =>
      have hw := dt_int hd
      subst hw
      simp only [List.append_nil] at nd hg q
      cases h with
      | @lst a xs _ F' ha hs =>
      have na : a ∉ F' := (List.nodup_cons.mp nd).1
      have keep : ∀ {L : List Addr}, (∀ b ∈ L, b ∈ F') → ∀ b ∈ L, upd H a (.lst (xs.eraseIdx j)) b = H b := fun hL b m => upd_ne fun z => na (z ▸ hL b m)
      obtain ⟨v, M1, M2, ev, o, h2, pp⟩ := hs.eraseIdx hx
      obtain ⟨s1, s2, s3, s4⟩ := ixN_seq hj
      refine ⟨a, xs, i, j, v, rfl, rfl, ha, by omega, by omega, by rw [hs.len]; exact s1, ev, ?_⟩
      exact q a (.lst (xs.eraseIdx j)) v (a :: M2) M1 (by simp) rfl (.lst upd_same (h2.keep (Same.refl G) (keep fun b m => pp.mem_iff.mpr (by simp [m])))) (o.keep (Same.refl G) (keep fun b m => pp.mem_iff.mpr (by simp [m]))) (by
        rw [List.cons_append]
        exact subp_cons (SubP.perm (pp.trans List.perm_append_comm)))
    · cases e
  · cases e
/-- extend by a list: data, or one that is given away -/
def gExtend (t : T) (as : List T) : Option (T × T) := match t, as with
  | .lst us, [.d (.list ds)] => if us.length + ds.length ≤ 16777216 ∧ intHead ds = false then some (.lst (us ++ ds.map .d), .d .none) else none
  | .lst us, [.lst ds] => if us.length + ds.length ≤ 16777216 then some (.lst (us ++ ds), .d .none) else none
  | _, _ => none
theorem mo_extend : MutOp K rExtend gExtend := fun G H v1 ws t1 us t2 t3 L1 Lw Q gh h hw nd hg e q => by
  unfold gExtend at e
  split at e
  · next us ds =>
    split at e
    · next hl =>
      cases e
      cases hw with
      | @cons w _ _ _ Fx Fn ox on =>
      cases on
      cases ox with
      | d hd =>
      simp only [List.append_nil] at nd hg q
      cases h with
      | @lst a xs _ F' ha hs =>
      obtain ⟨b, ys, rfl, hb, hys⟩ := dt_lst hd gh hl.2
      refine ⟨a, b, xs, ys, rfl, rfl, ha, hb, by rw [hs.len, dts_len hys]; exact Nat.le_trans hl.1 sizeLine_ge, ?_⟩
      have na : a ∉ F' := (List.nodup_cons.mp nd).1
      refine q a (.lst (xs ++ ys)) .non (a :: (F' ++ [])) [] (by simp) rfl (.lst upd_same ((hs.keep (H' := upd H a (.lst (xs ++ ys))) (Same.refl G) fun b m => upd_ne fun (z : b = a) => na (z ▸ m)).join (owall_d hys))) (.d .non) (by simp; exact .refl)
    · cases e
  · next us ds =>
    split at e
    · next hl =>
      cases e
      cases hw with
      | @cons w _ _ _ Fx Fn ox on =>
      cases on
      rw [List.append_nil] at nd hg q
      cases ox with
      | @lst b ys _ Fy hb hys =>
      cases h with
      | @lst a xs _ F' ha hs =>
      refine ⟨a, b, xs, ys, rfl, rfl, ha, hb, by rw [hs.len, hys.len]; exact Nat.le_trans hl sizeLine_ge, ?_⟩
      have na := nodup_head nd
      have keep : ∀ {L : List Addr}, (∀ c ∈ L, c ∈ F' ++ b :: Fy) → ∀ c ∈ L, upd H a (.lst (xs ++ ys)) c = H c := fun hL c m => upd_ne fun z => na (z ▸ hL c m)
      refine q a (.lst (xs ++ ys)) .non (a :: (F' ++ Fy)) [] (by simp) rfl (.lst upd_same ((hs.keep (Same.refl G) (keep fun c m => by simp [m])).join (hys.keep (Same.refl G) (keep fun c m => by simp [m])))) (.d .non) ?_
      rw [List.append_nil, List.cons_append]
      exact subp_cons (SubP.app .refl (SubP.right (A := [b]) (B := Fy)))
    · cases e
  · cases e
end
end S

namespace S
open PySem L2
/-! ### targets: data goes into slots -/
abbrev MG := PyData → Sg → Option Sg
abbrev MGs := List PyData → Sg → Option Sg
def gN (i : Nat) : MG := fun d s => if i < s.length then some (s.set i (some (.d d))) else none
def gT (n : Nat) (a : MGs) : MG := fun d s => match d with
  | .tuple ds => if ds.length = n then a ds s else none
  | _ => none
def gNl : MGs := fun ds s => match ds with
  | [] => some s
  | _ => none
def gCs (a : MG) (as : MGs) : MGs := fun ds s => match ds with
  | d :: ds => (a d s).bind fun s => as ds s
  | [] => none
section
variable (K : PySem.W.Frag) (W : List Nat)
def GT (g : TG) (a : MG) : Prop := ∀ G H σ s vs ts F x d s' Q, RS K G H σ s vs ts F → Dt K G x d → a d s = some s' → (∀ σ' F', Off W σ σ' → RS K G H σ' s' vs ts F' → (∀ b, F' b → F b) → Q σ' H) → g x σ H Q
def GTs (g : TGs) (a : MGs) : Prop := ∀ G H σ s vs ts F xs ds s' Q, RS K G H σ s vs ts F → DtAll K G xs ds → a ds s = some s' → (∀ σ' F', Off W σ σ' → RS K G H σ' s' vs ts F' → (∀ b, F' b → F b) → Q σ' H) → g xs σ H Q
end
section
variable {K : PySem.W.Frag} {W : List Nat} {E : L2.St → XK} {G G' H H' : Hp} {F F0 : Addr → Prop} {σ σ0 : L2.St} {s : Sg} {vs : List V} {ts : List T} {g : TG} {gs : TGs} {a : MG} {as : MGs}
theorem gt_name {i : Nat} (hw : i ∈ W) : GT K W (gName i) (gN i) := fun G H σ s vs ts F x d s' Q r hx e q => by
  unfold gN at e
  split at e
  · next hi =>
    cases e
    obtain ⟨F', r', hf⟩ := (r.push hx).asg hi
    exact q _ F' (off_set hw) r' hf
  · cases e
theorem gts_nil : GTs K W gNil gNl := fun G H σ s vs ts F x d s' Q r hx e q => by
  cases hx with
  | nil => cases e; exact ⟨rfl, q σ F .refl r fun _ h => h⟩
  | cons _ _ => cases e
theorem gts_cons (h : GT K W g a) (hs : GTs K W gs as) : GTs K W (gCons g gs) (gCs a as) := fun G H σ s vs ts F x d s' Q r hx e q => by
  cases hx with
  | nil => cases e
  | cons h1 h2 =>
    obtain ⟨s1, e1, e2⟩ := Option.bind_eq_some_iff.mp e
    refine ⟨_, _, rfl, h G H σ s vs ts F _ _ s1 _ r h1 e1 fun σ' F' o r' hf => ?_⟩
    exact hs G H σ' s1 vs ts F' _ _ s' Q r' h2 e2 fun σ2 F2 o2 r2 hf2 => q σ2 F2 (o.trans o2) r2 fun b z => hf b (hf2 b z)
theorem gt_tup {n : Nat} (hs : GTs K W gs as) : GT K W (gTup K n gs) (gT n as) := fun G H σ s vs ts F x d s' Q r hx e q => by
  unfold gT at e
  split at e
  · next ds =>
    split at e
    · next hn =>
      obtain ⟨p, xs, rfl, h1, h2⟩ := dt_tuple hx r.gh
      exact ⟨p, xs, rfl, h1, by rw [dts_len h2]; exact hn, hs G H σ s vs ts F xs ds s' Q r h2 e q⟩
    · cases e
  · cases e
/-! ### what is walked -/
abbrev MI := Sg → R (List PyData)
def PostI (K : PySem.W.Frag) (E : L2.St → XK) (G H : Hp) (F : Addr → Prop) (σ : L2.St) (vs : List V) (ts : List T) (R' : It → Hp → Prop) : R (List PyData) → Prop
  | .ok ds s => ∀ J G' H' F', Go F G H F' G' H' → RS K G' H' σ s vs ts F' → DW K G' J ds.length (fun i => ds.getD i .none) → R' J H'
  | .ex x s => ∀ G' H' F', Go F G H F' G' H' → RS K G' H' σ s vs ts F' → EXc (E σ) x H'
  | .bad => False
def SI (K : PySem.W.Frag) (E : L2.St → XK) (wi : TI) (mi : MI) : Prop := ∀ G H σ s vs ts F R', RS K G H σ s vs ts F → PostI K E G H F σ vs ts R' (mi s) → wi σ H R'
theorem DW.eq {J : It} {n m : Nat} {f f' : Nat → PyData} (h : DW K G J n f) (e : n = m) (ef : ∀ i, i < n → f i = f' i) : DW K G J m f' := by
  subst e
  exact ⟨h.goes, h.stops, fun i H x H' G1 hi g1 gh y => by
    obtain ⟨G2, a, b⟩ := h.yields i H x H' G1 hi g1 gh y
    exact ⟨G2, a, ef i hi ▸ b⟩⟩
variable {te : TE} {m : ME} {ta : TA} {ms : MA}
/-- the data of what is told -/
def iOf (m : ME) (c : PyData → Option (List PyData)) : MI := fun s => (m s).bind fun t s => R.of (c t.data) s
def cList : PyData → Option (List PyData)
  | .list ds => some ds
  | _ => none
def cTup : PyData → Option (List PyData)
  | .tuple ds => some ds
  | _ => none
def signs (z : Str) : List PyData := z.cps.toList.map fun c => .str ⟨#[c]⟩
def cStr : PyData → Option (List PyData)
  | .str z => some (signs z)
  | _ => none
theorem si_one {rel : V → Hp → (It → Hp → Prop) → Prop} {c : PyData → Option (List PyData)} (h : SE K E te m)
    (k : ∀ G H v d ls R', Same G H → Dt K G v d → c d = some ls → (∀ J, DW K G J ls.length (fun i => ls.getD i .none) → R' J H) → rel v H R') : SI K E (fun σ H R' => te σ H fun v H1 => rel v H1 R') (iOf m c) := fun G H σ s vs ts F R' r p => by
  refine h G H σ s vs ts F _ r ?_
  unfold iOf at p
  cases e : m s with
  | bad => rw [e] at p; exact p
  | ex x s' => rw [e] at p; exact p
  | ok t s' =>
    rw [e] at p
    intro v G' H' F' g r'
    obtain ⟨G2, F2, g2, r2⟩ := r'.freeze
    obtain ⟨hd, r3⟩ := r2.top
    simp only [R.bind, R.of] at p
    cases z : c t.data with
    | none => rw [z] at p; exact p.elim
    | some ds =>
      rw [z] at p
      exact k G2 H' v _ ds R' r3.gh hd z fun J w => p J G2 H' F2 (g.trans g2) r3 w
theorem si_list (h : SE K E te m) : SI K E (iList K te) (iOf m cList) := si_one h fun G H v d ls R' gh hd z q => by
  unfold cList at z
  split at z
  · cases z
    obtain ⟨b, xs, rfl, hl, hs⟩ := dt_list hd (Same.refl G)
    exact ⟨b, rfl, ⟨xs, gh.seq hl⟩, q _ (dw_list hl hs)⟩
  · cases z
theorem si_tup (h : SE K E te m) : SI K E (iTup K te) (iOf m cTup) := si_one h fun G H v d ls R' gh hd z q => by
  unfold cTup at z
  split at z
  · cases z
    obtain ⟨b, xs, rfl, hl, hs⟩ := dt_tuple hd (Same.refl G)
    exact ⟨b, rfl, ⟨xs, same_tup gh hl⟩, q _ (dw_tup hl hs)⟩
  · cases z
theorem signs_at {z : Str} {i : Nat} (h : i < z.cps.size) : PyData.str ⟨#[z.cps.getD i 0]⟩ = (signs z).getD i .none := by
  unfold signs
  rw [List.getD_eq_getElem?_getD, List.getElem?_map, Array.getD_eq_getD_getElem?]
  simp [h]
theorem signs_len {z : Str} : z.cps.size = (signs z).length := by simp [signs]
theorem si_str (h : SE K E te m) : SI K E (iStr te) (iOf m cStr) := si_one h fun G H v d ls R' gh hd z q => by
  unfold cStr at z
  split at z
  · cases z
    exact ⟨_, dt_str hd, q _ (dw_str.eq signs_len fun i => signs_at)⟩
  · cases z
/-- arguments that never change again -/
def frzA (us : List AR) : Option (List PyData) := (tmsOnly us).map fun ts => ts.map T.data
theorem RS.freezeA : ∀ {ws : List V} {us : List T} {vs : List V} {ts : List T} {G : Hp} {F : Addr → Prop}, RS K G H σ s (ws ++ vs) (us ++ ts) F → ws.length = us.length → ∃ G' F', Go F G H F' G' H ∧ RS K G' H σ s vs ts F' ∧ DtAll K G' ws (us.map T.data)
  | [], [], _, _, G, F, r, _ => ⟨G, F, .refl, r, .nil⟩
  | w :: ws, u :: us, _, _, G, F, r, e => by
    obtain ⟨G1, F1, g1, r1⟩ := RS.freeze r
    obtain ⟨hd, r2⟩ := r1.top
    obtain ⟨G2, F2, g2, r3, hs⟩ := RS.freezeA (ws := ws) (us := us) r2 (by simpa using e)
    exact ⟨G2, F2, g1.trans g2, r3, .cons (same_dt g2.gg hd) hs⟩
def iArgs (ms : MA) (c : List PyData → Option (List PyData)) : MI := fun s => (ms s).bind fun us s => R.of ((frzA us).bind c) s
theorem si_args {rel : List V → Hp → (It → Hp → Prop) → Prop} {c : List PyData → Option (List PyData)} (ha : SAr K E ta ms)
    (k : ∀ G H ws ds ls R', Same G H → DtAll K G ws ds → c ds = some ls → (∀ J, DW K G J ls.length (fun i => ls.getD i .none) → R' J H) → rel ws H R') : SI K E (fun σ H R' => ta σ H fun ws H1 => rel ws H1 R') (iArgs ms c) := fun G H σ s vs ts F R' r p => by
  refine ha G H σ s vs ts F _ r ?_
  unfold iArgs at p
  cases e : ms s with
  | bad => rw [e] at p; exact p
  | ex x s' => rw [e] at p; exact p
  | ok us s' =>
    rw [e] at p
    intro ws tv G' H' F' g aw r'
    simp only [R.bind, R.of] at p
    cases z : (frzA us).bind c with
    | none => rw [z] at p; exact p.elim
    | some ls =>
      rw [z] at p
      obtain ⟨ds, z1, z2⟩ := Option.bind_eq_some_iff.mp z
      obtain ⟨us', z3, z4⟩ := Option.map_eq_some_iff.mp z1
      obtain ⟨rfl, rfl⟩ := tms_aw z3 aw
      subst z4
      obtain ⟨G2, F2, g2, r2, hs⟩ := r'.freezeA aw.len
      exact k G2 H' _ _ ls R' r2.gh hs z2 fun J w => p J G2 H' F2 (g.trans g2) r2 w
def rangeD (i j : Int) : List PyData := (List.range (j - i).toNat).map fun k => .int (i + (k : Nat))
/-- small enough; told so that it stands still where the number isn't written -/
def absLt (j : Int) (k : Nat) : Bool := Nat.blt j.natAbs k
theorem absLt_iff {j : Int} {k : Nat} : absLt j k = true ↔ -(k : Int) < j ∧ j < k := by
  unfold absLt
  rw [Nat.blt_eq]
  omega
def cRng1 : List PyData → Option (List PyData)
  | [.int j] => if absLt j 4611686018427387904 then some (rangeD 0 j) else none
  | _ => none
def cRng2 : List PyData → Option (List PyData)
  | [.int i, .int j] => if absLt i 4611686018427387904 && absLt j 4611686018427387904 then some (rangeD i j) else none
  | _ => none
theorem rangeD_len {i j : Int} : (rangeD i j).length = (j - i).toNat := by simp [rangeD]
theorem rangeD_at {i j : Int} {k : Nat} (h : k < (j - i).toNat) : PyData.int (i + k) = (rangeD i j).getD k .none := by
  unfold rangeD
  rw [List.getD_eq_getElem?_getD, List.getElem?_map, List.getElem?_range h]
  rfl
theorem si_rng1 (ha : SAr K E ta ms) : SI K E (iRng1 ta) (iArgs ms cRng1) := si_args ha fun G H ws ds ls R' gh hd z q => by
  unfold cRng1 at z
  split at z
  · split at z
    · next j hj =>
      cases z
      obtain ⟨v, rfl, h1⟩ := dts1 hd
      have hj := absLt_iff.mp hj
      refine ⟨j, by rw [dt_int h1], by omega, by omega, q _ (dw_range.eq ?_ fun i hi => ?_)⟩
      · rw [rangeD_len, Int.sub_zero]
      · rw [← rangeD_at (by rw [Int.sub_zero]; exact hi)]
    · cases z
  · cases z
theorem si_rng2 (ha : SAr K E ta ms) : SI K E (iRng2 ta) (iArgs ms cRng2) := si_args ha fun G H ws ds ls R' gh hd z q => by
  unfold cRng2 at z
  split at z
  · split at z
    · next i j hj =>
      cases z
      obtain ⟨v, w, rfl, h1, h2⟩ := dts2 hd
      rw [Bool.and_eq_true, absLt_iff, absLt_iff] at hj
      refine ⟨i, j, by rw [dt_int h1, dt_int h2], by omega, q _ (dw_range.eq ?_ fun i hi => ?_)⟩
      · rw [rangeD_len]
      · rw [← rangeD_at hi]
    · cases z
  · cases z
def enumD : Nat → List PyData → List PyData
  | _, [] => []
  | n, d :: ds => .tuple [.int (n : Nat), d] :: enumD (n + 1) ds
theorem enumD_len : ∀ {n : Nat} {ds : List PyData}, (enumD n ds).length = ds.length
  | _, [] => rfl
  | n, d :: ds => by simp [enumD, enumD_len]
theorem enumD_at : ∀ {n : Nat} {ds : List PyData} {i : Nat}, i < ds.length → (enumD n ds).getD i .none = .tuple [.int ((n + i : Nat) : Nat), ds.getD i .none]
  | _, [], _, h => by simp at h
  | n, d :: ds, 0, h => by simp [enumD]
  | n, d :: ds, i + 1, h => by
    have := enumD_at (n := n + 1) (ds := ds) (i := i) (by simpa using h)
    simp only [enumD, List.getD_cons_succ]
    rw [this, show n + 1 + i = n + (i + 1) by omega]
def cEnum : List PyData → Option (List PyData)
  | [.list ds] => some (enumD 0 ds)
  | _ => none
theorem si_enum (ha : SAr K E ta ms) : SI K E (iEnum K ta) (iArgs ms cEnum) := si_args ha fun G H ws ds ls R' gh hd z q => by
  unfold cEnum at z
  split at z
  · cases z
    obtain ⟨v, rfl, h1⟩ := dts1 hd
    obtain ⟨b, xs, rfl, hl, hs⟩ := dt_list h1 (Same.refl G)
    exact ⟨b, xs, rfl, gh.seq hl, q _ ((dw_enum hl hs).eq enumD_len.symm fun i hi => by rw [enumD_at hi, Nat.zero_add])⟩
  · cases z
def zipD (as bs : List PyData) : List PyData := (as.zip bs).map fun p => .tuple [p.1, p.2]
theorem zipD_len {as bs : List PyData} : (zipD as bs).length = min as.length bs.length := by simp [zipD]
theorem zipD_at {as bs : List PyData} {i : Nat} (h : i < min as.length bs.length) : (zipD as bs).getD i .none = .tuple [as.getD i .none, bs.getD i .none] := by
  unfold zipD
  have h1 : i < as.length := by omega
  have h2 : i < bs.length := by omega
  have e : (as.zip bs)[i]? = some (as[i], bs[i]) := by rw [List.getElem?_eq_some_iff]; exact ⟨by simp; omega, by simp⟩
  simp [List.getD_eq_getElem?_getD, h1, h2, e]
def cZip : List PyData → Option (List PyData)
  | [.list as, .list bs] => some (zipD as bs)
  | _ => none
theorem si_zip (ha : SAr K E ta ms) : SI K E (iZip K ta) (iArgs ms cZip) := si_args ha fun G H ws ds ls R' gh hd z q => by
  unfold cZip at z
  split at z
  · cases z
    obtain ⟨v, w, rfl, h1, h2⟩ := dts2 hd
    obtain ⟨b, xs, rfl, hl, hs⟩ := dt_list h1 (Same.refl G)
    obtain ⟨b2, ys, rfl, hl2, hs2⟩ := dt_list h2 (Same.refl G)
    exact ⟨b, b2, xs, ys, rfl, gh.seq hl, gh.seq hl2, q _ ((dw_zip hl hs hl2 hs2).eq zipD_len.symm fun i hi => (zipD_at hi).symm)⟩
  · cases z
def cZipS : List PyData → Option (List PyData)
  | [.str a, .str b] => some (zipD (signs a) (signs b))
  | _ => none
theorem signs_mk {k : List Nat} : signs (mkS k) = k.map fun c => .str (sg c) := by simp [signs, mkS, sg]
theorem mkS_cps (z : Str) : mkS z.cps.toList = z := by cases z; simp [mkS]
theorem si_zipS (ha : SAr K E ta ms) : SI K E (iZipS ta) (iArgs ms cZipS) := si_args ha fun G H ws ds ls R' gh hd z q => by
  unfold cZipS at z
  split at z
  · next a b =>
    cases z
    obtain ⟨v, w, rfl, h1, h2⟩ := dts2 hd
    rw [dt_str h1, dt_str h2]
    refine ⟨a, b, rfl, q _ ?_⟩
    have w := dw_zipS (K := K) (G := G) (k := a.cps.toList) (l := b.cps.toList)
    rw [mkS_cps, mkS_cps] at w
    refine w.eq (by rw [zipD_len]; simp [signs]) fun i hi => ?_
    rw [zipD_at (by simpa [signs] using hi)]
    have h1 : i < a.cps.toList.length := by omega
    have h2 : i < b.cps.toList.length := by omega
    simp only [signs, List.getD_eq_getElem?_getD, List.getElem?_map, sg]
    simp at h1 h2
    simp [h1, h2]
  · cases z
/-! ### for -/
def forL (a : MG) (b : MS) : List PyData → MS
  | [], s => .ok .nx s
  | d :: ds, s => match a d s with
    | none => .bad
    | some s1 => match b s1 with
      | .ok .nx s2 => forL a b ds s2
      | .ok .ct s2 => forL a b ds s2
      | .ok .bk s2 => .ok .nx s2
      | r => r
def sFor (mi : MI) (a : MG) (b : MS) : MS := fun s => (mi s).bind fun ds s => forL a b ds s
variable {wi : TI} {mi : MI} {tb : TS} {b : MS} {D : Ends}
theorem RS.extGo {G1 H1 : Hp} (r : RS K G H σ s vs ts F) (e : Ext [] G H G1 H1) : RS K G1 H1 σ s vs ts F ∧ Go F G H F G1 H1 := ⟨r.ext e, .of e⟩
theorem ss_For (hi : SI K E wi mi) (hg : GT K W g a) (hb : SS' K E W tb b) : SS' K E W (tFor wi g tb) (sFor mi a b) := fun G H σ s vs ts F D r p => by
  refine hi G H σ s vs ts F _ r ?_
  unfold sFor at p
  cases e : mi s with
  | bad => rw [e] at p; exact p
  | ex x s' => rw [e] at p; exact fun G' H' F' g r' => p σ G' H' F' g .refl r'
  | ok ds s' =>
    rw [e] at p
    intro J G' H' F' g0 r' dw
    have p : PostS K E W G H F σ vs ts D (forL a b ds s') := p
    refine loop_imp dw r'.gh (fun i G1 H1 σ1 => ∃ s1 F1, RS K G1 H1 σ1 s1 vs ts F1 ∧ Go F G H F1 G1 H1 ∧ Off W σ σ1 ∧ PostS K E W G H F σ vs ts D (forL a b (ds.drop i) s1)) ⟨s', F', r', g0, .refl, by simpa using p⟩ ?_ ?_
    · rintro i G1 H1 σ1 x G2 H2 hi ⟨s1, F1, r1, g1, o1, p1⟩ _ ex hx
      obtain ⟨r2, g2⟩ := r1.extGo ex
      rw [List.drop_eq_getElem_cons hi] at p1
      have hx : Dt K G2 x ds[i] := by
        rw [List.getD_eq_getElem?_getD, List.getElem?_eq_getElem hi] at hx
        exact hx
      unfold forL at p1
      cases ea : a ds[i] s1 with
      | none => rw [ea] at p1; exact p1.elim
      | some s2 =>
        rw [ea] at p1
        refine hg G2 H2 σ1 s1 vs ts F1 x _ s2 _ r2 hx ea fun σ2 F2 o2 r3 hf => ?_
        have g3 : Go F G H F2 G2 H2 := (g1.trans g2).less hf
        refine hb G2 H2 σ2 s2 vs ts F2 _ r3 ?_
        cases eb : b s2 with
        | bad => simp only [eb] at p1; exact p1
        | ex y s3 => simp only [eb] at p1; exact fun σ' G3 H3 F3 g4 o4 r4 => p1 σ' G3 H3 F3 (g3.trans g4) ((o1.trans o2).trans o4) r4
        | ok f s3 =>
          cases f with
          | nx => simp only [eb] at p1; exact fun σ' G3 H3 F3 g4 o4 r4 => ⟨G3, (g2.gg.trans g4.gg), r4.gh, s3, F3, r4, g3.trans g4, (o1.trans o2).trans o4, p1⟩
          | ct => simp only [eb] at p1; exact fun σ' G3 H3 F3 g4 o4 r4 => ⟨G3, (g2.gg.trans g4.gg), r4.gh, s3, F3, r4, g3.trans g4, (o1.trans o2).trans o4, p1⟩
          | bk => simp only [eb] at p1; exact fun σ' G3 H3 F3 g4 o4 r4 => p1 σ' G3 H3 F3 (g3.trans g4) ((o1.trans o2).trans o4) r4
          | rt t => simp only [eb] at p1; exact fun v σ' G3 H3 F3 g4 o4 r4 => p1 v σ' G3 H3 F3 (g3.trans g4) ((o1.trans o2).trans o4) r4
    · rintro G1 H1 σ1 _ _ ⟨s1, F1, r1, g1, o1, p1⟩
      rw [List.drop_length] at p1
      exact p1 σ1 G1 H1 F1 g1 o1 r1
/-! ### while -/
def whileF (c : MT) (b : MS) : Nat → MS
  | 0, _ => .bad
  | n + 1, s => match c s with
    | .ok true s1 => (match b s1 with
      | .ok .nx s2 => whileF c b n s2
      | .ok .ct s2 => whileF c b n s2
      | .ok .bk s2 => .ok .nx s2
      | r => r)
    | .ok false s1 => .ok .nx s1
    | .ex x s1 => .ex x s1
    | .bad => .bad
def fuelN : Nat := 1000000000000
def sWhile (c : MT) (b : MS) : MS := fun s => whileF c b fuelN s
variable {tt : TT} {c : MT}
theorem ss_While (hc : ST K E tt c) (hb : SS' K E W tb b) : SS' K E W (tWhile tt tb) (sWhile c b) := fun G H σ s vs ts F D r p => by
  refine ⟨fun m σ1 H1 => ∃ G1 s1 F1, RS K G1 H1 σ1 s1 vs ts F1 ∧ Go F G H F1 G1 H1 ∧ Off W σ σ1 ∧ PostS K E W G H F σ vs ts D (whileF c b m s1), ⟨fuelN, G, s, F, r, .refl, .refl, p⟩, ?_⟩
  rintro m σ1 H1 ⟨G1, s1, F1, r1, g1, o1, p1⟩
  cases m with
  | zero => exact p1.elim
  | succ m =>
    unfold whileF at p1
    refine hc G1 H1 σ1 s1 vs ts F1 _ r1 ?_
    cases ec : c s1 with
    | bad => simp only [ec] at p1; exact p1
    | ex y s2 => simp only [ec] at p1; exact fun G2 H2 F2 g2 r2 => p1 σ1 G2 H2 F2 (g1.trans g2) o1 r2
    | ok t s2 =>
      intro G2 H2 F2 g2 r2
      cases t with
      | false => simp only [ec] at p1; exact iteF (p1 σ1 G2 H2 F2 (g1.trans g2) o1 r2)
      | true =>
        simp only [ec] at p1
        refine iteT ⟨fun σ' H' => ∃ G' s' F', RS K G' H' σ' s' vs ts F' ∧ Go F G H F' G' H' ∧ Off W σ σ' ∧ PostS K E W G H F σ vs ts D (whileF c b m s'), fun σ' H' h => ⟨m, by omega, h⟩, ?_⟩
        refine hb G2 H2 σ1 s2 vs ts F2 _ r2 ?_
        have g3 := g1.trans g2
        cases eb : b s2 with
        | bad => simp only [eb] at p1; exact p1
        | ex y s3 => simp only [eb] at p1; exact fun σ' G3 H3 F3 g4 o4 r4 => p1 σ' G3 H3 F3 (g3.trans g4) (o1.trans o4) r4
        | ok f s3 =>
          cases f with
          | nx => simp only [eb] at p1; exact fun σ' G3 H3 F3 g4 o4 r4 => ⟨G3, s3, F3, r4, g3.trans g4, o1.trans o4, p1⟩
          | ct => simp only [eb] at p1; exact fun σ' G3 H3 F3 g4 o4 r4 => ⟨G3, s3, F3, r4, g3.trans g4, o1.trans o4, p1⟩
          | bk => simp only [eb] at p1; exact fun σ' G3 H3 F3 g4 o4 r4 => p1 σ' G3 H3 F3 (g3.trans g4) (o1.trans o4) r4
          | rt t => simp only [eb] at p1; exact fun v σ' G3 H3 F3 g4 o4 r4 => p1 v σ' G3 H3 F3 (g3.trans g4) (o1.trans o4) r4
/-! ### comprehensions -/
def wipeS (s : Sg) : List Nat → Sg
  | [] => s
  | v :: vs => (wipeS s vs).set v none
theorem wipe_get (σ : L2.St) : ∀ (ws : List Nat) (j : Nat), (L2.wipe σ ws)[j]? = if j ∈ ws then (if j < σ.length then some none else none) else σ[j]?
  | [], j => by simp [L2.wipe]
  | w :: ws, j => by
    unfold L2.wipe
    by_cases e : w = j
    · subst e
      by_cases hl : w < σ.length
      · rw [List.getElem?_set_self (by rw [wipe_length]; exact hl)]; simp [hl]
      · rw [List.getElem?_eq_none (by rw [List.length_set, wipe_length]; omega)]; simp [hl]
    · rw [List.getElem?_set_ne e, wipe_get σ ws j]
      have ne : j ≠ w := fun z => e z.symm
      by_cases m : j ∈ ws
      · rw [if_pos m, if_pos (List.mem_cons_of_mem w m)]
      · rw [if_neg m, if_neg (by simp [m, ne])]
theorem off_wipe {σ2 : L2.St} {ws : List Nat} (o : Off ws (L2.wipe σ ws) σ2) : L2.wipe σ2 ws = L2.wipe σ ws := by
  apply List.ext_getElem?
  intro j
  rw [wipe_get, wipe_get]
  have hl : σ2.length = σ.length := by rw [o.1, wipe_length]
  by_cases m : j ∈ ws
  · rw [if_pos m, if_pos m, hl]
  · rw [if_neg m, if_neg m, o.2 j m, wipe_get, if_neg m]
theorem Sl.agree : ∀ {σ σ' : L2.St} {s : Sg} {L : List Addr}, Sl K G H σ s L → σ'.length = σ.length → (∀ i : Nat, s[i]? ≠ some none → σ'[i]? = σ[i]?) → Sl K G H σ' s L
  | _, [], _, _, .nil, _, _ => .nil
  | _, _ :: _, _, _, .nil, e, _ => by simp at e
  | _, [], _, _, .no h, e, _ => by simp at e
  | _, [], _, _, .yes h hs, e, _ => by simp at e
  | _, v :: σ', _, _, .no h, e, k => .no (h.agree (by simpa using e) fun i n => by
      have := k (i + 1) (by simpa using n)
      simpa using this)
  | _, v :: σ', _, _, .yes h hs, e, k => by
    have := k 0 (by simp)
    simp at this
    subst this
    exact .yes h (hs.agree (by simpa using e) fun i n => by
      have := k (i + 1) (by simpa using n)
      simpa using this)
theorem RS.agree {σ' : L2.St} (r : RS K G H σ s vs ts F) (e : σ'.length = σ.length) (k : ∀ i : Nat, s[i]? ≠ some none → σ'[i]? = σ[i]?) : RS K G H σ' s vs ts F := by
  obtain ⟨L1, L2, h1, h2, nd, hn, hf⟩ := r.ex
  exact ⟨r.gh, L1, L2, h1.agree e k, h2, nd, hn, hf⟩
theorem RS.wipes : ∀ (ws : List Nat) {σ : L2.St} {s : Sg} {F : Addr → Prop}, RS K G H σ s vs ts F → ∃ F', RS K G H (_root_.L2.wipe σ ws) (wipeS s ws) vs ts F' ∧ ∀ a, F' a → F a
  | [], _, _, F, r => ⟨F, r, fun _ h => h⟩
  | w :: ws, _, _, F, r => by
    obtain ⟨F1, r1, h1⟩ := RS.wipes ws r
    obtain ⟨F2, r2, h2⟩ := r1.wipe (i := w) none
    exact ⟨F2, r2, fun a z => h1 a (h2 a z)⟩
theorem wipeS_len (s : Sg) : ∀ ws : List Nat, (wipeS s ws).length = s.length
  | [] => rfl
  | w :: ws => by unfold wipeS; rw [List.length_set, wipeS_len s ws]
theorem wipeS_none (s : Sg) : ∀ {ws : List Nat} {i : Nat}, i ∈ ws → i < s.length → (wipeS s ws)[i]? = some none
  | w :: ws, i, h, hl => by
    unfold wipeS
    by_cases e : w = i
    · subst e
      rw [List.getElem?_set_self (by rw [wipeS_len]; exact hl)]
    · rw [List.getElem?_set_ne e]
      exact wipeS_none s ((List.mem_cons.mp h).resolve_left fun z => e z.symm) hl
theorem wipeS_idem (s : Sg) (ws : List Nat) : wipeS (wipeS s ws) ws = wipeS s ws := by
  have key : ∀ (us : List Nat), (∀ u ∈ us, u ∈ ws) → wipeS (wipeS s ws) us = wipeS s ws := by
    intro us
    induction us with
    | nil => intro _; rfl
    | cons u us ih =>
      intro h
      show (wipeS (wipeS s ws) us).set u none = wipeS s ws
      rw [ih fun x m => h x (by simp [m])]
      apply List.ext_getElem?
      intro j
      by_cases e : u = j
      · subst e
        by_cases hl : u < s.length
        · rw [List.getElem?_set_self (by rw [wipeS_len]; exact hl), wipeS_none s (h u (by simp)) hl]
        · rw [List.getElem?_eq_none (by rw [List.length_set, wipeS_len]; omega), List.getElem?_eq_none (by rw [wipeS_len]; omega)]
      · rw [List.getElem?_set_ne e]
  exact key ws fun _ h => h
theorem RS.lenS (r : RS K G H σ s vs ts F) : σ.length = s.length := by
  obtain ⟨L1, L2, h1, _⟩ := r.ex
  exact h1.len
/-- out of a comprehension -/
theorem RS.out {σ2 : L2.St} {ws : List Nat} (r : RS K G H σ2 s vs ts F) (o : Off ws (L2.wipe σ ws) σ2) : ∃ F', RS K G H σ (wipeS s ws) vs ts F' ∧ ∀ a, F' a → F a := by
  obtain ⟨F', r', hf⟩ := r.wipes ws
  have hl : σ2.length = σ.length := by rw [o.1, wipe_length]
  have hls := r.lenS
  refine ⟨F', r'.agree (by rw [wipe_length]; exact hl.symm) fun i n => ?_, hf⟩
  rw [wipe_get]
  by_cases m : i ∈ ws
  · by_cases h : i < s.length
    · exact absurd (wipeS_none s m h) n
    · rw [if_pos m, if_neg (by omega)]
      exact List.getElem?_eq_none (by omega)
  · rw [if_neg m, o.2 i m, wipe_get, if_neg m]
theorem RS.into {ws : List Nat} (r : RS K G H σ s vs ts F) : ∃ F', RS K G H (L2.wipe σ ws) (wipeS s ws) vs ts F' ∧ ∀ a, F' a → F a := r.wipes ws
def lcL (ws : List Nat) (a : MG) (c : MT) (e : ME) : List PyData → List T → Sg → R (List T)
  | [], acc, s => .ok acc s
  | d :: ds, acc, s => match a d (wipeS s ws) with
    | none => .bad
    | some s1 => match c s1 with
      | .ok true s2 => (match e s2 with
        | .ok t s3 => if acc.length < 16777216 then lcL ws a c e ds (acc ++ [t]) (wipeS s3 ws) else .bad
        | _ => .bad)
      | .ok false s2 => lcL ws a c e ds acc (wipeS s2 ws)
      | _ => .bad
def mLc (mi : MI) (ws : List Nat) (a : MG) (c : MT) (e : ME) : ME := fun s => (mi s).bind fun ds s => (lcL ws a c e ds [] (wipeS s ws)).bind fun acc s => .ok (.lst acc) s
variable {E' : L2.St → XK} {e : ME} {ws : List Nat}
theorem se_Lc (hi : SI K E wi mi) (hg : GT K ws g a) (hc : ST K (fun _ => E0) tt c) (he : SE K (fun _ => E0) te e) : SE K E (tLc wi g tt te ws) (mLc mi ws a c e) := fun G H σ s vs ts F Q r p => by
  refine hi G H σ s vs ts F _ r ?_
  unfold mLc at p
  cases em : mi s with
  | bad => rw [em] at p; exact p
  | ex x s' => rw [em] at p; exact p
  | ok ds s' =>
    rw [em] at p
    intro J G' H' F' g0 r' dw Da hD
    have p : PostE K E G H F σ vs ts Q ((lcL ws a c e ds [] (wipeS s' ws)).bind fun acc s => .ok (.lst acc) s) := p
    -- the list that is made is a temporary
    have hGD : G' Da = none := r'.gh.free hD
    have fresh : ∀ {o : HO}, isTupO o = false → RS K G' (upd H' Da o) σ s' vs ts F' ∧ Go F' G' H' F' G' (upd H' Da o) := fun {o} ho => by
      have nF : ∀ b, F' b → b ≠ Da := fun b z y => by
        obtain ⟨o', q, _⟩ := r'.trk z
        rw [y, hD] at q
        cases q
      refine ⟨r'.keep (Same.refl G') (fun b w q => ?_) (fun b z => upd_ne (nF b z)) (fun b z => ?_), ⟨Same.refl G', fun b w q _ => ?_, fun b w q => .inl q, fun b z => .inl z, fun b q => ?_, fun b w q t => ?_⟩⟩
      · rw [upd_ne (ne_of_none q hGD)]; exact r'.gh b w q
      · obtain ⟨_, _, _, q⟩ := r'.trk z; exact q
      · rw [upd_ne (ne_of_none q hD)]; exact q
      · by_cases y : b = Da
        · subst y; exact hD
        · rw [upd_ne y] at q; exact q
      · by_cases y : b = Da
        · subst y; rw [upd_same] at q; cases q; rw [ho] at t; cases t
        · rw [upd_ne y] at q; exact .inr q
    obtain ⟨rn, gn⟩ := fresh (o := .lst []) rfl
    have r0 : RS K G' (upd H' Da (.lst [])) σ s' (.ref Da :: vs) (.lst [] :: ts) (fun b => F' b ∨ b ∈ [Da]) := rn.pushO (.lst upd_same .nil) (by simp) (fun b m z => by
      rw [List.mem_singleton] at m
      subst m
      obtain ⟨o', q, _⟩ := r'.trk z
      rw [hD] at q
      cases q) fun b m => by rw [List.mem_singleton] at m; subst m; exact hGD
    have gD : Go F G H (fun b => F' b ∨ b ∈ [Da]) G' (upd H' Da (.lst [])) := by
      have q := g0.trans gn
      exact ⟨q.gg, q.hh, q.nw, fun b z => z.elim (q.nf b) fun m => by
        rw [List.mem_singleton] at m
        subst m
        exact .inr (g0.dm b hD), q.dm, q.tp⟩
    obtain ⟨F1, r1, hf1⟩ := r0.into (ws := ws)
    refine ⟨fun i m H1 => ∃ G1 s1 F1 acc, RS K G1 H1 (L2.wipe σ ws) s1 (.ref Da :: vs) (.lst acc :: ts) F1 ∧ Go F G H F1 G1 H1 ∧ Same G' G1 ∧ i ≤ ds.length ∧ m = ds.length - i ∧ wipeS s1 ws = s1 ∧ PostE K E G H F σ vs ts Q ((lcL ws a c e (ds.drop i) acc s1).bind fun acc s => .ok (.lst acc) s), ⟨ds.length, G', wipeS s' ws, F1, [], r1, gD.less hf1, Same.refl G', Nat.zero_le _, rfl, wipeS_idem s' ws, by simpa using p⟩, ?_⟩
    rintro i m H1 ⟨G1, s1, F1, acc, r1, g1, gg1, hin, rfl, idem, p1⟩
    by_cases hlt : i < ds.length
    · refine .inr ⟨dw.goes i H1 hlt (gg1.trans r1.gh), fun H2 => ∃ G1 s1 F1 acc, RS K G1 H2 (L2.wipe σ ws) s1 (.ref Da :: vs) (.lst acc :: ts) F1 ∧ Go F G H F1 G1 H2 ∧ Same G' G1 ∧ i + 1 ≤ ds.length ∧ wipeS s1 ws = s1 ∧ PostE K E G H F σ vs ts Q ((lcL ws a c e (ds.drop (i + 1)) acc s1).bind fun acc s => .ok (.lst acc) s), fun H2 ⟨G1, s1, F1, acc, a1, a2, a3, a4, a5, a6⟩ => ⟨ds.length - (i + 1), by omega, G1, s1, F1, acc, a1, a2, a3, a4, rfl, a5, a6⟩, fun x H2 y => ?_⟩
      obtain ⟨G2, ex, hx⟩ := dw.yields i H1 x H2 G1 hlt gg1 r1.gh y
      obtain ⟨r2, g2⟩ := r1.extGo ex
      rw [List.drop_eq_getElem_cons hlt] at p1
      have hx : Dt K G2 x ds[i] := by
        rw [List.getD_eq_getElem?_getD, List.getElem?_eq_getElem hlt] at hx
        exact hx
      unfold lcL at p1
      rw [idem] at p1
      cases ea : a ds[i] s1 with
      | none => rw [ea] at p1; exact p1.elim
      | some s2 =>
        rw [ea] at p1
        refine hg G2 H2 _ s1 _ _ F1 x _ s2 _ r2 hx ea fun σ2 F2 o2 r3 hf => ⟨off_wipe o2, ?_⟩
        have g3 : Go F G H F2 G2 H2 := (g1.trans g2).less hf
        refine hc G2 H2 σ2 s2 _ _ F2 _ r3 ?_
        cases ec : c s2 with
        | bad => simp only [ec] at p1; exact p1
        | ex y s3 => simp only [ec] at p1; exact p1.elim
        | ok bb s3 =>
          intro G3 H3 F3 g4 r4
          have g5 := g3.trans g4
          have gg5 : Same G' G3 := (gg1.trans g2.gg).trans g4.gg
          cases bb with
          | false =>
            simp only [ec] at p1
            obtain ⟨F4, r5, hf4⟩ := RS.wipes ws r4
            rw [off_wipe o2] at r5
            exact iteF ⟨G3, wipeS s3 ws, F4, acc, r5, g5.less hf4, gg5, hlt, wipeS_idem s3 ws, p1⟩
          | true =>
            simp only [ec] at p1
            refine iteT (he G3 H3 σ2 s3 _ _ F3 _ r4 ?_)
            cases ee : e s3 with
            | bad => simp only [ee] at p1; exact p1
            | ex y s4 => simp only [ee] at p1; exact p1.elim
            | ok t s4 =>
              simp only [ee] at p1
              intro v G4 H4 F4 g6 r5
              by_cases hz : acc.length < 16777216
              · rw [if_pos hz] at p1
                have r6 := r5.swap
                obtain ⟨L1, L2, k1, k2, nd, hn, hf⟩ := r6.ex
                cases k2 with
                | @cons _ _ _ _ La Lb oa ob =>
                cases oa with
                | @lst _ xs _ Lx hacc hxs =>
                cases ob with
                | @cons _ _ _ _ Lt Lr ot orr =>
                refine ⟨xs, hacc, by rw [hxs.len]; exact sz_lt hz, ?_⟩
                have allp : (L1 ++ (Da :: Lx ++ (Lt ++ Lr))).Perm (Da :: (L1 ++ (Lx ++ (Lt ++ Lr)))) := perm_of fun z => by simp only [List.count_append, List.count_cons]; omega
                have nd' := allp.nodup_iff.mp nd
                have nDa := (List.nodup_cons.mp nd').1
                have keep : ∀ {L : List Addr}, (∀ b ∈ L, b ∈ L1 ++ (Lx ++ (Lt ++ Lr))) → ∀ b ∈ L, upd H4 Da (.lst (xs ++ [v])) b = H4 b := fun hL b m => upd_ne fun z => nDa (z ▸ hL b m)
                have gDa : G4 Da = none := hn Da (by simp)
                have r7 : RS K G4 (upd H4 Da (.lst (xs ++ [v]))) σ2 s4 (.ref Da :: vs) (.lst (acc ++ [t]) :: ts) F4 := by
                  refine ⟨fun b w q => by rw [upd_ne (ne_of_none q gDa)]; exact r6.gh b w q, L1, (Da :: (Lx ++ (Lt ++ []))) ++ Lr, k1.keep (Same.refl G4) (keep fun b m => by simp [m]), .cons (.lst upd_same ((hxs.keep (Same.refl G4) (keep fun b m => by simp [m])).join (.cons (ot.keep (Same.refl G4) (keep fun b m => by simp [m])) .nil))) (orr.keep (Same.refl G4) (keep fun b m => by simp [m])), ?_, fun b m => hn b (by simp at m ⊢; rcases m with m | m | m | m | m <;> simp [m]), fun b => (hf b).trans (by simp)⟩
                  have e : (L1 ++ (Da :: (Lx ++ (Lt ++ [])) ++ Lr)).Perm (L1 ++ (Da :: Lx ++ (Lt ++ Lr))) := perm_of fun z => by simp only [List.count_append, List.count_cons, List.count_nil]; omega
                  exact e.nodup_iff.mpr nd
                obtain ⟨F5, r8, hf5⟩ := RS.wipes ws r7
                rw [off_wipe o2] at r8
                have fDa : F4 Da := (hf Da).mpr (by simp)
                have gU : Go F4 G4 H4 F4 G4 (upd H4 Da (.lst (xs ++ [v]))) := ⟨Same.refl G4, fun b w q n => by rw [upd_ne (fun (z : b = Da) => n (z ▸ fDa))]; exact q, fun b w q => .inl q, fun b z => .inl z, fun b q => by
                  by_cases z : b = Da
                  · subst z; rw [upd_same] at q; cases q
                  · rw [upd_ne z] at q; exact q, fun b w q t => by
                  by_cases z : b = Da
                  · subst z; rw [upd_same] at q; cases q; cases t
                  · rw [upd_ne z] at q; exact .inr q⟩
                exact ⟨G4, wipeS s4 ws, F5, acc ++ [t], r8, ((g5.trans g6).trans gU).less hf5, gg5.trans g6.gg, hlt, wipeS_idem s4 ws, p1⟩
              · rw [if_neg hz] at p1
                exact p1.elim
    · have ei : i = ds.length := by omega
      subst ei
      rw [List.drop_length] at p1
      refine .inl ⟨dw.stops H1 (gg1.trans r1.gh), ?_⟩
      obtain ⟨F2, r2, hf2⟩ := RS.out (σ := σ) (ws := ws) r1 .refl
      rw [idem] at r2
      exact p1 _ G1 H1 F2 (g1.less hf2) r2
end
end S

namespace S
open PySem L2
/-! ### built-ins by data -/
def gLen : List PyData → Option PyData
  | [.list ds] => some (.int ds.length)
  | [.tuple ds] => some (.int ds.length)
  | [.str z] => if z.length ≤ 16777216 then some (.int z.length) else none
  | _ => none
def boolsOf : List PyData → Option (List Bool)
  | [] => some []
  | d :: ds => (boolOf d).bind fun b => (boolsOf ds).map fun bs => b :: bs
def gAll : List PyData → Option PyData
  | [.list ds] => (boolsOf ds).map fun bs => .bool (bs.all id)
  | _ => none
def intOf : PyData → Option Int
  | .int i => some i
  | _ => none
def intsOf : List PyData → Option (List Int)
  | [] => some []
  | d :: ds => (intOf d).bind fun b => (intsOf ds).map fun bs => b :: bs
def gSum : List PyData → Option PyData
  | [.list ds] => (intsOf ds).map fun ns => .int ns.sum
  | _ => none
def strOf : PyData → Option Str
  | .str i => some i
  | _ => none
def strsOf : List PyData → Option (List Str)
  | [] => some []
  | d :: ds => (strOf d).bind fun b => (strsOf ds).map fun bs => b :: bs
def gInt1 : List PyData → Option PyData
  | [.int i] => some (.int i)
  | [.bool b] => some (.int (if b then 1 else 0))
  | _ => none
def gMin2 : List PyData → Option PyData
  | [.int i, .int j] => some (.int (if j < i then j else i))
  | _ => none
def gListC : List PyData → Option PyData
  | [.list ds] => some (.list ds)
  | [.tuple ds] => some (.list ds)
  | _ => none
def gListT : List PyData → Option PyData
  | [.str z] => if z.cps.toList.length ≤ 10000 then some (.list (signs z)) else none
  | _ => none
def gTupC : List PyData → Option PyData
  | [.list ds] => some (.tuple ds)
  | _ => none
section
variable {K : PySem.W.Frag}
theorem boolsOf_eq : ∀ {ds : List PyData} {bs : List Bool}, boolsOf ds = some bs → ds = bs.map .bool
  | [], _, h => by cases h; rfl
  | d :: ds, _, h => by
    obtain ⟨b, h1, h⟩ := Option.bind_eq_some_iff.mp h
    obtain ⟨bs, h2, h⟩ := Option.map_eq_some_iff.mp h
    cases h
    rw [boolOf_eq h1, boolsOf_eq h2]; rfl
theorem intOf_eq {d : PyData} {i : Int} (h : intOf d = some i) : d = .int i := by
  cases d <;> cases h; rfl
theorem strOf_eq {d : PyData} {i : Str} (h : strOf d = some i) : d = .str i := by
  cases d <;> cases h; rfl
theorem intsOf_eq : ∀ {ds : List PyData} {bs : List Int}, intsOf ds = some bs → ds = bs.map .int
  | [], _, h => by cases h; rfl
  | d :: ds, _, h => by
    obtain ⟨b, h1, h⟩ := Option.bind_eq_some_iff.mp h
    obtain ⟨bs, h2, h⟩ := Option.map_eq_some_iff.mp h
    cases h
    rw [intOf_eq h1, intsOf_eq h2]; rfl
theorem strsOf_eq : ∀ {ds : List PyData} {bs : List Str}, strsOf ds = some bs → ds = bs.map .str
  | [], _, h => by cases h; rfl
  | d :: ds, _, h => by
    obtain ⟨b, h1, h⟩ := Option.bind_eq_some_iff.mp h
    obtain ⟨bs, h2, h⟩ := Option.map_eq_some_iff.mp h
    cases h
    rw [strOf_eq h1, strsOf_eq h2]; rfl
theorem strsOf_map : ∀ (bs : List Str), strsOf (bs.map .str) = some bs
  | [] => rfl
  | b :: bs => by simp [strsOf, strOf, strsOf_map bs]
theorem boolsOf_map : ∀ (bs : List Bool), boolsOf (bs.map .bool) = some bs
  | [] => rfl
  | b :: bs => by simp [boolsOf, boolOf, boolsOf_map bs]
theorem intsOf_map : ∀ (bs : List Int), intsOf (bs.map .int) = some bs
  | [] => rfl
  | b :: bs => by simp [intsOf, intOf, intsOf_map bs]
theorem cs_len : CbS K (fun xs H Q => ∃ x n, xs = [x] ∧ LenV K x H n ∧ Q (.int n) H) gLen := fun ds d e => by
  unfold gLen at e
  split at e
  · cases e; exact cb_lenL
  · cases e; exact cb_lenT
  · split at e
    · next h => cases e; exact cb_lenS (Nat.le_trans h sizeLine_ge)
    · cases e
  · cases e
theorem cs_all : CbS K (rAll K) gAll := fun ds d e => by
  unfold gAll at e
  split at e
  · obtain ⟨bs, h1, h2⟩ := Option.map_eq_some_iff.mp e
    cases h2
    rw [boolsOf_eq h1]
    exact cb_all
  · cases e
theorem cs_sum : CbS K (rSum K) gSum := fun ds d e => by
  unfold gSum at e
  split at e
  · obtain ⟨bs, h1, h2⟩ := Option.map_eq_some_iff.mp e
    cases h2
    rw [intsOf_eq h1]
    exact cb_sum
  · cases e
theorem cs_int1 : CbS K (fun xs H Q => (∃ i, xs = [.int i] ∧ Q (.int i) H) ∨ ∃ k, xs = [.bl k] ∧ Q (.int (if k then 1 else 0)) H) gInt1 := fun ds d e => by
  unfold gInt1 at e
  split at e
  · cases e
    intro vs G H gh h Q q
    obtain ⟨v, rfl, h1⟩ := dts1 h
    rw [dt_int h1]
    exact .inl ⟨_, rfl, q _ G H (Ext.refl gh) (.int _)⟩
  · cases e; exact cb_intB
  · cases e
theorem cs_min2 : CbS K (fun xs H Q => ∃ i j, xs = [.int i, .int j] ∧ Q (.int (if j < i then j else i)) H) gMin2 := fun ds d e => by
  unfold gMin2 at e
  split at e
  · cases e; exact cb_min2
  · cases e
theorem cs_listC : CbS K (fun xs H Q => ∃ p ys, xs = [.ref p] ∧ (SqL K H p ys ∨ SqT K H p ys) ∧ ∀ l, H l = none → Q (.ref l) (upd H l (.lst ys))) gListC := fun ds d e => by
  unfold gListC at e
  split at e
  · cases e; exact cb_listL
  · cases e; exact cb_listT
  · cases e
theorem cs_listT : CbS K (fun xs H Q => ∃ z : List Nat, xs = [.str (mkS z)] ∧ z.length ≤ 10000 ∧ ∀ l, H l = none → Q (.ref l) (upd H l (.lst (z.map fun c => .str (sg c))))) gListT := fun ds d e => by
  unfold gListT at e
  split at e
  · next z =>
    split at e
    · next h =>
      cases e
      have q := cb_listT' (K := K) h
      rw [mkS_cps] at q
      exact q
    · cases e
  · cases e
theorem cs_tupC : CbS K (fun xs H Q => ∃ p ys, xs = [.ref p] ∧ ((SqL K H p ys ∧ ∀ l, H l = none → Q (.ref l) (upd H l (.tup ys))) ∨ (SqT K H p ys ∧ Q (.ref p) H))) gTupC := fun ds d e => by
  unfold gTupC at e
  split at e
  · cases e; exact cb_tupleL
  · cases e
end
/-! ### methods of texts -/
def MdS (K : PySem.W.Frag) (r : V → List V → Hp → VK → Prop) (g : PyData → PyData → Option PyData) : Prop := ∀ x y d, g x y = some d → (∃ a, x = .str a) ∧ MD K r x [y] d
def gJoin : PyData → PyData → Option PyData
  | .str a, .list ds => (strsOf ds).bind fun ys => if (ys.map (·.length)).sum + ys.length * a.length ≤ 16777216 then some (.str (Txt.join a ys)) else none
  | _, _ => none
def gSIndex : PyData → PyData → Option PyData
  | .str a, .str b => match Builtin.Str.occurrences a b 0 a.length 1 with
    | i :: _ => some (.int (i : Nat))
    | [] => none
  | _, _ => none
section
variable {K : PySem.W.Frag} {ta tb tc te : TE} {a b c : FP} {r r' : R2} {g g' : PyData → PyData → Option PyData}
theorem ms_join : MdS K (fun x xs H Q => ∃ a p, ∃ ys : List Str, x = .str a ∧ xs = [.ref p] ∧ (SqL K H p (ys.map V.str) ∨ SqT K H p (ys.map V.str)) ∧ (ys.map (·.length)).sum + ys.length * a.length ≤ 16777216 ∧ Q (.str (Txt.join a ys)) H) gJoin := fun x y d e => by
  unfold gJoin at e
  split at e
  · obtain ⟨ys, h1, e⟩ := Option.bind_eq_some_iff.mp e
    split at e
    · next h =>
      cases e
      rw [strsOf_eq h1]
      exact ⟨⟨_, rfl⟩, md_join h⟩
    · cases e
  · cases e
theorem ms_sindex : MdS K (fun x xs H Q => ∃ a b i rest, x = .str a ∧ xs = [.str b] ∧ Builtin.Str.occurrences a b 0 a.length 1 = i :: rest ∧ Q (.int (i : Nat)) H) gSIndex := fun x y d e => by
  unfold gSIndex at e
  split at e
  · split at e
    · next h => cases e; exact ⟨⟨_, rfl⟩, md_sindex h⟩
    · cases e
  · cases e
theorem pp_m1 {rr : V → List V → Hp → VK → Prop} (hr : MdS K rr g) (ha : PP K ta a) (hb : PP K tb b) : PP K (tM1 rr ta tb) (fOp g a b) := fun G σ w d h e => by
  obtain ⟨x, e1, e⟩ := Option.bind_eq_some_iff.mp e
  obtain ⟨y, e2, e⟩ := Option.bind_eq_some_iff.mp e
  obtain ⟨⟨z, rfl⟩, hm⟩ := hr x y d e
  exact ed_m1 (ha G σ w _ h e1) (hb G σ w y h e2) hm
/-- a < b < c -/
def fChain (g g' : PyData → PyData → Option PyData) (a b c : FP) : FP := fun w => (a w).bind fun x => (b w).bind fun y => (g x y).bind fun p => (boolOf p).bind fun p => (c w).bind fun z => (g' y z).bind fun q => (boolOf q).bind fun q => some (.bool (p && q))
theorem pp_chain (hr : OpS K r g) (hr' : OpS K r' g') (ha : PP K ta a) (hb : PP K tb b) (hc : PP K tc c) : PP K (tChain r r' ta tb tc) (fChain g g' a b c) := fun G σ w d h e => by
  obtain ⟨x, e1, e⟩ := Option.bind_eq_some_iff.mp e
  obtain ⟨y, e2, e⟩ := Option.bind_eq_some_iff.mp e
  obtain ⟨p, e3, e⟩ := Option.bind_eq_some_iff.mp e
  obtain ⟨p', e4, e⟩ := Option.bind_eq_some_iff.mp e
  obtain ⟨z, e5, e⟩ := Option.bind_eq_some_iff.mp e
  obtain ⟨q, e6, e⟩ := Option.bind_eq_some_iff.mp e
  obtain ⟨q', e7, e⟩ := Option.bind_eq_some_iff.mp e
  cases e
  rw [boolOf_eq e4] at e3
  rw [boolOf_eq e7] at e6
  exact ed_chain (ha G σ w x h e1) (hb G σ w y h e2) (hr x y _ e3) (hc G σ w z h e5) (hr' y z _ e6)
/-- slices -/
abbrev FO := Vw → Option (Option Int)
def PPO (K : PySem.W.Frag) (to : TO) (f : FO) : Prop := ∀ G σ w o, VR K G σ w → f w = some o → EO K G to σ o
def oNone : FO := fun _ => some none
def oSome (a : FP) : FO := fun w => (a w).bind fun x => (intOf x).map some
theorem po_none' : PPO K tNoPart oNone := fun G σ w o h e => by cases e; exact eo_none
theorem po_some' (ha : PP K ta a) : PPO K (tPart ta) (oSome a) := fun G σ w o h e => by
  obtain ⟨x, e1, e⟩ := Option.bind_eq_some_iff.mp e
  obtain ⟨i, e2, e⟩ := Option.map_eq_some_iff.mp e
  cases e
  rw [intOf_eq e2] at e1
  exact eo_some (ha G σ w _ h e1)
def cutN (l : List Nat) (lo hi : Option Int) : List Nat := (l.drop (HT.sIx l.length 0 lo)).take (HT.sIx l.length l.length hi - HT.sIx l.length 0 lo)
def fSlL (a : FP) (lo hi : FO) : FP := fun w => (a w).bind fun x => (lo w).bind fun l => (hi w).bind fun h => match x with | .list ds => some (.list (cutD ds l h)) | _ => none
def fSlT (a : FP) (lo hi : FO) : FP := fun w => (a w).bind fun x => (lo w).bind fun l => (hi w).bind fun h => match x with | .tuple ds => some (.tuple (cutD ds l h)) | _ => none
def fSlS (a : FP) (lo hi : FO) : FP := fun w => (a w).bind fun x => (lo w).bind fun l => (hi w).bind fun h => match x with | .str z => if z.cps.toList.length ≤ 10000 then some (.str (mkS (cutN z.cps.toList l h))) else none | _ => none
variable {to tp : TO} {lo hi : FO}
theorem pp_slL (ha : PP K ta a) (hl : PPO K to lo) (hh : PPO K tp hi) : PP K (tSl (rSlL K) ta to tp) (fSlL a lo hi) := fun G σ w d h e => by
  obtain ⟨x, e1, e⟩ := Option.bind_eq_some_iff.mp e
  obtain ⟨l, e2, e⟩ := Option.bind_eq_some_iff.mp e
  obtain ⟨u, e3, e⟩ := Option.bind_eq_some_iff.mp e
  split at e
  · cases e; exact ed_slL (ha G σ w _ h e1) (hl G σ w _ h e2) (hh G σ w _ h e3)
  · cases e
theorem pp_slT (ha : PP K ta a) (hl : PPO K to lo) (hh : PPO K tp hi) : PP K (tSl (rSlA K) ta to tp) (fSlT a lo hi) := fun G σ w d h e => by
  obtain ⟨x, e1, e⟩ := Option.bind_eq_some_iff.mp e
  obtain ⟨l, e2, e⟩ := Option.bind_eq_some_iff.mp e
  obtain ⟨u, e3, e⟩ := Option.bind_eq_some_iff.mp e
  split at e
  · cases e; exact ed_slT (ha G σ w _ h e1) (hl G σ w _ h e2) (hh G σ w _ h e3)
  · cases e
theorem pp_slS (ha : PP K ta a) (hl : PPO K to lo) (hh : PPO K tp hi) : PP K (tSl rSlS ta to tp) (fSlS a lo hi) := fun G σ w d h e => by
  obtain ⟨x, e1, e⟩ := Option.bind_eq_some_iff.mp e
  obtain ⟨l, e2, e⟩ := Option.bind_eq_some_iff.mp e
  obtain ⟨u, e3, e⟩ := Option.bind_eq_some_iff.mp e
  cases x with
  | str z =>
    have e : (if z.cps.toList.length ≤ 10000 then some (PyData.str (mkS (cutN z.cps.toList l u))) else none) = some d := e
    split at e
    · next hz =>
      cases e
      have q := ha G σ w _ h e1
      rw [← mkS_cps z] at q
      exact ed_slS q (hl G σ w _ h e2) (hh G σ w _ h e3) hz
    · cases e
  | _ => cases e
/-- fields -/
def fieldsD : PyData → Option (Addr × List (PyData × PyData))
  | .dict ((.none, .int (.ofNat C)) :: ds) => some (C, ds)
  | _ => none
theorem fieldsD_eq {d : PyData} {C : Addr} {ds : List (PyData × PyData)} (h : fieldsD d = some (C, ds)) : d = dObj C ds := by
  unfold fieldsD at h
  split at h
  · cases h; rfl
  · cases h
def fFld (C : Addr) (f : Str) (a : FP) : FP := fun w => (a w).bind fun x => (fieldsD x).bind fun p => if p.1 = C then lookD f p.2 else none
theorem pp_fld {C : Addr} {f : Str} (cl : Cls K C) (n : NoAttr K C f) (ha : PP K ta a) : PP K (tFld K ta f) (fFld C f a) := fun G σ w d h e => by
  obtain ⟨x, e1, e⟩ := Option.bind_eq_some_iff.mp e
  obtain ⟨⟨C', ds⟩, e2, e3⟩ := Option.bind_eq_some_iff.mp e
  clear e
  split at e3
  · next hc =>
    have hc : C' = C := hc
    subst hc
    rw [fieldsD_eq e2] at e1
    exact ed_fld cl n (ha G σ w _ h e1) e3
  · cases e3
/-- isinstance(e, T) -/
def fIsi (T : String) (a : FP) : FP := fun w => (a w).bind fun x => if isObjD x then none else (kitB (tyD x) T).map .bool
theorem pp_isi {T : String} (ha : PP K ta a) : PP K (tCB (rIsi K) (tCons ta (tCons (tC (.ty T)) tNil))) (fIsi T a) := fun G σ w d h e => by
  obtain ⟨x, e1, e⟩ := Option.bind_eq_some_iff.mp e
  split at e
  · cases e
  · next ho =>
    obtain ⟨ans, e2, e⟩ := Option.map_eq_some_iff.mp e
    cases e
    exact ed_isi (ha G σ w _ h e1) e2 (by simpa using ho)
/-- isinstance(e, D), D of the program; tab: of which classes what -/
def fIsC (tab : List (Addr × Bool)) (a : FP) : FP := fun w => (a w).bind fun x => (fieldsD x).bind fun p => (valG tab p.1).map .bool
theorem valG_mem {κ α : Type} [DecidableEq κ] {kvs : List (κ × α)} {k : κ} {v : α} (h : valG kvs k = some v) : (k, v) ∈ kvs := by
  obtain ⟨j, _, e⟩ := valG_ix h
  exact List.mem_of_getElem? e
theorem pp_isC {D : Addr} {tab : List (Addr × Bool)} (ht : ∀ p ∈ tab, IsO K p.1 ∧ PySem.W.kitOne K (.ref p.1) (.ref D) = some p.2) (ha : PP K ta a) : PP K (tCB (rIsi K) (tCons ta (tCons (tC (.ref D)) tNil))) (fIsC tab a) := fun G σ w d h e => by
  obtain ⟨x, e1, e⟩ := Option.bind_eq_some_iff.mp e
  obtain ⟨⟨C', ds⟩, e2, e⟩ := Option.bind_eq_some_iff.mp e
  obtain ⟨ans, e3, e⟩ := Option.map_eq_some_iff.mp e
  cases e
  rw [fieldsD_eq e2] at e1
  obtain ⟨o, k⟩ := ht _ (valG_mem e3)
  exact ed_isiO (ha G σ w _ h e1) o k
/-- isinstance of a caught exception: by own classes, by types -/
def excD : PyData → Option Addr
  | .dict [(.bool true, .int (.ofNat C))] => some C
  | _ => none
theorem excD_eq {d : PyData} {C : Addr} (h : excD d = some C) : d = dExc C := by
  unfold excD at h
  split at h
  · cases h; rfl
  · cases h
def fIsX (tab : List (Addr × Bool)) (a : FP) : FP := fun w => (a w).bind fun x => (excD x).bind fun C => (valG tab C).map .bool
theorem pp_isX {D : Addr} {tab : List (Addr × Bool)} (ht : ∀ p ∈ tab, ExcC K p.1 ∧ PySem.W.kitOne K (.ref p.1) (.ref D) = some p.2) (ha : PP K ta a) : PP K (tCB (rIsX K) (tCons ta (tCons (tC (.ref D)) tNil))) (fIsX tab a) := fun G σ w d h e => by
  obtain ⟨x, e1, e⟩ := Option.bind_eq_some_iff.mp e
  obtain ⟨C, e2, e⟩ := Option.bind_eq_some_iff.mp e
  obtain ⟨ans, e3, e⟩ := Option.map_eq_some_iff.mp e
  cases e
  rw [excD_eq e2] at e1
  obtain ⟨o, k⟩ := ht _ (valG_mem e3)
  exact ed_isX (ha G σ w _ h e1) o k
theorem pp_isXT {T : String} {tab : List (Addr × Bool)} (ht : ∀ p ∈ tab, ExcC K p.1 ∧ PySem.W.kitOne K (.ref p.1) (.type T) = some p.2) (ha : PP K ta a) : PP K (tCB (rIsX K) (tCons ta (tCons (tC (.ty T)) tNil))) (fIsX tab a) := fun G σ w d h e => by
  obtain ⟨x, e1, e⟩ := Option.bind_eq_some_iff.mp e
  obtain ⟨C, e2, e⟩ := Option.bind_eq_some_iff.mp e
  obtain ⟨ans, e3, e⟩ := Option.map_eq_some_iff.mp e
  cases e
  rw [excD_eq e2] at e1
  obtain ⟨o, k⟩ := ht _ (valG_mem e3)
  exact ed_isXT (ha G σ w _ h e1) o k
/-! ### dicts that are read -/
def keyed : PyData → PyData → Option Bool
  | .int i, .int j => some (decide (i = j))
  | .str i, .str j => some (decide (i = j))
  | .int _, .str _ => some false
  | .str _, .int _ => some false
  | _, _ => none
/-- a dict's data by its keys -/
def kvsOf : List (PyData × PyData) → Option (List (Key × PyData))
  | [] => some []
  | (k, d) :: ds => (keyOfD k).bind fun k => (kvsOf ds).map fun r => (k, d) :: r
def ktsOf : List (PyData × PyData) → Option (List (List Key × PyData))
  | [] => some []
  | (.tuple ks, d) :: ds => (keysOfL ks).bind fun k => (ktsOf ds).map fun r => (k, d) :: r
  | _ => none
inductive DictD where
  | k (kvs : List (Key × PyData))
  | t (kvs : List (List Key × PyData))
def dictD : PyData → Option DictD
  | .dict ((.bool false, .none) :: ds) => (ktsOf ds).map .t
  | .dict ds => (kvsOf ds).map .k
  | _ => none
variable {G H : Hp}
theorem dtk_kvs : ∀ {vs : List (Key × V)} {ds : List (PyData × PyData)}, DtKvs K G vs ds → ∃ r, kvsOf ds = some r ∧ r.map (·.1) = vs.map (·.1) ∧ DtAll K G (vs.map (·.2)) (r.map (·.2))
  | _, _, .nil => ⟨[], rfl, rfl, .nil⟩
  | _, _, .cons (k := k) (d := d) h hs => by
    obtain ⟨r, h1, h2, h3⟩ := dtk_kvs hs
    refine ⟨(k, d) :: r, ?_, by simp [h2], .cons h h3⟩
    unfold kvsOf
    have : keyOfD (keyD k) = some k := by cases k <;> rfl
    rw [this, h1]; rfl
theorem keysOfL_map : ∀ (k : List Key), keysOfL (k.map keyD) = some k
  | [] => rfl
  | k :: ks => by
    have : keyOfD (keyD k) = some k := by cases k <;> rfl
    simp [keysOfL, this, keysOfL_map ks]
theorem dtt_kts : ∀ {vs : List (List Key × V)} {ds : List (PyData × PyData)}, DtKts K G vs ds → ∃ r, ktsOf ds = some r ∧ r.map (·.1) = vs.map (·.1) ∧ DtAll K G (vs.map (·.2)) (r.map (·.2))
  | _, _, .nil => ⟨[], rfl, rfl, .nil⟩
  | _, _, .cons (k := k) (d := d) h hs => by
    obtain ⟨r, h1, h2, h3⟩ := dtt_kts hs
    refine ⟨(k, d) :: r, ?_, by simp [h2], .cons h h3⟩
    unfold ktsOf
    rw [keysOfL_map, h1]; rfl
theorem dt_dictK {v : V} {d : PyData} {r : List (Key × PyData)} (h : Dt K G v d) (e : dictD d = some (.k r)) : ∃ a kvs, v = .ref a ∧ G a = some (.dK kvs) ∧ r.map (·.1) = kvs.map (·.1) ∧ DtAll K G (kvs.map (·.2)) (r.map (·.2)) := by
  cases h with
  | dct h hs =>
    obtain ⟨r', h1, h2, h3⟩ := dtk_kvs hs
    unfold dictD at e
    split at e
    · next q =>
      cases hs with
      | nil => cases q
      | @cons k _ _ _ _ _ _ => injection q with q; injection q with q1 q2; injection q1 with q3; cases k <;> cases q3
    · next q1 q2 =>
      cases q2
      rw [h1] at e
      cases e
      exact ⟨_, _, rfl, h, h2, h3⟩
    · cases e
  | obj h hs =>
    unfold dictD at e
    split at e
    · next q => injection q with q; injection q with q; cases q
    · next q => cases q; simp [kvsOf, keyOfD] at e
    · cases e
  | exc h =>
    unfold dictD at e
    split at e
    · next q => injection q with q; injection q with q; cases q
    · next q => cases q; simp [kvsOf, keyOfD] at e
    · cases e
  | dtp h hs =>
    have e : (ktsOf _).map DictD.t = some (.k r) := e
    obtain ⟨_, _, e⟩ := Option.map_eq_some_iff.mp e
    cases e
  | _ => cases e
theorem dt_dictT {v : V} {d : PyData} {r : List (List Key × PyData)} (h : Dt K G v d) (e : dictD d = some (.t r)) : ∃ a kvs, v = .ref a ∧ G a = some (.dT kvs) ∧ r.map (·.1) = kvs.map (·.1) ∧ DtAll K G (kvs.map (·.2)) (r.map (·.2)) := by
  cases h with
  | dtp h hs =>
    obtain ⟨r', h1, h2, h3⟩ := dtt_kts hs
    have e : (ktsOf _).map DictD.t = some (.t r) := e
    rw [h1] at e
    cases e
    exact ⟨_, _, rfl, h, h2, h3⟩
  | dct h hs =>
    unfold dictD at e
    split at e
    · next q =>
      cases hs with
      | nil => cases q
      | @cons k _ _ _ _ _ _ => injection q with q; injection q with q1 q2; injection q1 with q3; cases k <;> cases q3
    · next q => obtain ⟨_, _, e⟩ := Option.map_eq_some_iff.mp e; cases e
    · cases e
  | obj h hs =>
    unfold dictD at e
    split at e
    · next q => injection q with q; injection q with q; cases q
    · next q => obtain ⟨_, _, e⟩ := Option.map_eq_some_iff.mp e; cases e
    · cases e
  | exc h =>
    unfold dictD at e
    split at e
    · next q => injection q with q; injection q with q; cases q
    · next q => obtain ⟨_, _, e⟩ := Option.map_eq_some_iff.mp e; cases e
    · cases e
  | _ => cases e
/-- what a dict has at a key -/
def dGet (x y : PyData) : Option (Option PyData) := match dictD x with
  | some (.k r) => (keyOfD y).map fun k => valG r k
  | some (.t r) => (keysOfD y).map fun k => valG r k
  | none => none
theorem valG_dts {κ : Type} [DecidableEq κ] : ∀ {kvs : List (κ × V)} {r : List (κ × PyData)} {k : κ}, r.map (·.1) = kvs.map (·.1) → DtAll K G (kvs.map (·.2)) (r.map (·.2)) → (∀ d, valG r k = some d → ∃ v, valG kvs k = some v ∧ Dt K G v d) ∧ (valG r k = none → valG kvs k = none)
  | [], [], _, _, _ => ⟨fun _ e => (by cases e), fun _ => rfl⟩
  | p :: kvs, q :: r, k, e, .cons h hs => by
    simp only [List.map_cons, List.cons.injEq] at e
    rw [valG_cons, valG_cons, e.1]
    by_cases z : p.1 = k
    · rw [if_pos z, if_pos z]
      exact ⟨fun d ed => by cases ed; exact ⟨_, rfl, h⟩, fun z => by cases z⟩
    · rw [if_neg z, if_neg z]
      exact valG_dts e.2 hs
  | [], _ :: _, _, e, _ => by simp at e
  | _ :: _, [], _, e, _ => by simp at e
theorem dGet_at {x y : V} {d1 d2 : PyData} {o : Option PyData} (gh : Same G H) (hx : Dt K G x d1) (hy : Dt K G y d2) (e : dGet d1 d2 = some o) : ∃ a ov, x = .ref a ∧ DGet H a y ov ∧ (∀ d, o = some d → ∃ v, ov = some v ∧ Dt K G v d) ∧ (o = none → ov = none) := by
  unfold dGet at e
  split at e
  · next r er =>
    obtain ⟨k, ek, e⟩ := Option.map_eq_some_iff.mp e
    subst e
    obtain ⟨a, kvs, rfl, h1, h2, h3⟩ := dt_dictK hx er
    rw [keyOfD_eq ek] at hy
    rw [dt_key hy]
    obtain ⟨q1, q2⟩ := valG_dts (k := k) h2 h3
    exact ⟨a, _, rfl, DGet.k (gh _ _ h1), q1, q2⟩
  · next r er =>
    obtain ⟨k, ek, e⟩ := Option.map_eq_some_iff.mp e
    subst e
    obtain ⟨a, kvs, rfl, h1, h2, h3⟩ := dt_dictT hx er
    obtain ⟨b, rfl, hb⟩ := dt_keys hy gh ek
    obtain ⟨q1, q2⟩ := valG_dts (k := k) h2 h3
    exact ⟨a, _, rfl, DGet.t (gh _ _ h1) hb, q1, q2⟩
  · cases e
/-- d[k] -/
def gDGet (x y : PyData) : Option PyData := (dGet x y).join
theorem pp_dget (ha : PP K ta a) (hb : PP K tb b) : PP K (tDGet ta tb) (fOp gDGet a b) := fun G σ w d h e => by
  obtain ⟨x, e1, e⟩ := Option.bind_eq_some_iff.mp e
  obtain ⟨y, e2, e⟩ := Option.bind_eq_some_iff.mp e
  unfold gDGet at e
  rw [join_some] at e
  exact fun G1 H a' gh Q q => ha G σ w x h e1 G1 H a' gh _ fun v G2 H2 x2 hv => hb G σ w y h e2 G2 H2 (a'.trans x2.gg) x2.gh _ fun v2 G3 H3 x3 hv2 => by
    obtain ⟨p, ov, rfl, h1, h2, _⟩ := dGet_at x3.gh (same_dt x3.gg hv) hv2 e
    obtain ⟨u, rfl, hu⟩ := h2 d rfl
    exact ⟨p, u, rfl, h1, q u G3 H3 (x2.same x3) hu⟩
/-- k in d: the key first -/
def gDIn (neg : Bool) (y x : PyData) : Option PyData := (dGet x y).map fun o => .bool (if neg then !o.isSome else o.isSome)
theorem pp_din (ha : PP K ta a) (hb : PP K tb b) : PP K (tDIn ta tb) (fOp (gDIn false) a b) := fun G σ w d h e => by
  obtain ⟨y, e1, e⟩ := Option.bind_eq_some_iff.mp e
  obtain ⟨x, e2, e⟩ := Option.bind_eq_some_iff.mp e
  obtain ⟨o, e3, e⟩ := Option.map_eq_some_iff.mp e
  subst e
  exact fun G1 H a' gh Q q => ha G σ w y h e1 G1 H a' gh _ fun v G2 H2 x2 hv => hb G σ w x h e2 G2 H2 (a'.trans x2.gg) x2.gh _ fun v2 G3 H3 x3 hv2 => by
    obtain ⟨p, ov, rfl, h1, h2, h3⟩ := dGet_at x3.gh hv2 (same_dt x3.gg hv) e3
    refine ⟨p, ov, rfl, h1, ?_⟩
    have : ov.isSome = o.isSome := by
      cases o with
      | none => rw [h3 rfl]; rfl
      | some d => obtain ⟨u, rfl, _⟩ := h2 d rfl; rfl
    rw [this]
    exact q _ G3 H3 (x2.same x3) (.bl _)
theorem pp_dnotin (ha : PP K ta a) (hb : PP K tb b) : PP K (tDNotIn ta tb) (fOp (gDIn true) a b) := fun G σ w d h e => by
  obtain ⟨y, e1, e⟩ := Option.bind_eq_some_iff.mp e
  obtain ⟨x, e2, e⟩ := Option.bind_eq_some_iff.mp e
  obtain ⟨o, e3, e⟩ := Option.map_eq_some_iff.mp e
  subst e
  exact fun G1 H a' gh Q q => ha G σ w y h e1 G1 H a' gh _ fun v G2 H2 x2 hv => hb G σ w x h e2 G2 H2 (a'.trans x2.gg) x2.gh _ fun v2 G3 H3 x3 hv2 => by
    obtain ⟨p, ov, rfl, h1, h2, h3⟩ := dGet_at x3.gh hv2 (same_dt x3.gg hv) e3
    refine ⟨p, ov, rfl, h1, ?_⟩
    have : ov.isSome = o.isSome := by
      cases o with
      | none => rw [h3 rfl]; rfl
      | some d => obtain ⟨u, rfl, _⟩ := h2 d rfl; rfl
    rw [this]
    exact q _ G3 H3 (x2.same x3) (.bl _)
/-! ### comprehensions -/
abbrev FI := Vw → Option (List PyData)
def PPI (K : PySem.W.Frag) (wi : TI) (f : FI) : Prop := ∀ G σ w ds, VR K G σ w → f w = some ds → EI K G wi σ ds.length (fun i => ds.getD i .none)
def fiOf (a : FP) (cv : PyData → Option (List PyData)) : FI := fun w => (a w).bind cv
def fiArgs (as : FA) (cv : List PyData → Option (List PyData)) : FI := fun w => (as w).bind cv
variable {tas : TA} {as : FA}
theorem EI.eq {wi : TI} {σ : L2.St} {n m : Nat} {f f' : Nat → PyData} (h : EI K G wi σ n f) (e : n = m) (ef : ∀ i, i < n → f i = f' i) : EI K G wi σ m f' := fun G1 H a gh R q => h G1 H a gh R fun J G2 H2 x w => q J G2 H2 x (w.eq e ef)
theorem pi_list' (ha : PP K ta a) : PPI K (iList K ta) (fiOf a cList) := fun G σ w ds h e => by
  obtain ⟨x, e1, e⟩ := Option.bind_eq_some_iff.mp e
  cases x with
  | list l => cases e; exact ei_list (ha G σ w _ h e1)
  | _ => cases e
theorem pi_tup' (ha : PP K ta a) : PPI K (iTup K ta) (fiOf a cTup) := fun G σ w ds h e => by
  obtain ⟨x, e1, e⟩ := Option.bind_eq_some_iff.mp e
  cases x with
  | tuple l => cases e; exact ei_tup (ha G σ w _ h e1)
  | _ => cases e
theorem pi_str' (ha : PP K ta a) : PPI K (iStr ta) (fiOf a cStr) := fun G σ w ds h e => by
  obtain ⟨x, e1, e⟩ := Option.bind_eq_some_iff.mp e
  cases x with
  | str l => cases e; exact (ei_str (ha G σ w _ h e1)).eq signs_len fun i => signs_at
  | _ => cases e
theorem pi_rng1' (ha : PPA K tas as) : PPI K (iRng1 tas) (fiArgs as cRng1) := fun G σ w ds h e => by
  obtain ⟨x, e1, e2⟩ := Option.bind_eq_some_iff.mp e
  clear e
  unfold cRng1 at e2
  split at e2
  · next j =>
    split at e2
    · next hj =>
      cases e2
      have hj := absLt_iff.mp hj
      exact fun G1 H a' gh R q => ha G σ w _ h e1 G1 H a' gh _ fun vs G2 H2 x2 hv => by
        obtain ⟨v, rfl, h1⟩ := dts1 hv
        refine ⟨j, by rw [dt_int h1], by omega, by omega, q _ G2 H2 x2 (dw_range.eq ?_ fun i hi => ?_)⟩
        · rw [rangeD_len, Int.sub_zero]
        · rw [← rangeD_at (by rw [Int.sub_zero]; exact hi)]
    · cases e2
  · cases e2
theorem pi_rng2' (ha : PPA K tas as) : PPI K (iRng2 tas) (fiArgs as cRng2) := fun G σ w ds h e => by
  obtain ⟨x, e1, e2⟩ := Option.bind_eq_some_iff.mp e
  clear e
  unfold cRng2 at e2
  split at e2
  · next i j =>
    split at e2
    · next hj =>
      cases e2
      rw [Bool.and_eq_true, absLt_iff, absLt_iff] at hj
      exact (ei_range2 (ha G σ w _ h e1) (by omega)).eq rangeD_len.symm fun k hk => rangeD_at hk
    · cases e2
  · cases e2
theorem pi_enum' (ha : PPA K tas as) : PPI K (iEnum K tas) (fiArgs as cEnum) := fun G σ w ds h e => by
  obtain ⟨x, e1, e2⟩ := Option.bind_eq_some_iff.mp e
  clear e
  unfold cEnum at e2
  split at e2
  · cases e2
    exact (ei_enum (ha G σ w _ h e1)).eq enumD_len.symm fun i hi => by rw [enumD_at hi, Nat.zero_add]
  · cases e2
theorem pi_zip' (ha : PPA K tas as) : PPI K (iZip K tas) (fiArgs as cZip) := fun G σ w ds h e => by
  obtain ⟨x, e1, e2⟩ := Option.bind_eq_some_iff.mp e
  clear e
  unfold cZip at e2
  split at e2
  · cases e2
    exact (ei_zip (ha G σ w _ h e1)).eq zipD_len.symm fun i hi => (zipD_at hi).symm
  · cases e2
theorem pi_zipS' (ha : PPA K tas as) : PPI K (iZipS tas) (fiArgs as cZipS) := fun G σ w ds h e => by
  obtain ⟨x, e1, e2⟩ := Option.bind_eq_some_iff.mp e
  clear e
  unfold cZipS at e2
  split at e2
  · next a b =>
    cases e2
    have q := ha G σ w _ h e1
    rw [← mkS_cps a, ← mkS_cps b] at q
    refine (ei_zipS q).eq (by rw [zipD_len]; simp [signs]) fun i hi => ?_
    rw [zipD_at (by simpa [signs] using hi)]
    have h1 : i < a.cps.toList.length := by omega
    have h2 : i < b.cps.toList.length := by omega
    simp only [signs, List.getD_eq_getElem?_getD, List.getElem?_map, sg]
    simp at h1 h2
    simp [h1, h2]
  · cases e2
/-! targets -/
abbrev WG := PyData → Vw → Option Vw
abbrev WGs := List PyData → Vw → Option Vw
def wN (i : Nat) : WG := fun d w => if i < w.length then some (w.set i (some d)) else none
def wT (n : Nat) (a : WGs) : WG := fun d w => match d with
  | .tuple ds => if ds.length = n then a ds w else none
  | _ => none
def wNl : WGs := fun ds w => match ds with
  | [] => some w
  | _ => none
def wCs (a : WG) (as : WGs) : WGs := fun ds w => match ds with
  | d :: ds => (a d w).bind fun w => as ds w
  | [] => none
def PG' (K : PySem.W.Frag) (ws : List Nat) (g : TG) (a : WG) : Prop := ∀ G H σ w d w' x (Q : L2.St → Hp → Prop), Same G H → VR K G σ w → Dt K G x d → a d w = some w' → (∀ σ', Off ws σ σ' → VR K G σ' w' → Q σ' H) → g x σ H Q
def PGs' (K : PySem.W.Frag) (ws : List Nat) (g : TGs) (a : WGs) : Prop := ∀ G H σ w ds w' xs (Q : L2.St → Hp → Prop), Same G H → VR K G σ w → DtAll K G xs ds → a ds w = some w' → (∀ σ', Off ws σ σ' → VR K G σ' w' → Q σ' H) → g xs σ H Q
variable {ws : List Nat} {tg : TG} {tgs : TGs} {wg : WG} {wgs : WGs}
theorem pg_name' {i : Nat} (hw : i ∈ ws) : PG' K ws (gName i) (wN i) := fun G H σ w d w' x Q gh h hx e q => by
  unfold wN at e
  split at e
  · next hi =>
    cases e
    refine q _ (off_set hw) ⟨by simp [h.1], fun j d' ej => ?_⟩
    have hl := h.1
    by_cases z : i = j
    · subst z
      rw [List.getElem?_set_self hi] at ej
      cases ej
      exact ⟨x, List.getElem?_set_self (by omega), hx⟩
    · rw [List.getElem?_set_ne z] at ej ⊢
      exact h.2 j d' ej
  · cases e
theorem pgs_nil' : PGs' K ws gNil wNl := fun G H σ w d w' x Q gh h hx e q => by
  cases hx with
  | nil => cases e; exact ⟨rfl, q σ .refl h⟩
  | cons _ _ => cases e
theorem pgs_cons' (h1 : PG' K ws tg wg) (h2 : PGs' K ws tgs wgs) : PGs' K ws (gCons tg tgs) (wCs wg wgs) := fun G H σ w d w' x Q gh h hx e q => by
  cases hx with
  | nil => cases e
  | cons k1 k2 =>
    obtain ⟨w1, e1, e2⟩ := Option.bind_eq_some_iff.mp e
    refine ⟨_, _, rfl, h1 G H σ w _ w1 _ _ gh h k1 e1 fun σ' o r => ?_⟩
    exact h2 G H σ' w1 _ w' _ Q gh r k2 e2 fun σ2 o2 r2 => q σ2 (o.trans o2) r2
theorem pg_tup' {n : Nat} (h2 : PGs' K ws tgs wgs) : PG' K ws (gTup K n tgs) (wT n wgs) := fun G H σ w d w' x Q gh h hx e q => by
  cases d with
  | tuple ds =>
    have e : (if ds.length = n then wgs ds w else none) = some w' := e
    split at e
    · next hn =>
      obtain ⟨p, xs, rfl, k1, k2⟩ := dt_tuple hx gh
      exact ⟨p, xs, rfl, k1, by rw [dts_len k2]; exact hn, h2 G H σ w ds w' xs Q gh h k2 e q⟩
    · cases e
  | _ => cases e
def wipeW (w : Vw) : List Nat → Vw
  | [] => w
  | v :: vs => (wipeW w vs).set v none
theorem wipeW_len (w : Vw) : ∀ vs : List Nat, (wipeW w vs).length = w.length
  | [] => rfl
  | v :: vs => by unfold wipeW; rw [List.length_set, wipeW_len w vs]
theorem VR.wipe {σ : L2.St} {w : Vw} (h : VR K G σ w) : ∀ vs : List Nat, VR K G (_root_.L2.wipe σ vs) (wipeW w vs)
  | [] => h
  | v :: vs => ⟨by rw [wipe_length, wipeW_len]; exact h.1, fun i d e => by
    unfold wipeW at e
    unfold _root_.L2.wipe
    by_cases z : v = i
    · subst z
      by_cases hl : v < w.length
      · rw [List.getElem?_set_self (by rw [wipeW_len]; exact hl)] at e; cases e
      · rw [List.getElem?_eq_none (by rw [List.length_set, wipeW_len]; omega)] at e; cases e
    · rw [List.getElem?_set_ne z] at e ⊢
      exact (VR.wipe h vs).2 i d e⟩
def lcP (ws : List Nat) (a : WG) (c : FT) (e : FP) (w : Vw) : List PyData → Option (List PyData)
  | [] => some []
  | d :: ds => (a d (wipeW w ws)).bind fun w1 => (c w1).bind fun b => if b then (e w1).bind fun x => (lcP ws a c e w ds).map fun xs => x :: xs else lcP ws a c e w ds
def fLc (it : FI) (ws : List Nat) (a : WG) (c : FT) (e : FP) : FP := fun w => (it w).bind fun ds => if ds.length < 100000 then (lcP ws a c e w ds).map .list else none
theorem outs_eq {p : PyData → Bool} {h : PyData → PyData} (ds : List PyData) : outs ds.length (fun i => p (ds.getD i .none)) (fun i => h (ds.getD i .none)) = (ds.filter p).map h := by
  unfold outs
  have e : ds = (List.range ds.length).map fun i => ds.getD i .none := by
    apply List.ext_getElem?
    intro i
    rw [List.getElem?_map]
    by_cases hi : i < ds.length
    · rw [List.getElem?_range hi]; simp [hi]
    · rw [List.getElem?_eq_none (by omega), List.getElem?_eq_none (by simp; omega)]; rfl
  conv => rhs; rw [e, List.filter_map, List.map_map]
  rfl
theorem lcP_eq {a : WG} {c : FT} {e : FP} {w : Vw} : ∀ {ds rs : List PyData}, lcP ws a c e w ds = some rs → rs = (ds.filter fun d => (((a d (wipeW w ws)).bind c).getD false)).map (fun d => ((a d (wipeW w ws)).bind e).getD .none) ∧ ∀ d ∈ ds, ∃ w1, a d (wipeW w ws) = some w1 ∧ ∃ b, c w1 = some b ∧ (b = true → ∃ x, e w1 = some x)
  | [], _, h => by cases h; exact ⟨rfl, by simp⟩
  | d :: ds, rs, h => by
    obtain ⟨w1, h1, h⟩ := Option.bind_eq_some_iff.mp h
    obtain ⟨b, h2, h⟩ := Option.bind_eq_some_iff.mp h
    cases b with
    | true =>
      obtain ⟨x, h3, h⟩ := Option.bind_eq_some_iff.mp h
      obtain ⟨xs, h4, h⟩ := Option.map_eq_some_iff.mp h
      cases h
      obtain ⟨q1, q2⟩ := lcP_eq h4
      refine ⟨?_, fun d' m => ?_⟩
      · rw [List.filter_cons, h1]
        simp only [Option.bind_some, h2, Option.getD_some, if_true, List.map_cons, h1, h3]
        rw [← q1]
      · rcases List.mem_cons.mp m with rfl | m
        · exact ⟨w1, h1, true, h2, fun _ => ⟨x, h3⟩⟩
        · exact q2 d' m
    | false =>
      have h : lcP ws a c e w ds = some rs := h
      obtain ⟨q1, q2⟩ := lcP_eq h
      refine ⟨?_, fun d' m => ?_⟩
      · rw [List.filter_cons, h1]
        simp only [Option.bind_some, h2, Option.getD_some, Bool.false_eq_true, if_false]
        exact q1
      · rcases List.mem_cons.mp m with rfl | m
        · exact ⟨w1, h1, false, h2, fun z => nomatch z⟩
        · exact q2 d' m
variable {wi : TI} {it : FI} {tt : TT} {cc : FT}
theorem pp_lc (hi : PPI K wi it) (hg : PG' K ws tg wg) (hc : PPT K tt cc) (he : PP K te c) : PP K (tLc wi tg tt te ws) (fLc it ws wg cc c) := fun G σ w d h e => by
  obtain ⟨ds, e1, e2⟩ := Option.bind_eq_some_iff.mp e
  clear e
  split at e2
  · next hn =>
    obtain ⟨rs, e3, e4⟩ := Option.map_eq_some_iff.mp e2
    subst e4
    obtain ⟨q1, q2⟩ := lcP_eq e3
    rw [q1, ← outs_eq]
    have at_ : ∀ i, i < ds.length → ds.getD i .none ∈ ds := fun i hi => by
      rw [List.getD_eq_getElem?_getD, List.getElem?_eq_getElem hi]
      exact List.getElem_mem hi
    refine ed_lc2 (B := fun i G1 σ2 => Off ws (L2.wipe σ ws) σ2 ∧ ∀ w1, wg (ds.getD i .none) (wipeW w ws) = some w1 → VR K G1 σ2 w1) (hi G σ w ds h e1) hn (fun i G1 H x hi hs gh hx Q q => ?_) (fun i G1 σ2 hi b => off_wipe b.1) (fun i G1 σ2 hi s b => ?_) fun i G1 σ2 hi s b hp => ?_
    · obtain ⟨w1, k1, _⟩ := q2 _ (at_ i hi)
      exact hg G1 H _ (wipeW w ws) _ w1 x Q gh ((h.mono hs).wipe ws) hx k1 fun σ' o r => q σ' ⟨o, fun w2 e => by rw [k1] at e; cases e; exact r⟩
    · obtain ⟨w1, k1, bb, k2, _⟩ := q2 _ (at_ i hi)
      have := hc G1 σ2 w1 bb (b.2 w1 k1) k2
      rw [k1]
      simpa [k2] using this
    · obtain ⟨w1, k1, bb, k2, k3⟩ := q2 _ (at_ i hi)
      rw [k1] at hp
      simp only [Option.bind_some, k2, Option.getD_some] at hp
      obtain ⟨x, k4⟩ := k3 hp
      have := he G1 σ2 w1 x (b.2 w1 k1) k4
      rw [k1]
      simpa [k4] using this
  · cases e2
def cYes : FT := fun _ => some true
theorem pt_yes : PPT K tYes cYes := fun G σ w b h e => by cases e; exact et_yes
end
end S

namespace S
open PySem L2
section
variable {K : PySem.W.Frag} {E : L2.St → XK} {G G' H H' : Hp} {F : Addr → Prop} {σ : L2.St} {s : Sg} {vs : List V} {ts : List T} {W : List Nat} {te ta tb : TE} {m m1 m2 : ME} {tas : TA} {ms : MA}
/-! ### compounds: the parts never change again -/
def mOp (g : PyData → PyData → Option PyData) (m1 m2 : ME) : ME := fun s => (m1 s).bind fun t1 s => (m2 s).bind fun t2 s => R.of ((g t1.data t2.data).map .d) s
theorem se_Op {r : R2} {g : PyData → PyData → Option PyData} (hr : OpS K r g) (h1 : SE K E ta m1) (h2 : SE K E tb m2) : SE K E (tOp r ta tb) (mOp g m1 m2) := fun G H σ s vs ts F Q r0 p => by
  refine h1 G H σ s vs ts F _ r0 ?_
  unfold mOp at p
  cases e : m1 s with
  | bad => rw [e] at p; exact p
  | ex x s' => rw [e] at p; exact p
  | ok t s1 =>
    rw [e] at p
    intro v G1 H1 F1 g1 r1
    obtain ⟨G2, F2, g2, r2⟩ := r1.freeze
    refine h2 G2 H1 σ s1 _ _ F2 _ r2 ?_
    have p : PostE K E G H F σ vs ts Q ((m2 s1).bind fun t2 s => R.of ((g t.data t2.data).map .d) s) := p
    cases e2 : m2 s1 with
    | bad => rw [e2] at p; exact p
    | ex x s' =>
      rw [e2] at p
      intro G3 H3 F3 g3 r3
      obtain ⟨F4, r4, h4⟩ := r3.pop
      exact p G3 H3 F4 (((g1.trans g2).trans g3).less h4) r4
    | ok t2 s2 =>
      rw [e2] at p
      intro w G3 H3 F3 g3 r3
      obtain ⟨G4, F4, g4, r4⟩ := r3.freeze
      obtain ⟨hw, r5⟩ := r4.top
      obtain ⟨hv, r6⟩ := r5.top
      simp only [R.bind, R.of] at p
      cases z : g t.data t2.data with
      | none => rw [z] at p; exact p.elim
      | some d =>
        rw [z] at p
        refine hr _ _ d z v w G4 H3 r6.gh hv hw Q fun u G5 H5 x5 hu => ?_
        exact p u G5 H5 F4 ((((g1.trans g2).trans g3).trans g4).trans (.of x5)) ((r6.ext x5).push hu)
def mM1 (g : PyData → PyData → Option PyData) (m1 m2 : ME) : ME := fun s => (m1 s).bind fun t1 s => (match t1.data with
  | .str _ => (m2 s).bind fun t2 s => R.of ((g t1.data t2.data).map .d) s
  | _ => .bad)
theorem se_M1 {rr : V → List V → Hp → VK → Prop} {g : PyData → PyData → Option PyData} (hr : MdS K rr g) (h1 : SE K E ta m1) (h2 : SE K E tb m2) : SE K E (tM1 rr ta tb) (mM1 g m1 m2) := fun G H σ s vs ts F Q r0 p => by
  refine h1 G H σ s vs ts F _ r0 ?_
  unfold mM1 at p
  cases e : m1 s with
  | bad => rw [e] at p; exact p
  | ex x s' => rw [e] at p; exact p
  | ok t s1 =>
    rw [e] at p
    intro v G1 H1 F1 g1 r1
    obtain ⟨G2, F2, g2, r2⟩ := r1.freeze
    obtain ⟨hv0, _⟩ := r2.top
    have p : PostE K E G H F σ vs ts Q (match t.data with | .str _ => (m2 s1).bind fun t2 s => R.of ((g t.data t2.data).map .d) s | _ => .bad) := p
    split at p
    · next a ea =>
      rw [ea] at hv0
      refine ⟨⟨a, dt_str hv0⟩, h2 G2 H1 σ s1 _ _ F2 _ r2 ?_⟩
      cases e2 : m2 s1 with
      | bad => rw [e2] at p; exact p
      | ex x s' =>
        rw [e2] at p
        intro G3 H3 F3 g3 r3
        obtain ⟨F4, r4, h4⟩ := r3.pop
        exact p G3 H3 F4 (((g1.trans g2).trans g3).less h4) r4
      | ok t2 s2 =>
        rw [e2] at p
        intro w G3 H3 F3 g3 r3
        obtain ⟨G4, F4, g4, r4⟩ := r3.freeze
        obtain ⟨hw, r5⟩ := r4.top
        obtain ⟨hv, r6⟩ := r5.top
        simp only [R.bind, R.of] at p
        cases z : g t.data t2.data with
        | none => rw [z] at p; exact p.elim
        | some d =>
          rw [z] at p
          refine (hr _ _ d z).2 v [w] G4 H3 r6.gh hv (.cons hw .nil) Q fun u G5 H5 x5 hu => ?_
          exact p u G5 H5 F4 ((((g1.trans g2).trans g3).trans g4).trans (.of x5)) ((r6.ext x5).push hu)
    · exact p.elim
/-- arguments, each of which never changes again -/
theorem sar_data (ha : SAr K E tas ms) {Q : List V → Hp → Prop} (r : RS K G H σ s vs ts F) {β : Type} {k : List PyData → Sg → R β} {P : R β → Prop} (hp : P ((ms s).bind fun us s => match frzA us with | some ds => k ds s | none => .bad))
    (hbad : P .bad → False) (hex : ∀ x s', P (.ex x s') → ∀ G' H' F', Go F G H F' G' H' → RS K G' H' σ s' vs ts F' → EXc (E σ) x H')
    (q : ∀ ws ds s' G' H' F', P (k ds s') → Go F G H F' G' H' → RS K G' H' σ s' vs ts F' → DtAll K G' ws ds → Q ws H') : tas σ H Q := by
  refine ha G H σ s vs ts F _ r ?_
  cases e : ms s with
  | bad => rw [e] at hp; exact hbad hp
  | ex x s' => rw [e] at hp; exact hex x s' hp
  | ok us s' =>
    rw [e] at hp
    intro ws tv G' H' F' g aw r'
    simp only [R.bind] at hp
    cases z : frzA us with
    | none => rw [z] at hp; exact (hbad hp).elim
    | some ds =>
      rw [z] at hp
      obtain ⟨us', z3, z4⟩ := Option.map_eq_some_iff.mp z
      obtain ⟨rfl, rfl⟩ := tms_aw z3 aw
      subst z4
      obtain ⟨G2, F2, g2, r2, hs⟩ := r'.freezeA aw.len
      exact q _ _ s' G2 H' F2 hp (g.trans g2) r2 hs
/-- a built-in by its arguments' data -/
def mCb (g : List PyData → Option PyData) (ms : MA) : ME := fun s => (ms s).bind fun us s => match frzA us with
  | some ds => R.of ((g ds).map .d) s
  | none => .bad
theorem se_Cb {rr : List V → Hp → VK → Prop} {g : List PyData → Option PyData} (hr : CbS K rr g) (ha : SAr K E tas ms) : SE K E (tCB rr tas) (mCb g ms) := fun G H σ s vs ts F Q r0 p => by
  refine sar_data ha r0 (P := fun r => PostE K E G H F σ vs ts Q r) (k := fun ds s => R.of ((g ds).map T.d) s) p id (fun x s' q => q) fun ws ds s' G' H' F' p g' r' hs => ?_
  cases z : g ds with
  | none => rw [z] at p; exact p.elim
  | some d =>
    rw [z] at p
    exact hr ds d z ws G' H' r'.gh hs Q fun u G5 H5 x5 hu => p u G5 H5 F' (g'.trans (.of x5)) ((r'.ext x5).push hu)
/-- (a, b, ..) -/
def mTup (ms : MA) : ME := fun s => (ms s).bind fun us s => match frzA us with
  | some ds => if ds.length ≤ 1000 then .ok (.d (.tuple ds)) s else .bad
  | none => .bad
theorem se_Tup (ha : SAr K E tas ms) : SE K E (tTup tas) (mTup ms) := fun G H σ s vs ts F Q r0 p => by
  refine sar_data ha r0 (P := fun r => PostE K E G H F σ vs ts Q r) (k := fun ds s => if ds.length ≤ 1000 then R.ok (T.d (.tuple ds)) s else .bad) p id (fun x s' q => q) fun ws ds s' G' H' F' p g' r' hs => ?_
  by_cases hl : ds.length ≤ 1000
  · rw [if_pos hl] at p
    refine ⟨by rw [dts_len hs]; exact szn _ hl, fun a ha' => ?_⟩
    have x5 := Ext.new (M := []) (o := .tup ws) r'.gh ha'
    exact p _ _ _ F' (g'.trans (.of x5)) ((r'.ext x5).push (.tup (.inl upd_same) (same_dts (same_new (r'.gh.free ha')) hs)))
  · rw [if_neg hl] at p
    exact p.elim
/-- something new -/
theorem RS.newO {a : Addr} {o : HO} (r : RS K G H σ s vs ts F) (h : H a = none) (ho : isTupO o = false) : RS K G (upd H a o) σ s vs ts F ∧ Go F G H F G (upd H a o) ∧ G a = none ∧ ¬ F a := by
  have hG : G a = none := r.gh.free h
  have nF : ∀ b, F b → b ≠ a := fun b z y => by
    obtain ⟨o', q, _⟩ := r.trk z
    rw [y, h] at q
    cases q
  refine ⟨r.keep (Same.refl G) (fun b w q => ?_) (fun b z => upd_ne (nF b z)) (fun b z => ?_), ⟨Same.refl G, fun b w q _ => ?_, fun b w q => .inl q, fun b z => .inl z, fun b q => ?_, fun b w q t => ?_⟩, hG, fun z => nF a z rfl⟩
  · rw [upd_ne (ne_of_none q hG)]; exact r.gh b w q
  · obtain ⟨_, _, _, q⟩ := r.trk z; exact q
  · rw [upd_ne (ne_of_none q h)]; exact q
  · by_cases y : b = a
    · subst y; exact h
    · rw [upd_ne y] at q; exact q
  · by_cases y : b = a
    · subst y; rw [upd_same] at q; cases q; rw [ho] at t; cases t
    · rw [upd_ne y] at q; exact .inr q
theorem Go.plus {F1 F2 : Addr → Prop} {G1 H1 : Hp} (g : Go F G H F1 G1 H1) (h : ∀ a, F2 a → F1 a ∨ H a = none) : Go F G H F2 G1 H1 := ⟨g.gg, g.hh, g.nw, fun a z => (h a z).elim (g.nf a) .inr, g.dm, g.tp⟩
/-- temporaries go into a new object -/
theorem RS.pack {a : Addr} {o : HO} {t : T} {ws : List V} {us : List T} (r : RS K G H σ s (ws ++ vs) (us ++ ts) F) (hl : ws.length = us.length) (h : H a = none) (ho : isTupO o = false)
    (k : ∀ L, OwAll K G (upd H a o) ws us L → Ow K G (upd H a o) (.ref a) t (a :: L)) : ∃ F', Go F G H F' G (upd H a o) ∧ RS K G (upd H a o) σ s (.ref a :: vs) (t :: ts) F' := by
  obtain ⟨r1, g1, hG, hF⟩ := r.newO h ho
  obtain ⟨L1, L2, h1, h2, nd, hn, hf⟩ := r1.ex
  obtain ⟨La, Lb, k1, k2, rfl⟩ := h2.split hl
  have na : a ∉ L1 ++ (La ++ Lb) := fun m => hF ((hf a).mpr m)
  refine ⟨fun x => x ∈ L1 ++ ((a :: La) ++ Lb), g1.plus fun x m => ?_, r1.gh, L1, (a :: La) ++ Lb, h1, .cons (k La k1) k2, ?_, fun x m => ?_, fun x => .rfl⟩
  · by_cases e : x = a
    · exact .inr (e ▸ h)
    · exact .inl ((hf x).mpr (by simp [e] at m ⊢; exact m))
  · have p : (L1 ++ ((a :: La) ++ Lb)).Perm (a :: (L1 ++ (La ++ Lb))) := perm_of fun z => by simp only [List.count_append, List.count_cons]; omega
    rw [p.nodup_iff, List.nodup_cons]
    exact ⟨na, nd⟩
  · by_cases e : x = a
    · exact e ▸ hG
    · exact hn x (by simp [e] at m ⊢; exact m)
/-- [a, b, ..] -/
def mLst (ms : MA) : ME := fun s => (ms s).bind fun us s => match tmsOnly us with
  | some ts => if ts.length ≤ 1000 then .ok (.lst ts) s else .bad
  | none => .bad
theorem se_Lst (ha : SAr K E tas ms) : SE K E (tLst tas) (mLst ms) := fun G H σ s vs ts F Q r0 p => by
  refine ha G H σ s vs ts F _ r0 ?_
  unfold mLst at p
  cases e : ms s with
  | bad => rw [e] at p; exact p
  | ex x s' => rw [e] at p; exact p
  | ok us s' =>
    rw [e] at p
    intro ws tv G' H' F' g aw r'
    simp only [R.bind] at p
    cases z : tmsOnly us with
    | none => rw [z] at p; exact p.elim
    | some us' =>
      rw [z] at p
      obtain ⟨rfl, rfl⟩ := tms_aw z aw
      by_cases hl : (tmT us).length ≤ 1000
      · simp only [hl, if_true] at p
        refine ⟨by rw [aw.len]; exact szn _ hl, fun a ha' => ?_⟩
        obtain ⟨F2, g2, r2⟩ := r'.pack (a := a) (o := .lst _) (t := .lst (tmT us)) aw.len ha' rfl fun L h => .lst upd_same h
        exact p _ G' _ F2 (g.trans g2) r2
      · simp only [hl, if_false] at p
        exact p.elim
/-- a if c else b -/
def mIf (c : MT) (a b : ME) : ME := fun s => (c s).bind fun p s => if p then a s else b s
theorem se_If {tt : TT} {c : MT} (hc : ST K E tt c) (h1 : SE K E ta m1) (h2 : SE K E tb m2) : SE K E (tIf tt ta tb) (mIf c m1 m2) := fun G H σ s vs ts F Q r p => by
  refine hc G H σ s vs ts F _ r ?_
  unfold mIf at p
  cases e : c s with
  | bad => rw [e] at p; exact p
  | ex x s' => rw [e] at p; exact p
  | ok b s' =>
    rw [e] at p
    intro G' H' F' g r'
    cases b with
    | true => exact iteT (h1 G' H' σ s' vs ts F' Q r' (PostE.from g p))
    | false => exact iteF (h2 G' H' σ s' vs ts F' Q r' (PostE.from g p))
/-- truths -/
def mAnd (m1 m2 : ME) : ME := fun s => (m1 s).bind fun t s => match boolOf t.data with
  | some true => (m2 s).bind fun t s => (match boolOf t.data with
    | some b => .ok (.d (.bool b)) s
    | none => .bad)
  | some false => .ok (.d (.bool false)) s
  | none => .bad
/-- e op= value -/
def sAug (i : Nat) (g : PyData → PyData → Option PyData) (f : FP) : MS := fun s => match (view s)[i]? with
  | some (some x) => (match (f (view s)).bind fun y => g x y with
    | some d => if isImm d then .ok .nx (s.set i (some (.d d))) else .bad
    | none => .bad)
  | _ => .bad
theorem ss_Aug {i : Nat} {f : FP} {g : Int → Int → Int} (hf : PP K te f) (hw : i ∈ W) : SS' K E W (tAug i te (ipI g)) (sAug i (gI g) f) := fun G H σ s vs ts F D r p => by
  unfold sAug at p
  split at p
  · next x ex =>
    split at p
    · next d ed =>
      split at p
      · next hi =>
        obtain ⟨y, e1, e2⟩ := Option.bind_eq_some_iff.mp ed
        obtain ⟨v, e3, hv⟩ := r.view.2 i x ex
        have key : ∃ a b, x = .int a ∧ y = .int b ∧ d = .int (g a b) := by
          unfold gI at e2
          split at e2
          · cases e2; exact ⟨_, _, rfl, rfl, rfl⟩
          · cases e2
        obtain ⟨a, b, rfl, rfl, rfl⟩ := key
        refine ⟨v, e3, r.pure hf e1 fun w G' H' G2 g' r' _ _ hw' => ⟨a, b, dt_int hv, dt_int hw', ?_⟩⟩
        have hl : i < s.length := by
          have := (List.getElem?_eq_some_iff.mp ex).1
          simpa [S.view] using this
        obtain ⟨F2, r2, hf2⟩ := (r'.push (.int (g a b))).asg hl
        exact p _ G' H' F2 (g'.less hf2) (off_set hw) r2
      · exact p.elim
    · exact p.elim
  · exact p.elim
/-- targets: what is told never changes again -/
def sAsg (m : ME) (a : MG) : MS := fun s => (m s).bind fun t s => match a t.data s with
  | some s' => .ok .nx s'
  | none => .bad
theorem ss_Asg {g : TG} {a : MG} (h : SE K E te m) (hg : GT K W g a) : SS' K E W (tAsg te g) (sAsg m a) := fun G H σ s vs ts F D r p => by
  refine h G H σ s vs ts F _ r ?_
  unfold sAsg at p
  cases e : m s with
  | bad => rw [e] at p; exact p
  | ex x s' => rw [e] at p; exact fun G' H' F' g r' => p σ G' H' F' g .refl r'
  | ok t s' =>
    rw [e] at p
    intro v G' H' F' g' r'
    obtain ⟨G2, F2, g2, r2⟩ := r'.freeze
    obtain ⟨hd, r3⟩ := r2.top
    simp only [R.bind] at p
    cases z : a t.data s' with
    | none => rw [z] at p; exact p.elim
    | some s2 =>
      rw [z] at p
      exact hg G2 H' σ s' vs ts F2 v _ s2 _ r3 hd z fun σ' F3 o r4 hf => p σ' G2 H' F3 ((g'.trans g2).less hf) o r4
/-- a, b = (e, f) -/
def sPar (i j : Nat) (ms : MA) : MS := fun s => (ms s).bind fun us s => match tmsOnly us with
  | some [x, y] => if i < s.length ∧ j < s.length ∧ i ≠ j then .ok .nx ((s.set i (some x)).set j (some y)) else .bad
  | _ => .bad
theorem ss_Par {i j : Nat} (ha : SAr K E tas ms) (hi : i ∈ W) (hj : j ∈ W) : SS' K E W (tPar i j tas) (sPar i j ms) := fun G H σ s vs ts F D r0 p => by
  refine ha G H σ s vs ts F _ r0 ?_
  unfold sPar at p
  cases e : ms s with
  | bad => rw [e] at p; exact p
  | ex x s' => rw [e] at p; exact fun G' H' F' g r' => p σ G' H' F' g .refl r'
  | ok us s' =>
    rw [e] at p
    intro ws tv G' H' F' g aw r'
    simp only [R.bind] at p
    split at p
    · next x y z =>
      obtain ⟨rfl, e2⟩ := tms_aw z aw
      rw [e2] at r'
      have hl := aw.len
      rw [e2] at hl
      split at p
      · next hij =>
        match tv, hl, r', aw with
        | [v, w], _, r', aw =>
          refine ⟨v, w, rfl, ?_⟩
          obtain ⟨F2, r2, h2⟩ := RS.asg (i := i) r' hij.1
          obtain ⟨F3, r3, h3⟩ := RS.asg (i := j) r2 (by simpa using hij.2.1)
          exact p _ G' H' F3 ((g.less h2).less h3) ((off_set hi).trans (off_set hj)) r3
      · exact p.elim
    · exact p.elim
end
end S

namespace S
open PySem L2
section
variable {K : PySem.W.Frag} {E : L2.St → XK} {G G' H H' : Hp} {F : Addr → Prop} {σ : L2.St} {s : Sg} {vs : List V} {ts : List T} {W : List Nat} {te ta tb : TE} {m0 : ME} {tas : TA} {ms : MA} {C : Addr} {m : Str} {mf : MF} {n : Nat}
/-! ### methods -/
def isC (C : Addr) (m : Str) (t : T) : Bool := match clsT t with
  | some (C', ns) => decide (C' = C) && !ns.contains m
  | none => false
theorem isC_at {v : V} {t : T} {L : List Addr} (h : Ow K G H v t L) (gh : Same G H) (e : isC C m t = true) : ∃ a dx fs, v = .ref a ∧ H a = some (.ins C dx fs) ∧ fs.lookup m = none := by
  unfold isC at e
  split at e
  · next C' ns ec =>
    simp only [Bool.and_eq_true, decide_eq_true_eq, Bool.not_eq_true'] at e
    obtain ⟨rfl, e⟩ := e
    exact ow_cls h gh ec e
  · cases e
/-- x.m(..), x a name: it is lent -/
def mMethB (C : Addr) (m : Str) (mf : MF) (i : Nat) (ms : MA) : ME := fun s => match s[i]? with
  | some (some t) => if isC C m t then mCall mf (aBr i ms) s else .bad
  | _ => .bad
theorem se_MethB {i : Nat} (ha : SAr K E tas ms) (hn : LenA ms n) : SE K E (tMethS C m (FnM K (n + 1) mf) E (tVar i) tas) (mMethB C m mf i ms) := fun G H σ s vs ts F Q r p => by
  unfold mMethB at p
  split at p
  · next t hi =>
    split at p
    · next hc =>
      obtain ⟨v, q, _⟩ := r.take hi
      obtain ⟨L1, L2, h1, _⟩ := r.ex
      obtain ⟨v', F1, F2, ev, o, _⟩ := h1.at hi
      rw [q] at ev
      cases ev
      obtain ⟨a, dx, fs, e1, e2, e3⟩ := isC_at o r.gh hc
      have z := se_Call (mf := mf) (sa_Br (i := i) ha) (len_Br hn) G H σ s vs ts F Q r p
      obtain ⟨w, ew, z⟩ := z
      rw [q] at ew
      cases ew
      exact ⟨v, q, a, dx, fs, e1, e2, e3, z⟩
    · exact p.elim
  · exact p.elim
/-- e.m(..) -/
def mMethV (C : Addr) (m : Str) (mf : MF) (m0 : ME) (ms : MA) : ME := fun s => (m0 s).bind fun t s => if isC C m t then (ms s).bind fun us s => (match ldA (.tm t :: us) s with
  | none => .bad
  | some p => match mf p.1 with
    | .ok t as => .ok t (gbA (.tm t :: us) as p.2)
    | .ex x as => .ex x (gbA (.tm t :: us) as p.2)
    | .bad => .bad) else .bad
theorem gbA_tm {t t' : T} {us : List AR} {as s : Sg} : gbA (.tm t :: us) as s = gbA (.tm t' :: us) as s := by
  cases as with
  | nil => rfl
  | cons a as => rfl
theorem se_MethV (h0 : SE K E te m0) (ha : SAr K E tas ms) (hn : LenA ms n) : SE K E (tMethS C m (FnM K (n + 1) mf) E te tas) (mMethV C m mf m0 ms) := fun G H σ s vs ts F Q r p => by
  refine h0 G H σ s vs ts F _ r ?_
  unfold mMethV at p
  cases e : m0 s with
  | bad => rw [e] at p; exact p
  | ex x s' => rw [e] at p; exact p
  | ok t s' =>
    rw [e] at p
    intro v G1 H1 F1 g1 r1
    simp only [R.bind] at p
    split at p
    · next hc =>
      obtain ⟨L1, L2, h1, h2, _⟩ := r1.ex
      cases h2 with
      | @cons _ _ _ _ La Lb o hs =>
      obtain ⟨a, dx, fs, e1, e2, e3⟩ := isC_at o r1.gh hc
      refine ⟨a, dx, fs, e1, e2, e3, ha G1 H1 σ s' (v :: vs) (t :: ts) F1 _ r1 ?_⟩
      cases e4 : ms s' with
      | bad => rw [e4] at p; exact p
      | ex x s2 =>
        rw [e4] at p
        intro G2 H2 F2 g2 r2
        obtain ⟨F3, r3, h3⟩ := r2.pop
        exact p G2 H2 F3 ((g1.trans g2).less h3) r3
      | ok us s2 =>
        rw [e4] at p
        intro ws tv G2 H2 F2 g2 aw r2
        simp only [] at p
        cases z : ldA (.tm t :: us) s2 with
        | none => rw [z] at p; exact p.elim
        | some q =>
          rw [z] at p
          have r3 : RS K G2 H2 σ s2 ((v :: tv) ++ vs) (tmT (.tm t :: us) ++ ts) F2 := r2.rot aw.len
          refine call_M (us := .tm t :: us) (.tm aw) z ?_ r3 (g1.trans g2) ?_
          · rw [List.length_cons, aw.len2, hn _ _ _ e4]
          · have e5 : ∀ (t' : T) (as : Sg), gbA (.tm t' :: us) as q.2 = gbA (.tm t :: us) as q.2 := fun t' as => gbA_tm
            simp only [e5] at p
            exact p
    · exact p.elim
/-- C.m(..) -/
theorem se_CFun {D : Addr} (ha : SAr K E tas ms) (hn : LenA ms n) : SE K E (tCFunS D (FnM K n mf) E (tC (.ref D)) tas) (mCall mf ms) := fun G H σ s vs ts F Q r p => ⟨rfl, se_Call ha hn G H σ s vs ts F Q r p⟩
/-! ### C(..) -/
def mNew (C : Addr) (mf : MF) (ms : MA) : ME := fun s => (ms s).bind fun us s => match ldA us s with
  | none => .bad
  | some p => match mf (.obj C [] :: p.1) with
    | .ok (.d .none) (some o :: as) => .ok o (gbA us as p.2)
    | .ex x (_ :: as) => .ex x (gbA us as p.2)
    | _ => .bad
theorem se_New (ha : SAr K E tas ms) (hn : LenA ms n) : SE K E (tMakeS C (FnM K (n + 1) mf) E tas) (mNew C mf ms) := fun G H σ s vs ts F Q r p => by
  refine ha G H σ s vs ts F _ r ?_
  unfold mNew at p
  cases e : ms s with
  | bad => rw [e] at p; exact p
  | ex x s' => rw [e] at p; exact p
  | ok us s' =>
    rw [e] at p
    intro ws tv G1 H1 F1 g1 aw r1 x dx hx hdx ne
    simp only [R.bind] at p
    cases z : ldA us s' with
    | none => rw [z] at p; exact p.elim
    | some q =>
      rw [z] at p
      simp only [] at p
      obtain ⟨r2, hl⟩ := r1.load z aw
      -- the new instance and its dict
      obtain ⟨r3, g3, _, _⟩ := r2.newO (o := .own x) hdx rfl
      have hx' : upd H1 dx (.own x) x = none := by rw [upd_ne ne.symm]; exact hx
      obtain ⟨F4, g4, r4⟩ := RS.pack (ws := []) (us := []) (a := x) (o := .ins C dx []) (t := .obj C []) r3 rfl hx' rfl fun L h => by
        cases h
        exact .obj upd_same .nil
      have g04 : Go F1 G1 H1 F4 G1 (upd (upd H1 dx (.own x)) x (.ins C dx [])) := g3.trans g4
      obtain ⟨Fa, Fr, ra, rr, hFa, hFr⟩ := RS.part (ws := .ref x :: ws) (as := .obj C [] :: q.1) r4 (by simp [hl])
      refine ⟨by rw [List.length_cons, aw.len2, hn _ _ _ e], G1, .obj C [] :: q.1, Fa, ra, ?_⟩
      have sub : ∀ {F' : Addr → Prop} {G' H' : Hp}, Go Fa G1 (upd (upd H1 dx (.own x)) x (.ins C dx [])) F' G' H' → ∀ {F2 : Addr → Prop}, (∀ a, F2 a → Fr a ∨ F' a) → Go F G H F2 G' H' := fun {F' G' H'} gg {F2} h => by
        have w := gg.wider hFa
        have w2 : Go F4 G1 _ F2 G' H' := ⟨w.gg, w.hh, w.nw, fun a z => (h a z).elim (fun y => .inl (hFr a y).1) (w.nf a), w.dm, w.tp⟩
        exact (g1.trans g04).trans w2
      have dj0 : ∀ a, Fr a → ¬ Fa a := fun a y => (hFr a y).2
      cases zf : mf (.obj C [] :: q.1) with
      | bad => rw [zf] at p; exact p
      | ex y as =>
        rw [zf] at p
        cases as with
        | nil => exact p.elim
        | cons o as =>
          have p : PostE K E G H F σ vs ts Q (.ex y (gbA us as q.2)) := p
          intro G' H' F' g5 r5
          obtain ⟨L1, L2, h1, h2, nd, hg, hf⟩ := r5.ex
          cases h2
          obtain ⟨r6, dj⟩ := rr.stays g5 r5.gh dj0
          rw [List.append_nil] at nd hg hf
          cases h1 with
          | no hs =>
            obtain ⟨F7, r7, h7⟩ := RS.back aw hs r6 nd fun a m => ⟨dj a ((hf a).mpr m), hg a m⟩
            exact p G' H' F7 (sub g5 fun a y => (h7 a y).imp id fun m => (hf a).mpr m) r7
          | @yes _ _ _ _ La Lb ho hs =>
            rw [List.nodup_append] at nd
            obtain ⟨F7, r7, h7⟩ := RS.back aw hs r6 nd.2.1 fun a m => ⟨dj a ((hf a).mpr (by simp [m])), hg a (by simp [m])⟩
            exact p G' H' F7 (sub g5 fun a y => (h7 a y).imp id fun m => (hf a).mpr (by simp [m])) r7
      | ok t as =>
        rw [zf] at p
        split at p
        · next o as' eo =>
          cases eo
          intro v G' H' F' g5 r5
          obtain ⟨L1, L2, h1, h2, nd, hg, hf⟩ := r5.ex
          obtain ⟨r6, dj⟩ := rr.stays g5 r5.gh dj0
          cases h2 with
          | @cons _ _ _ _ Fx Fy ho' hs' =>
          cases hs'
          cases ho' with
          | d hv =>
          rw [List.append_nil, List.append_nil] at nd hg hf
          cases h1 with
          | @yes _ _ _ _ La Lb ho hs =>
          rw [List.nodup_append] at nd
          obtain ⟨F7, r7, h7⟩ := RS.back aw hs r6 nd.2.1 fun a m => ⟨dj a ((hf a).mpr (by simp [m])), hg a (by simp [m])⟩
          have r8 := r7.pushO ho nd.1 (fun a m y => (h7 a y).elim (fun y => dj a ((hf a).mpr (by simp [m])) y) fun y => nd.2.2 a m a y rfl) fun a m => hg a (by simp [m])
          exact ⟨dt_none hv, p _ G' H' _ (sub g5 fun a y => y.elim (fun y => (h7 a y).imp id fun m => (hf a).mpr (by simp [m])) fun m => .inr ((hf a).mpr (by simp [m]))) r8⟩
        · next eo => cases eo
        · exact p.elim
/-! ### raise, try -/
def sRaise (C : Addr) : MS := fun s => .ex (dExc C) s
theorem ss_Raise {Wx : WX} : SS' K (WE Wx) W (fun _ σ H => Wx (.ref C) none σ H) (sRaise C) := fun G H σ s vs ts F D r p => by
  obtain ⟨C', e, h⟩ := p σ G H F .refl .refl r
  have e : dExc C = dExc C' := e
  simp only [PyData.dict.injEq, List.cons.injEq, Prod.mk.injEq, true_and, PyData.int.injEq, and_true] at e
  have := Int.ofNat.inj e
  subst this
  exact h
theorem ss_RaiseE {Ex : XK} : SS' K (fun _ => Ex) W (fun _ σ H => Ex (.ref C) none H) (sRaise C) := ss_Raise (Wx := fun c d _ H => Ex c d H)
def sDead : MS := fun _ => .bad
theorem ss_Dead : SS' K E W (fun _ _ _ => False) sDead := fun G H σ s vs ts F D r p => p
/-- try: .. except X as n: kept = n -/
def sTryKeep (tab : List (Addr × Bool)) (i k : Nat) (b : MS) : MS := fun s => match b s with
  | .ex x s1 => (match (excD x).bind fun C => valG tab C with
    | some true => if i < s1.length ∧ k < s1.length ∧ i ≠ k then .ok .nx ((s1.set i none).set k (some (.d x))) else .bad
    | some false => .ex x s1
    | none => .bad)
  | r => r
theorem ss_TryKeep {c : Value} {tab : List (Addr × Bool)} {i k : Nat} {b : MS} {tbd : WX → TS} {Wout : WX} (ht : ∀ p ∈ tab, PySem.W.exmOne K (.ref p.1) c = some p.2) (hi : i ∈ W) (hk : k ∈ W) (hb : ∀ Wx : WX, SS' K (WE Wx) W (tbd Wx) b) :
    SS' K (WE Wout) W (fun D σ H => tbd (wKeep K c i (fun _ _ _ => tAsg (tVar i) (gName k)) Wout D) D σ H) (sTryKeep tab i k b) := fun G H σ s vs ts F D r p => by
  refine hb _ G H σ s vs ts F D r ?_
  unfold sTryKeep at p
  cases e : b s with
  | bad => rw [e] at p; exact p
  | ok f s1 => rw [e] at p; cases f <;> exact p
  | ex x s1 =>
    rw [e] at p
    intro σ1 G1 H1 F1 g1 o1 r1
    simp only [] at p
    cases z : (excD x).bind fun C => valG tab C with
    | none => rw [z] at p; exact p.elim
    | some bb =>
      obtain ⟨C, z1, z2⟩ := Option.bind_eq_some_iff.mp z
      have hx := excD_eq z1
      refine ⟨C, hx, bb, ht _ (valG_mem z2), fun eb => ?_, fun eb => ?_⟩
      · subst eb
        rw [z] at p
        simp only [] at p
        split at p
        · next hl =>
          refine ⟨C, rfl, rfl, fun a ha => ?_⟩
          have hls := r1.lenS
          refine ⟨.ref a, List.getElem?_set_self (by omega), ?_⟩
          have x5 := Ext.new (M := []) (o := .ext (excφ a C)) r1.gh ha
          have r2 := (r1.ext x5).push (v := .ref a) (x := x) (by rw [hx]; exact .exc upd_same)
          obtain ⟨F3, r3, h3⟩ := RS.wipe (i := i) r2 (some (.ref a))
          obtain ⟨F4, r4, h4⟩ := r3.asg (i := k) (by simpa using hl.2.1)
          have r5 : RS K _ _ (((σ1.set i (some (.ref a))).set k (some (.ref a))).set i none) ((s1.set i none).set k (some (.d x))) vs ts F4 := r4.agree (by simp) fun j hj => by
            by_cases e : i = j
            · subst e
              refine absurd ?_ hj
              rw [List.getElem?_set_ne (fun z => hl.2.2 z.symm), List.getElem?_set_self hl.1]
            · rw [List.getElem?_set_ne e]
          exact p _ _ _ F4 (((g1.trans (.of x5)).less h3).less h4) (((o1.trans (off_set hi)).trans (off_set hk)).trans (off_set hi)) r5
        · exact p.elim
      · subst eb
        rw [z] at p
        obtain ⟨C', e1, e2⟩ := p σ1 G1 H1 F1 g1 o1 r1
        rw [hx] at e1
        simp only [PyData.dict.injEq, List.cons.injEq, Prod.mk.injEq, true_and, PyData.int.injEq, and_true] at e1
        have := Int.ofNat.inj e1
        subst this
        exact e2
end
end S

namespace S
open PySem L2
section
variable {K : PySem.W.Frag} {E : L2.St → XK} {G G' H H' : Hp} {F : Addr → Prop} {σ : L2.St} {s : Sg} {vs : List V} {ts : List T} {W : List Nat} {te ta tb : TE} {m : ME} {tas : TA} {ms : MA}
/-! ### new lists of what is known -/
def EN (K : PySem.W.Frag) (G : Hp) (te : TE) (σ : L2.St) (ds : List PyData) : Prop := ∀ G1 H, Same G G1 → Same G1 H → ∀ Q : VK, (∀ l xs G2 H2, Ext [] G1 H G2 H2 → H2 l = none → DtAll K G2 xs ds → Q (.ref l) (upd H2 l (.lst xs))) → te σ H Q
abbrev FN := Vw → Option (List PyData)
def PN (K : PySem.W.Frag) (te : TE) (f : FN) : Prop := ∀ G σ w ds, VR K G σ w → f w = some ds → EN K G te σ ds
theorem imm_app {ds es : List PyData} : isImmL ds = true → isImmL es = true → isImmL (ds ++ es) = true := by
  induction ds with
  | nil => exact fun _ h => h
  | cons d ds ih =>
    intro h h'
    unfold isImmL at h
    rw [Bool.and_eq_true] at h
    show isImmL (d :: (ds ++ es)) = true
    unfold isImmL
    rw [Bool.and_eq_true]
    exact ⟨h.1, ih h.2 h'⟩
def mN (f : FN) : ME := fun s => match f (viewF s) with
  | some ds => .ok (.lst (ds.map .d)) s
  | none => match f (view s) with
    | some ds => if isImmL ds then .ok (.lst (ds.map .d)) s else .bad
    | none => .bad
theorem se_N {f : FN} (h : PN K te f) : SE K E te (mN f) := fun G H σ s vs ts F Q r p => by
  unfold mN at p
  cases e : f (viewF s) with
  | some ds =>
    rw [e] at p
    refine h G σ (viewF s) ds r.viewF e G H (Same.refl G) r.gh Q fun l xs G2 H2 x hl hxs => ?_
    have r2 := r.ext x
    obtain ⟨F', g', r'⟩ := RS.pack (ws := []) (us := []) (a := l) (o := .lst xs) (t := .lst (ds.map .d)) r2 rfl hl rfl fun L hL => by
      cases hL
      exact .lst upd_same (owall_d hxs)
    exact p _ G2 _ F' ((Go.of x).trans g') r'
  | none =>
    rw [e] at p
    cases e2 : f (view s) with
    | none => rw [e2] at p; exact p.elim
    | some ds =>
      rw [e2] at p
      by_cases hi : isImmL ds = true
      · simp only [hi, if_true] at p
        refine h H σ (view s) ds r.view e2 H H (Same.refl H) (Same.refl H) Q fun l xs G2 H2 x hl hxs => ?_
        obtain ⟨g, r2⟩ := r.fill x
        have hxs' := imm_dts x.gh (r.gh.trans (x.gg.trans x.gh)) hxs hi
        obtain ⟨F', g', r'⟩ := RS.pack (ws := []) (us := []) (a := l) (o := .lst xs) (t := .lst (ds.map .d)) r2 rfl hl rfl fun L hL => by
          cases hL
          exact .lst upd_same (owall_d hxs')
        exact p _ _ _ F' (g.trans g') r'
      · simp only [hi] at p
        exact p.elim
/-- .. seen as data -/
def fN (f : FN) : FP := fun w => (f w).map .list
theorem pp_N {f : FN} (h : PN K te f) : PP K te (fN f) := fun G σ w d hv e => by
  obtain ⟨ds, e1, e2⟩ := Option.map_eq_some_iff.mp e
  subst e2
  exact fun G1 H a gh Q q => h G σ w ds hv e1 G1 H a gh Q fun l xs G2 H2 x hl hxs => q _ _ _ (x.same (Ext.new x.gh hl)) (.lst upd_same (same_dts (same_new (x.gh.free hl)) hxs))
/-- list(x), x a list or a tuple -/
def nListC (a : FP) : FN := fun w => (a w).bind fun x => match x with
  | .list ds => some ds
  | .tuple ds => some ds
  | _ => none
variable {a b : FP}
theorem pn_listC (ha : PP K ta a) : PN K (tCB (fun xs H Q => ∃ p ys, xs = [.ref p] ∧ (SqL K H p ys ∨ SqT K H p ys) ∧ ∀ l, H l = none → Q (.ref l) (upd H l (.lst ys))) (tCons ta tNil)) (nListC a) := fun G σ w ds h e => by
  obtain ⟨x, e1, e2⟩ := Option.bind_eq_some_iff.mp e
  clear e
  exact fun G1 H a' gh Q q => ha G σ w x h e1 G1 H a' gh _ fun v G2 H2 x2 hv => by
    cases x with
    | list l =>
      cases e2
      obtain ⟨p, ys, rfl, h1, h2⟩ := dt_list hv x2.gh
      exact ⟨p, ys, rfl, .inl h1, fun l hl => q l ys G2 H2 x2 hl h2⟩
    | tuple l =>
      cases e2
      obtain ⟨p, ys, rfl, h1, h2⟩ := dt_tuple hv x2.gh
      exact ⟨p, ys, rfl, .inr h1, fun l hl => q l ys G2 H2 x2 hl h2⟩
    | _ => cases e2
/-- list(x), x a text -/
def nListT (a : FP) : FN := fun w => (a w).bind fun x => match x with
  | .str z => if z.cps.toList.length ≤ 10000 then some (signs z) else none
  | _ => none
theorem signs_dts (z : Str) : DtAll K G ((z.cps.toList).map fun c => .str (sg c)) (signs z) := by
  unfold signs
  induction z.cps.toList with
  | nil => exact .nil
  | cons c l ih => exact .cons (.str _) ih
theorem pn_listT (ha : PP K ta a) : PN K (tCB (fun xs H Q => ∃ z : List Nat, xs = [.str (mkS z)] ∧ z.length ≤ 10000 ∧ ∀ l, H l = none → Q (.ref l) (upd H l (.lst (z.map fun c => .str (sg c))))) (tCons ta tNil)) (nListT a) := fun G σ w ds h e => by
  obtain ⟨x, e1, e2⟩ := Option.bind_eq_some_iff.mp e
  clear e
  exact fun G1 H a' gh Q q => ha G σ w x h e1 G1 H a' gh _ fun v G2 H2 x2 hv => by
    cases x with
    | str z =>
      have e2 : (if z.cps.toList.length ≤ 10000 then some (signs z) else none) = some ds := e2
      split at e2
      · next hz =>
        cases e2
        refine ⟨z.cps.toList, by rw [mkS_cps, dt_str hv], hz, fun l hl => q l _ G2 H2 x2 hl (signs_dts z)⟩
      · cases e2
    | _ => cases e2
/-- x[lo:hi], x a list -/
def nSlL (a : FP) (lo hi : FO) : FN := fun w => (a w).bind fun x => (lo w).bind fun l => (hi w).bind fun h => match x with | .list ds => some (cutD ds l h) | _ => none
variable {to tp : TO} {lo hi : FO}
theorem pn_slL (ha : PP K ta a) (hl : PPO K to lo) (hh : PPO K tp hi) : PN K (tSl (rSlL K) ta to tp) (nSlL a lo hi) := fun G σ w ds h e => by
  obtain ⟨x, e1, e⟩ := Option.bind_eq_some_iff.mp e
  obtain ⟨l, e2, e⟩ := Option.bind_eq_some_iff.mp e
  obtain ⟨u, e3, e4⟩ := Option.bind_eq_some_iff.mp e
  clear e
  cases x with
  | list l' =>
    cases e4
    exact fun G1 H a' gh Q q => ha G σ w _ h e1 G1 H a' gh _ fun x G2 H2 x2 hx => hl G σ w _ h e2 G2 H2 (a'.trans x2.gg) x2.gh _ fun G3 H3 x3 => hh G σ w _ h e3 G3 H3 ((a'.trans x2.gg).trans x3.gg) x3.gh _ fun G4 H4 x4 => by
      obtain ⟨p, xs, rfl, hq, hs⟩ := dt_list (same_dt (x3.gg.trans x4.gg) hx) x4.gh
      exact ⟨p, xs, rfl, hq, fun l hl => q l _ G4 H4 ((x2.same x3).same x4) hl (dts_cut hs)⟩
  | _ => cases e4
/-- x + y, lists -/
def nCat (a b : FP) : FN := fun w => (a w).bind fun x => (b w).bind fun y => match x, y with
  | .list ds, .list es => if ds.length + es.length ≤ 16777216 ∧ intHead ds = false ∧ intHead es = false then some (ds ++ es) else none
  | _, _ => none
theorem pn_cat (ha : PP K ta a) (hb : PP K tb b) : PN K (tOp rCat ta tb) (nCat a b) := fun G σ w ds h e => by
  obtain ⟨x, e1, e⟩ := Option.bind_eq_some_iff.mp e
  obtain ⟨y, e2, e4⟩ := Option.bind_eq_some_iff.mp e
  clear e
  exact fun G1 H a' gh Q q => ha G σ w x h e1 G1 H a' gh _ fun v G2 H2 x2 hv => hb G σ w y h e2 G2 H2 (a'.trans x2.gg) x2.gh _ fun u G3 H3 x3 hu => by
    split at e4
    · split at e4
      · next hz =>
        cases e4
        obtain ⟨p, xs, rfl, h1, h2⟩ := dt_lst (same_dt x3.gg hv) x3.gh hz.2.1
        obtain ⟨p', ys, rfl, h3, h4⟩ := dt_lst hu x3.gh hz.2.2
        exact ⟨_, _, _, _, rfl, rfl, h1, h3, by rw [dts_len h2, dts_len h4]; exact Nat.le_trans hz.1 sizeLine_ge, fun l hl => q l _ G3 H3 (x2.same x3) hl (dts_app h2 h4)⟩
      · cases e4
    · cases e4
/-- x * n -/
def nRep (a b : FP) : FN := fun w => (a w).bind fun x => (b w).bind fun y => match x, y with
  | .list ds, .int n => if 0 ≤ n ∧ n ≤ 1000 ∧ ds.length ≤ 1000 ∧ intHead ds = false then some (List.replicate n.toNat ds).flatten else none
  | _, _ => none
theorem pn_rep (ha : PP K ta a) (hb : PP K tb b) : PN K (tOp rRep ta tb) (nRep a b) := fun G σ w ds h e => by
  obtain ⟨x, e1, e⟩ := Option.bind_eq_some_iff.mp e
  obtain ⟨y, e2, e4⟩ := Option.bind_eq_some_iff.mp e
  clear e
  exact fun G1 H a' gh Q q => ha G σ w x h e1 G1 H a' gh _ fun v G2 H2 x2 hv => hb G σ w y h e2 G2 H2 (a'.trans x2.gg) x2.gh _ fun u G3 H3 x3 hu => by
    split at e4
    · next ds' n =>
      split at e4
      · next hz =>
        cases e4
        obtain ⟨p, xs, rfl, h1, h2⟩ := dt_lst (same_dt x3.gg hv) x3.gh hz.2.2.2
        refine ⟨_, n, _, rfl, dt_int hu, h1, by omega, by omega, ?_, fun l hl => q l _ G3 H3 (x2.same x3) hl (dts_rep h2 _)⟩
        rw [dts_len h2]
        have q1 : ds'.length * n.toNat ≤ 1000 * 1000 := Nat.mul_le_mul hz.2.2.1 (by omega)
        exact Nat.le_trans q1 (by decide)
      · cases e4
    · cases e4
/-- x + y, both owned -/
def mCatO (m1 m2 : ME) : ME := fun s => (m1 s).bind fun t1 s => (m2 s).bind fun t2 s => match t1, t2 with
  | .lst as, .lst bs => if as.length + bs.length ≤ 16777216 then .ok (.lst (as ++ bs)) s else .bad
  | _, _ => .bad
theorem se_CatO {m1 m2 : ME} (h1 : SE K E ta m1) (h2 : SE K E tb m2) : SE K E (tOp rCat ta tb) (mCatO m1 m2) := fun G H σ s vs ts F Q r0 p => by
  refine h1 G H σ s vs ts F _ r0 ?_
  unfold mCatO at p
  cases e : m1 s with
  | bad => rw [e] at p; exact p
  | ex x s' => rw [e] at p; exact p
  | ok t s1 =>
    rw [e] at p
    intro v G1 H1 F1 g1 r1
    refine h2 G1 H1 σ s1 _ _ F1 _ r1 ?_
    simp only [R.bind] at p
    cases e2 : m2 s1 with
    | bad => rw [e2] at p; exact p
    | ex x s' =>
      rw [e2] at p
      intro G3 H3 F3 g3 r3
      obtain ⟨F4, r4, h4⟩ := r3.pop
      exact p G3 H3 F4 ((g1.trans g3).less h4) r4
    | ok t2 s2 =>
      rw [e2] at p
      intro w G3 H3 F3 g3 r3
      simp only [] at p
      split at p
      · next as bs =>
        split at p
        · next hz =>
          have r4 := r3.swap
          obtain ⟨L1, L2, k1, k2, nd, hn, hf⟩ := r4.ex
          cases k2 with
          | @cons _ _ _ _ La Lb oa ob =>
          cases oa with
          | @lst a xs _ Lx ha hxs =>
          cases ob with
          | @cons _ _ _ _ Lc Ld oc od =>
          cases oc with
          | @lst b ys _ Ly hb hys =>
          refine ⟨a, b, xs, ys, rfl, rfl, ha, hb, by rw [hxs.len, hys.len]; exact Nat.le_trans hz sizeLine_ge, fun q hq => ?_⟩
          -- the items alone stay owned
          have r5 : RS K G3 H3 σ s2 ((xs ++ ys) ++ vs) ((as ++ bs) ++ ts) (fun z => z ∈ L1 ++ ((Lx ++ Ly) ++ Ld)) := by
            have sub : SubP (L1 ++ ((Lx ++ Ly) ++ Ld)) (L1 ++ (a :: Lx ++ (b :: Ly ++ Ld))) := ⟨[a, b], perm_of fun z => by simp only [List.count_append, List.count_cons, List.count_nil]; omega⟩
            exact ⟨r4.gh, L1, (Lx ++ Ly) ++ Ld, k1, (hxs.join hys).join od, sub.nodup nd, fun z m => hn z (sub.mem m), fun z => .rfl⟩
          have g5 : Go F3 G3 H3 (fun z => z ∈ L1 ++ ((Lx ++ Ly) ++ Ld)) G3 H3 := Go.refl.less fun z m => (hf z).mpr (by simp at m ⊢; rcases m with m | m | m | m <;> simp [m])
          obtain ⟨F6, g6, r6⟩ := RS.pack (a := q) (o := .lst (xs ++ ys)) (t := .lst (as ++ bs)) r5 (by simp [hxs.len, hys.len]) hq rfl fun L h => .lst upd_same h
          exact p _ G3 _ F6 (((g1.trans g3).trans g5).trans g6) r6
        · exact p.elim
      · exact p.elim
/-- [x, ..] * n, of data -/
def allD : List T → Option (List PyData)
  | [] => some []
  | .d x :: ts => (allD ts).map fun xs => x :: xs
  | _ => none
theorem allD_eq : ∀ {ts : List T} {xs : List PyData}, allD ts = some xs → ts = xs.map .d
  | [], _, h => by cases h; rfl
  | .d x :: ts, _, h => by
    obtain ⟨xs, h1, h2⟩ := Option.map_eq_some_iff.mp h
    cases h2
    rw [allD_eq h1]; rfl
  | .lst _ :: _, _, h => by cases h
  | .dct _ :: _, _, h => by cases h
  | .dtp _ :: _, _, h => by cases h
  | .obj _ _ :: _, _, h => by cases h
theorem owall_dts : ∀ {vs : List V} {ds : List PyData} {L : List Addr}, OwAll K G H vs (ds.map .d) L → L = [] ∧ DtAll K G vs ds
  | _, [], _, .nil => ⟨rfl, .nil⟩
  | _, d :: ds, _, .cons (.d h) hs => by
    obtain ⟨rfl, h2⟩ := owall_dts hs
    exact ⟨rfl, .cons h h2⟩
def mRepO (m1 : ME) (f : FP) : ME := fun s => (m1 s).bind fun t s => match t, f (view s) with
  | .lst as, some (.int n) => (match allD as with
    | some ds => if 0 ≤ n ∧ n ≤ 1000 ∧ ds.length ≤ 1000 then .ok (.lst ((List.replicate n.toNat ds).flatten.map .d)) s else .bad
    | none => .bad)
  | _, _ => .bad
theorem se_RepO {m1 : ME} {f : FP} (h1 : SE K E ta m1) (hf : PP K tb f) : SE K E (tOp rRep ta tb) (mRepO m1 f) := fun G H σ s vs ts F Q r0 p => by
  refine h1 G H σ s vs ts F _ r0 ?_
  unfold mRepO at p
  cases e : m1 s with
  | bad => rw [e] at p; exact p
  | ex x s' => rw [e] at p; exact p
  | ok t s1 =>
    rw [e] at p
    intro v G1 H1 F1 g1 r1
    simp only [R.bind] at p
    split at p
    · next as n en =>
      split at p
      · next ds ed =>
        split at p
        · next hz =>
          refine r1.pure hf en fun y G2 H2 G3 g2 r2 hh g3 hy => ?_
          obtain ⟨L1, L2, k1, k2, nd, hn, hf'⟩ := r2.ex
          cases k2 with
          | @cons _ _ _ _ La Lb oa ob =>
          cases oa with
          | @lst a xs _ Lx ha hxs =>
          rw [allD_eq ed] at hxs
          obtain ⟨_, hds⟩ := owall_dts hxs
          refine ⟨a, n, xs, rfl, dt_int hy, ha, by omega, by omega, ?_, fun q hq => ?_⟩
          · rw [dts_len hds]
            have q1 : ds.length * n.toNat ≤ 1000 * 1000 := Nat.mul_le_mul hz.2.2 (by omega)
            exact Nat.le_trans q1 (by decide)
          · obtain ⟨F4, r4, h4⟩ := r2.pop
            obtain ⟨F6, g6, r6⟩ := RS.pack (ws := []) (us := []) (a := q) (o := .lst (List.replicate n.toNat xs).flatten) (t := .lst ((List.replicate n.toNat ds).flatten.map .d)) r4 rfl hq rfl fun L h => by
              cases h
              exact .lst upd_same (owall_d (dts_rep hds _))
            exact p _ G2 _ F6 (((g1.trans g2).less h4).trans g6) r6
        · exact p.elim
      · exact p.elim
    · exact p.elim
/-! ### dicts -/
def mDictK : ME := fun s => .ok (.dct []) s
def mDictT : ME := fun s => .ok (.dtp []) s
theorem se_DictK : SE K E tDNewK mDictK := fun G H σ s vs ts F Q r p a ha => by
  obtain ⟨F', g', r'⟩ := RS.pack (ws := []) (us := []) (a := a) (o := .dK []) (t := .dct []) r rfl ha rfl fun L hL => by
    cases hL
    exact .dct upd_same .nil
  exact p _ G _ F' g' r'
theorem se_DictT : SE K E tDNewT mDictT := fun G H σ s vs ts F Q r p a ha => by
  obtain ⟨F', g', r'⟩ := RS.pack (ws := []) (us := []) (a := a) (o := .dT []) (t := .dtp []) r rfl ha rfl fun L hL => by
    cases hL
    exact .dtp upd_same .nil
  exact p _ G _ F' g' r'
/-- displays whose keys are written texts -/
def SPr (K : PySem.W.Frag) (E : L2.St → XK) (trs : List (TE × TE)) (ks : List Str) (ms : MA) : Prop := ∀ G H σ s vs ts F (Q : List (V × V) → Hp → Prop), RS K G H σ s vs ts F → PostA K E G H F σ vs ts (fun ws H' => ws.length = ks.length → Q ((ks.map V.str).zip ws) H') (ms s) → tPairs trs σ H Q
theorem sp_nil : SPr K E [] [] aNil := fun G H σ s vs ts F Q r p => p [] [] G H F .refl .nil r rfl
theorem sp_cons {k : Str} {tv : TE} {trs : List (TE × TE)} {ks : List Str} (h : SE K E tv m) (hs : SPr K E trs ks ms) : SPr K E ((tC (.str k), tv) :: trs) (k :: ks) (aCons m ms) := fun G H σ s vs ts F Q r p => by
  refine h G H σ s vs ts F _ r ?_
  unfold aCons at p
  cases e : m s with
  | bad => rw [e] at p; exact p
  | ex x s' => rw [e] at p; exact p
  | ok t s' =>
    rw [e] at p
    intro v G' H' F' g r'
    refine hs G' H' σ s' (v :: vs) (t :: ts) F' _ r' ?_
    have p : PostA K E G H F σ vs ts (fun ws H' => ws.length = (k :: ks).length → Q (((k :: ks).map V.str).zip ws) H') ((ms s').bind fun us s => .ok (.tm t :: us) s) := p
    cases e2 : ms s' with
    | bad => rw [e2] at p; exact p
    | ex x s2 =>
      rw [e2] at p
      intro G2 H2 F2 g2 r2
      obtain ⟨F3, r3, h3⟩ := r2.pop
      exact p G2 H2 F3 ((g.trans g2).less h3) r3
    | ok us s2 =>
      rw [e2] at p
      intro ws tv G2 H2 F2 g2 w r2 hl
      exact p (v :: ws) (v :: tv) G2 H2 F2 (g.trans g2) (.tm w) (r2.rot w.len) (by simp [hl])
def mDisp (ks : List Str) (ms : MA) : ME := fun s => (ms s).bind fun us s => match tmsOnly us with
  | some ts => if ts.length = ks.length ∧ ks.length ≤ 15 ∧ ks.Nodup then .ok (.dct ((ks.map Sum.inr).zip ts)) s else .bad
  | none => .bad
theorem putK_new {κ : Type} [DecidableEq κ] {kvs : List (κ × V)} {k : κ} {v : V} (h : k ∉ kvs.map (·.1)) : putK kvs k v = kvs ++ [(k, v)] := by
  unfold putK
  rw [if_neg]
  simp only [List.any_eq_true, decide_eq_true_eq, not_exists, not_and]
  exact fun p m e => h (by rw [← e]; exact List.mem_map_of_mem m)
theorem mergeK_new {acc kvs : List (Key × V)} (h : ((acc ++ kvs).map (·.1)).Nodup) : mergeK acc kvs = acc ++ kvs := by
  induction kvs generalizing acc with
  | nil => simp [mergeK]
  | cons p kvs ih =>
    have e : acc ++ p :: kvs = (acc ++ [p]) ++ kvs := by simp
    have nk : p.1 ∉ acc.map (·.1) := fun m => by
      rw [List.map_append, List.nodup_append] at h
      exact h.2.2 p.1 m p.1 (by simp) rfl
    rw [e] at h ⊢
    rw [← ih h]
    show mergeK (putK acc p.1 p.2) kvs = _
    rw [putK_new nk]
theorem se_Disp {trs : List (TE × TE)} {ks : List Str} (h : SPr K E trs ks ms) : SE K E (tDisp trs) (mDisp ks ms) := fun G H σ s vs ts F Q r p a ha => by
  obtain ⟨F1, g1, r1⟩ := RS.pack (ws := []) (us := []) (a := a) (o := .dK []) (t := .dct []) r rfl ha rfl fun L hL => by
    cases hL
    exact .dct upd_same .nil
  refine h G _ σ s (.ref a :: vs) (.dct [] :: ts) F1 _ r1 ?_
  unfold mDisp at p
  cases e : ms s with
  | bad => rw [e] at p; exact p
  | ex x s' =>
    rw [e] at p
    intro G2 H2 F2 g2 r2
    obtain ⟨F3, r3, h3⟩ := r2.pop
    exact p G2 H2 F3 ((g1.trans g2).less h3) r3
  | ok us s' =>
    rw [e] at p
    intro ws tv G2 H2 F2 g2 aw r2 hwl
    simp only [R.bind] at p
    cases z : tmsOnly us with
    | none => rw [z] at p; exact p.elim
    | some us' =>
      rw [z] at p
      obtain ⟨rfl, rfl⟩ := tms_aw z aw
      simp only [] at p
      split at p
      · next hk =>
        have r3 := RS.rot (ws := tv) (us := tmT us) (v := .ref a) (t := .dct []) r2 aw.len
        obtain ⟨L1, L2, h1, h2, nd, hn, hf⟩ := r3.ex
        cases h2 with
        | @cons _ _ _ _ La Lb oa ob =>
        cases oa with
        | @dct _ xs _ Lx hacc hxs =>
        cases hxs
        obtain ⟨Lw, Lr, ow, orr, rfl⟩ := ob.split aw.len
        refine ⟨hacc, (ks.map Sum.inr).zip tv, ?_, by simp; omega, ?_⟩
        · have : ∀ (ks : List Str) (tv : List V), (ks.map V.str).zip tv = ((ks.map (Sum.inr : Str → Key)).zip tv).map (fun kv => (kV kv.1, kv.2)) := by
            intro ks
            induction ks with
            | nil => intro tv; rfl
            | cons k ks ih =>
              intro tv
              cases tv with
              | nil => rfl
              | cons v tv => simp only [List.map_cons, List.zip_cons_cons]; rw [ih]; rfl
          exact this ks tv
        have hfst : ((ks.map (Sum.inr : Str → Key)).zip tv).map (·.1) = ks.map Sum.inr := List.map_fst_zip (by simp; omega)
        have hfst' : ((ks.map (Sum.inr : Str → Key)).zip (tmT us)).map (·.1) = ks.map Sum.inr := List.map_fst_zip (by simp; omega)
        have hsnd : ((ks.map (Sum.inr : Str → Key)).zip tv).map (·.2) = tv := List.map_snd_zip (by simp; omega)
        have hsnd' : ((ks.map (Sum.inr : Str → Key)).zip (tmT us)).map (·.2) = tmT us := List.map_snd_zip (by simp; omega)
        have hnd : (ks.map (Sum.inr : Str → Key)).Nodup := List.Pairwise.map _ (fun _ _ h e => h (Sum.inr.inj e)) hk.2.2
        rw [mergeK_new (acc := []) (by rw [List.nil_append, hfst]; exact hnd), List.nil_append]
        have allp : (L1 ++ ([a] ++ [] ++ (Lw ++ Lr))).Perm (a :: (L1 ++ (Lw ++ Lr))) := perm_of fun z => by simp only [List.count_append, List.count_cons, List.count_nil]; omega
        have nd' := allp.nodup_iff.mp nd
        have na := (List.nodup_cons.mp nd').1
        have keep : ∀ {o : HO} {L : List Addr}, (∀ b ∈ L, b ∈ L1 ++ (Lw ++ Lr)) → ∀ b ∈ L, upd H2 a o b = H2 b := fun hL b m => upd_ne fun z => na (z ▸ hL b m)
        have ga : G2 a = none := hn a (by simp)
        have fa : F2 a := (hf a).mpr (by simp)
        have r4 : RS K G2 (upd H2 a (.dK ((ks.map Sum.inr).zip tv))) σ s' (.ref a :: vs) (.dct ((ks.map Sum.inr).zip (tmT us)) :: ts) F2 := by
          refine ⟨fun b w q => by rw [upd_ne (ne_of_none q ga)]; exact r3.gh b w q, L1, (a :: Lw) ++ Lr, h1.keep (Same.refl G2) (keep fun b m => by simp [m]), .cons (.dct upd_same (all_owk (by rw [hfst, hfst']) (by rw [hsnd, hsnd']; exact ow.keep (Same.refl G2) (keep fun b m => by simp [m])))) (orr.keep (Same.refl G2) (keep fun b m => by simp [m])), ?_, fun b m => hn b (by simp at m ⊢; rcases m with m | m | m | m <;> simp [m]), fun b => (hf b).trans (by simp)⟩
          have e2 : (L1 ++ ((a :: Lw) ++ Lr)).Perm (L1 ++ ([a] ++ [] ++ (Lw ++ Lr))) := perm_of fun z => by simp only [List.count_append, List.count_cons, List.count_nil]; omega
          exact e2.nodup_iff.mpr nd
        have gU : Go F2 G2 H2 F2 G2 (upd H2 a (.dK ((ks.map Sum.inr).zip tv))) := ⟨Same.refl G2, fun b w q n => by rw [upd_ne (fun (z : b = a) => n (z ▸ fa))]; exact q, fun b w q => .inl q, fun b z => .inl z, fun b q => by
          by_cases z : b = a
          · subst z; rw [upd_same] at q; cases q
          · rw [upd_ne z] at q; exact q, fun b w q t => by
          by_cases z : b = a
          · subst z; rw [upd_same] at q; cases q; cases t
          · rw [upd_ne z] at q; exact .inr q⟩
        exact p _ G2 _ F2 ((g1.trans g2).trans gU) r4
      · exact p.elim
end
end S

namespace S
open PySem L2
section
variable {K : PySem.W.Frag} {E : L2.St → XK} {te ta tb : TE} {m : ME}
def cMul (i j : Int) : Bool := absLt i 18446744073709551616 || absLt j 18446744073709551616
def posI : Int → Bool
  | .ofNat n => Nat.blt 0 n
  | .negSucc _ => false
theorem posI_iff {j : Int} : posI j = true ↔ 0 < j := by
  cases j with
  | ofNat n => simp [posI]
  | negSucc n => simp [posI]
def nonnI : Int → Bool
  | .ofNat _ => true
  | .negSucc _ => false
theorem nonnI_iff {j : Int} : nonnI j = true ↔ 0 ≤ j := by
  cases j with
  | ofNat n => simp [nonnI]
  | negSucc n => simp [nonnI]
def cDiv (_ j : Int) : Bool := posI j && absLt j 1073741824
def cMod (_ j : Int) : Bool := posI j
def cPow (i j : Int) : Bool := nonnI j && absLt j 1000001 && absLt i 18446744073709551616
def cShr (_ j : Int) : Bool := nonnI j
def gMul := gC cMul fun i j => i * j
def gDiv := gC cDiv fun i j => i / j
def gMod := gC cMod fun i j => i % j
def gPow := gC cPow fun i j => i ^ j.toNat
def gShl := gC cPow fun i j => i * 2 ^ j.toNat
def gShr := gC cShr fun i j => i / 2 ^ j.toNat
def gAdd := gI fun i j => i + j
def gSub := gI fun i j => i - j
def gBAnd := gI fun i j => Builtin.bitAnd i j
def gBOr := gI fun i j => Builtin.bitOr i j
def gBXor := gI fun i j => Builtin.bitXor i j
def gLt := gB fun i j => decide (i < j)
def gLe := gB fun i j => decide (i ≤ j)
def gGt := gB fun i j => decide (j < i)
def gGe := gB fun i j => decide (j ≤ i)
theorem os_add : OpS K (rI0 fun i j => .int (i + j)) gAdd := os_i
theorem os_sub : OpS K (rI0 fun i j => .int (i - j)) gSub := os_i
theorem os_band : OpS K (rI0 fun i j => .int (Builtin.bitAnd i j)) gBAnd := os_i
theorem os_bor : OpS K (rI0 fun i j => .int (Builtin.bitOr i j)) gBOr := os_i
theorem os_bxor : OpS K (rI0 fun i j => .int (Builtin.bitXor i j)) gBXor := os_i
theorem os_lt : OpS K (rI0 fun i j => .bl (decide (i < j))) gLt := os_b
theorem os_le : OpS K (rI0 fun i j => .bl (decide (i ≤ j))) gLe := os_b
theorem os_gt : OpS K (rI0 fun i j => .bl (decide (j < i))) gGt := os_b
theorem os_ge : OpS K (rI0 fun i j => .bl (decide (j ≤ i))) gGe := os_b
theorem os_mul : OpS K (rI CMul fun i j => .int (i * j)) gMul := os_c fun i j h => by
  unfold cMul at h
  rw [Bool.or_eq_true, absLt_iff, absLt_iff] at h
  unfold CMul
  omega
theorem os_div : OpS K (rI CDiv fun i j => .int (i / j)) gDiv := os_c fun i j h => by
  unfold cDiv at h
  rw [Bool.and_eq_true, posI_iff, absLt_iff] at h
  unfold CDiv
  omega
theorem os_mod : OpS K (rI (fun _ j => 0 < j) fun i j => .int (i % j)) gMod := os_c fun i j h => posI_iff.mp h
theorem cPow_iff {i j : Int} : cPow i j = true ↔ CPow i j := by
  unfold cPow CPow
  rw [Bool.and_eq_true, Bool.and_eq_true, nonnI_iff, absLt_iff, absLt_iff]
  omega
theorem os_pow : OpS K (rI CPow fun i j => .int (i ^ j.toNat)) gPow := os_c fun i j h => cPow_iff.mp h
theorem os_shl : OpS K (rI CPow fun i j => .int (i * 2 ^ j.toNat)) gShl := os_c fun i j h => cPow_iff.mp h
theorem os_shr : OpS K (rI (fun _ j => 0 ≤ j) fun i j => .int (i / 2 ^ j.toNat)) gShr := os_c fun i j h => nonnI_iff.mp h
def gLtS := gCmpS fun a b => decide (a < b)
def gGeS := gCmpS fun a b => !decide (a < b)
theorem os_ltS : OpS K (fun x y H Q => ∃ i j, x = .str i ∧ y = .str j ∧ Q (.bl (decide (i.cps.toList < j.cps.toList))) H) gLtS := os_cmpS (g := fun a b => decide (a < b))
theorem os_geS : OpS K (fun x y H Q => ∃ i j, x = .str i ∧ y = .str j ∧ Q (.bl (!decide (i.cps.toList < j.cps.toList))) H) gGeS := os_cmpS (g := fun a b => !decide (a < b))
/-- a sign n times -/
def gRepS (x y : PyData) : Option PyData := match x, y with
  | .str a, .int n => (signOf a).bind fun c => if 2 ≤ n ∧ n ≤ 1000 then some (.str (mkS (List.replicate n.toNat c))) else none
  | _, _ => none
theorem os_repS : OpS K rRepS gRepS := fun x y d e => by
  unfold gRepS at e
  split at e
  · obtain ⟨c, h1, e⟩ := Option.bind_eq_some_iff.mp e
    split at e
    · next h => cases e; rw [signOf_eq h1]; exact r2_repS h.1 h.2
    · cases e
  · cases e
/-- x in a list or a tuple of flat things -/
def flatD : PyData → Bool
  | .none => true
  | .bool _ => true
  | .int _ => true
  | .str _ => true
  | _ => false
def vOf : PyData → V
  | .bool b => .bl b
  | .int i => .int i
  | .str x => .str x
  | _ => .non
variable {G H : Hp}
theorem dt_flat {v : V} {d : PyData} (h : Dt K G v d) (e : flatD d = true) : v = vOf d ∧ flatV v = true := by
  cases h with
  | non => exact ⟨rfl, rfl⟩
  | bl b => exact ⟨rfl, rfl⟩
  | int i => exact ⟨rfl, rfl⟩
  | str x => exact ⟨rfl, rfl⟩
  | _ => cases e
theorem dts_flat : ∀ {vs : List V} {ds : List PyData}, DtAll K G vs ds → ds.all flatD = true → vs = ds.map vOf ∧ vs.all flatV = true
  | _, _, .nil, _ => ⟨rfl, rfl⟩
  | _, _, .cons h hs, e => by
    simp only [List.all_cons, Bool.and_eq_true] at e
    obtain ⟨h1, h2⟩ := dt_flat h e.1
    obtain ⟨h3, h4⟩ := dts_flat hs e.2
    subst h1 h3
    refine ⟨rfl, ?_⟩
    rw [List.all_cons, h2, h4]
    rfl
def inD (x : PyData) (ds : List PyData) : Bool := inV (vOf x) (ds.map vOf)
def gIn (neg : Bool) (x y : PyData) : Option PyData := match y with
  | .list ds => if flatD x = true ∧ ds.all flatD = true then some (.bool (if neg then !inD x ds else inD x ds)) else none
  | .tuple ds => if flatD x = true ∧ ds.all flatD = true then some (.bool (if neg then !inD x ds else inD x ds)) else none
  | _ => none
theorem os_in {neg : Bool} : OpS K (rIn K neg) (gIn neg) := fun x y d e => by
  unfold gIn at e
  split at e
  · split at e
    · next h =>
      cases e
      intro v w G H gh hx hy Q q
      obtain ⟨p, xs, rfl, h1, h2⟩ := dt_list hy gh
      obtain ⟨k1, k2⟩ := dt_flat hx h.1
      obtain ⟨k3, k4⟩ := dts_flat h2 h.2
      subst k1 k3
      exact ⟨p, _, rfl, .inl h1, k2, k4, q _ G H (Ext.refl gh) (.bl _)⟩
    · cases e
  · split at e
    · next h =>
      cases e
      intro v w G H gh hx hy Q q
      obtain ⟨p, xs, rfl, h1, h2⟩ := dt_tuple hy gh
      obtain ⟨k1, k2⟩ := dt_flat hx h.1
      obtain ⟨k3, k4⟩ := dts_flat h2 h.2
      subst k1 k3
      exact ⟨p, _, rfl, .inr h1, k2, k4, q _ G H (Ext.refl gh) (.bl _)⟩
    · cases e
  · cases e
/-- what never changes again, by the slots or by a place -/
def mRd (f : FP) (pl : MPth) : ME := fun s => match f (viewF s) with
  | some d => .ok (.d d) s
  | none => mPath pl s
theorem se_Rd {f : FP} {pl : MPth} (hf : PP K te f) (hp : SO K te pl) : SE K E te (mRd f pl) := fun G H σ s vs ts F Q r p => by
  unfold mRd at p
  cases e : f (viewF s) with
  | some d =>
    rw [e] at p
    refine se_F (E := E) hf G H σ s vs ts F Q r ?_
    unfold mF
    rw [e]
    exact p
  | none =>
    rw [e] at p
    exact se_Path (E := E) hp G H σ s vs ts F Q r p
end
end S
namespace S
theorem tab_nil {α : Type} {P : α → Prop} : ∀ p ∈ ([] : List α), P p := fun _ h => nomatch h
theorem tab_cons {α : Type} {P : α → Prop} {a : α} {l : List α} (h : P a) (hs : ∀ p ∈ l, P p) : ∀ p ∈ a :: l, P p := fun p m => by
  rcases List.mem_cons.mp m with rfl | m
  · exact h
  · exact hs p m
end S

namespace S
open PySem PyProof.Rows L2
/-! ### x[::-1] -/
def tRevS (te : TE) : TE := fun σ H Q => te σ H fun x H1 => ∃ z : Str, x = .str z ∧ z.length ≤ sizeLine ∧ Q (.str (mkS z.cps.toList.reverse)) H1
theorem rev_pick (z : Str) : ((Builtin.Str.strSliceIndices none none (-1) z.length).filterMap (z.cps[·]?)) = z.cps.toList.reverse := by
  unfold Builtin.Str.strSliceIndices
  show (sliceRange ((z.length : Int) - 1) (-1) (-1)).filterMap (z.cps[·]?) = _
  rw [PySem.W.krv_sliceRange]
  have hl : z.length = z.cps.toList.length := by simp [Str.length]
  apply List.ext_getElem?
  intro i
  rw [hl]
  have e : ∀ k, z.cps[k]? = z.cps.toList[k]? := fun k => (Array.getElem?_toList).symm
  simp only [e]
  generalize z.cps.toList = l
  have : ((List.range l.length).map fun k => l.length - 1 - k).filterMap (l[·]?) = l.reverse := by
    rw [List.filterMap_map]
    have : ((fun x => l[x]?) ∘ fun k => l.length - 1 - k) = fun k => l[l.length - 1 - k]? := rfl
    rw [this]
    apply List.ext_getElem?
    intro i
    have hfm : ∀ (ks : List Nat), (∀ k ∈ ks, k < l.length) → ks.filterMap (fun k => l[l.length - 1 - k]?) = ks.map (fun k => l.reverse.getD k 0) := by
      intro ks
      induction ks with
      | nil => intro _; rfl
      | cons k ks ih =>
        intro h
        have hk := h k (by simp)
        rw [List.filterMap_cons, List.getElem?_eq_getElem (by omega : l.length - 1 - k < l.length)]
        simp only [List.map_cons]
        rw [ih fun x m => h x (by simp [m])]
        congr 1
        rw [List.getD_eq_getElem?_getD, List.getElem?_eq_getElem (by simpa using hk), List.getElem_reverse]
        rfl
    rw [hfm _ (by simp)]
    by_cases hi : i < l.length
    · simp [hi]
    · rw [List.getElem?_eq_none (by simp; omega), List.getElem?_eq_none (by simp; omega)]
  rw [this]
theorem pe_revS {X : Cx} {e : Expr} {te : TE} {k : Nat} {p1 p2 p3 pos : Pos} (he : PE X e te) : PE X (.Subscript e (.Slice none none (some (.UnaryOp .USub (.Constant (.int 1) k p1) p2)) p3) pos) (tRevS te) := by
  refine ⟨fun pins s σ H Q I h => ?_⟩
  refine Subscript_ (thn (he.run pins s σ H _ I h) fun v s1 ⟨x, H1, I1, r1, q1⟩ => ?_)
  obtain ⟨z, ex, hz, q⟩ := q1
  subst ex
  obtain ⟨t, rfl⟩ := r1
  have hst : PO X (some (.UnaryOp .USub (.Constant (.int 1) k p1) p2)) (tPart (tUn (rU fun i => .int (-i)) (tC (.int 1)))) := po_some (pe_un un_neg pe_int)
  refine wpAny_Slice (thn (po_none.run pins s1 σ H1 (fun o H2 => o = none ∧ H2 = H1) I1 ⟨rfl, rfl⟩) fun vl s2 ⟨l, H2, I2, pl, el, e2⟩ => ?_)
  subst el e2
  refine thn (po_none.run pins s2 σ H2 (fun o H3 => o = none ∧ H3 = H2) I2 ⟨rfl, rfl⟩) fun vu s3 ⟨u, H3, I3, pu, eu, e3⟩ => ?_
  subst eu e3
  refine thn (hst.run pins s3 σ H3 (fun o H4 => o = some (-1) ∧ H4 = H3) I3 ⟨1, rfl, -1, rfl, rfl, rfl⟩) fun vs s4 ⟨o, H4, I4, ps, eo, e4⟩ => ?_
  subst eo e4
  have I5 : Inv X pins σ H4 { s4 with heap := s4.heap.push { cls := .type "slice", data := .fields #[vl, vu, vs] } } := I4.kept (t' := s4.toks) fun b ob q => Heap.get?_push_of_some _ q
  show wpAny (model X.prog X.w) X.A (subscriptTail e (.Slice none none (some (.UnaryOp .USub (.Constant (.int 1) k p1) p2)) p3) (.str z t) (.ref s4.heap.objs.size)) (EP X pins σ Q) X.xe { s4 with heap := s4.heap.push { cls := .type "slice", data := .fields #[vl, vu, vs] } }
  refine tail_any (ops := [.str z t, .ref s4.heap.objs.size]) (typeIs_str _ _ _) (PySem.F.slot_str_getitem.lookup) ?_ (by with_unfolding_all rfl)
  obtain ⟨l, hl1, hl2⟩ := IsPart.raw pl
  obtain ⟨u, hu1, hu2⟩ := IsPart.raw pu
  obtain ⟨st, hs1, hs2⟩ := IsPart.raw ps
  subst hl1 hu1 hs1
  obtain ⟨os, hos, hcs, hds⟩ := Heap.IsSliceOf.new s4.heap (partValue l) (partValue u) (partValue st)
  have hl2' : l.map (·.1) = none := hl2
  have hu2' : u.map (·.1) = none := hu2
  have hs2' : st.map (·.1) = some (-1) := hs2
  refine wpAny_getItem_str_slice (l := l) (u := u) (st := st) ⟨os, hos, hcs, hds⟩ (by rw [hs2']; rfl) ?_
  unfold sliceMade slicePicked
  rw [hs2', hl2', hu2']
  show Made.post (if ((-1 : Int) == 1 && (Builtin.Str.strSliceIndices none none (-1) z.length).length == z.length) = true then Made.val (.str z t) else Made.str ⟨((Builtin.Str.strSliceIndices none none (-1) z.length).filterMap (z.cps[·]?)).toArray⟩) (EP X pins σ Q) _
  rw [if_neg (by simp), rev_pick]
  have hlen : (⟨z.cps.toList.reverse.toArray⟩ : Str).length ≤ sizeLine := by
    show (z.cps.toList.reverse.toArray).size ≤ sizeLine
    simpa [Str.length] using hz
  exact ⟨hlen, .str _, H4, I5.tok _, ⟨_, rfl⟩, q⟩
theorem pe_revLK {X : Cx} {e : Expr} {te : TE} {k : Nat} {p1 p2 p3 pos : Pos} (K : PySem.W.Frag) (he : PE X e te) (h : X.K = K := by rfl) : PE X (.Subscript e (.Slice none none (some (.UnaryOp .USub (.Constant (.int 1) k p1) p2)) p3) pos) (tRevL K te) := h ▸ pe_revL he
section
variable {K : PySem.W.Frag} {ta : TE} {a : FP} {G : Hp}
def fRevS (a : FP) : FP := fun w => (a w).bind fun x => match x with
  | .str z => if z.length ≤ 16777216 then some (.str (mkS z.cps.toList.reverse)) else none
  | _ => none
theorem pp_revS (ha : PP K ta a) : PP K (tRevS ta) (fRevS a) := fun G σ w d h e => by
  obtain ⟨x, e1, e2⟩ := Option.bind_eq_some_iff.mp e
  clear e
  cases x with
  | str z =>
    have e2 : (if z.length ≤ 16777216 then some (PyData.str (mkS z.cps.toList.reverse)) else none) = some d := e2
    split at e2
    · next hz =>
      cases e2
      exact fun G1 H a' gh Q q => ha G σ w _ h e1 G1 H a' gh _ fun v G2 H2 x2 hv => ⟨z, dt_str hv, Nat.le_trans hz sizeLine_ge, q _ G2 H2 x2 (.str _)⟩
    · cases e2
  | _ => cases e2
def nRevL (a : FP) : FN := fun w => (a w).bind fun x => match x with
  | .list ds => some ds.reverse
  | _ => none
theorem dts_rev : ∀ {xs : List V} {ds : List PyData}, DtAll K G xs ds → DtAll K G xs.reverse ds.reverse
  | _, _, .nil => .nil
  | _, _, .cons h hs => by rw [List.reverse_cons, List.reverse_cons]; exact dts_app (dts_rev hs) (.cons h .nil)
theorem pn_revL (ha : PP K ta a) : PN K (tRevL K ta) (nRevL a) := fun G σ w ds h e => by
  obtain ⟨x, e1, e2⟩ := Option.bind_eq_some_iff.mp e
  clear e
  cases x with
  | list l =>
    cases e2
    exact fun G1 H a' gh Q q => ha G σ w _ h e1 G1 H a' gh _ fun v G2 H2 x2 hv => by
      obtain ⟨p, xs, rfl, h1, h2⟩ := dt_list hv x2.gh
      exact ⟨p, xs, rfl, h1, fun l hl => q l _ G2 H2 x2 hl (dts_rev h2)⟩
  | _ => cases e2
end
end S
namespace S
open PySem L2
section
variable {P : Program} {w : World} {K : PySem.W.Frag} {mg : Str → Option Value} {base : Heap} {x : Str} {st : Stmt} {N ps : List Str} {k : Nat} {W : List Nat} {b : MS} {f : Addr} {fd : FuncData}
/-- a def by its mirror, its place known -/
theorem Fun.okM (F : Fun K x x st f fd) (S : FnScope N ps (defScope st)) (hn : ps.length ≤ N.length)
    (body : ∀ (cdv : Value) (A : Around) (outer : List Env) (s : Shared) (H : Hp) (E : XK), Room k (A.deeper (PyProof.Rows.envOfC x (defScope st) s.heap.objs.size f cdv)) →
      ∃ t, PSs (cxOf (L2.CX P w) P w K mg base N x (defScope st) f cdv A outer s H E) (defBody st) t ∧ SS' K (fun _ => E) W t b) : FnOk P w K mg base (L2.CX P w) (k + 1) f fd ps (FnM K ps.length (runF N.length W b)) := by
  refine F.okX S (fun vs H Q E h => fnM_len h) (fun cdv A outer s H vs Q E hr h => ?_)
  obtain ⟨t, ht, hs⟩ := body cdv A outer s H E hr
  exact ⟨t, ht, fnM_body hs hn h⟩
theorem intHead_ints (ns : List Int) : intHead (ns.map PyData.int) = true := by cases ns <;> rfl
/-- the law's promise by its mirror -/
theorem spL_fnM {H : Hp} {a : Addr} {ns : List Int} {m : MF} {s : Sg} {Q : VK} {E : XK} (hS : SqL K H a (ns.map V.int)) (hs : m [.d (.list (ns.map .int))] = .ok (.d (.bool true)) s) (q : ∀ H', Q (.bl true) H') : FnM K 1 m [.ref a] H Q E := by
  refine ⟨rfl, H, [.d (.list (ns.map .int))], fun _ => False, rs_d (ds := [.list (ns.map .int)]) (Same.refl H) (.cons (.scr hS (intHead_ints ns) (ints_dts ns)) .nil), ?_⟩
  rw [hs]
  intro v G' H' F' g r
  obtain ⟨hv, _⟩ := r.top
  rw [dt_bool hv]
  exact q H'
end
end S

namespace S
open PySem L2
/-! ### things compared that may be empty dicts -/
def rEqU (K : PySem.W.Frag) : R2 := fun x y H Q => rEqD K x y H Q ∨ rEqDA x y H Q
def rNeU (K : PySem.W.Frag) : R2 := fun x y H Q => rNeD K x y H Q ∨ rNeDA x y H Q
theorem op_eqUK {X : Cx} (K : PySem.W.Frag) (hu : X.A.units + 64 < cLine) (h : X.K = K := by rfl) : OpR X (compareOp .Eq) (rEqU K) := by
  subst h
  intro pins s σ H x y v u Q I rx ry h
  rcases h with h | h
  · exact op_eqD hu pins s σ H x y v u Q I rx ry h
  · exact op_eq_dictA (by omega) pins s σ H x y v u Q I rx ry h
theorem op_neUK {X : Cx} (K : PySem.W.Frag) (hu : X.A.units + 64 < cLine) (h : X.K = K := by rfl) : OpR X (compareOp .NotEq) (rNeU K) := by
  subst h
  intro pins s σ H x y v u Q I rx ry h
  rcases h with h | h
  · exact op_neD hu pins s σ H x y v u Q I rx ry h
  · exact op_ne_dictA (by omega) pins s σ H x y v u Q I rx ry h
def gEqU (x y : PyData) : Option PyData := match x, y with
  | .dict [], .dict [] => some (.bool true)
  | _, _ => gEqD x y
def gNeU (x y : PyData) : Option PyData := match x, y with
  | .dict [], .dict [] => some (.bool false)
  | _, _ => gNeD x y
section
variable {K : PySem.W.Frag} {G H : Hp}
theorem dt_dict0 {v : V} (h : Dt K G v (.dict [])) (gh : Same G H) : ∃ a, v = .ref a ∧ H a = some (.dK []) := by
  obtain ⟨a, kvs, rfl, h1, h2, h3⟩ := dt_dictK (r := []) h rfl
  have : kvs = [] := by
    have := congrArg List.length h2
    simpa using this.symm
  subst this
  exact ⟨a, rfl, gh _ _ h1⟩
theorem os_eqU : OpS K (rEqU K) gEqU := fun x y d e => by
  unfold gEqU at e
  split at e
  · cases e
    intro v w G H gh hx hy Q q
    obtain ⟨a, rfl, h1⟩ := dt_dict0 hx gh
    obtain ⟨b, rfl, h2⟩ := dt_dict0 hy gh
    exact .inr ⟨a, b, [], [], rfl, rfl, h1, h2, rfl, by simp, q _ G H (Ext.refl gh) (.bl _)⟩
  · exact fun v w G H gh hx hy Q q => .inl (os_eqD x y d e v w G H gh hx hy Q q)
theorem os_neU : OpS K (rNeU K) gNeU := fun x y d e => by
  unfold gNeU at e
  split at e
  · cases e
    intro v w G H gh hx hy Q q
    obtain ⟨a, rfl, h1⟩ := dt_dict0 hx gh
    obtain ⟨b, rfl, h2⟩ := dt_dict0 hy gh
    exact .inr ⟨a, b, [], [], rfl, rfl, h1, h2, rfl, by simp, q _ G H (Ext.refl gh) (.bl _)⟩
  · exact fun v w G H gh hx hy Q q => .inl (os_neD x y d e v w G H gh hx hy Q q)
end
end S

namespace S
open PySem L2
/-! ### how mirrors are reckoned: by simp (disch := omega) -/
section
variable {α β : Type} {s s' : Sg} {t : T} {i j : Nat} {x y : PyData} {w : Vw}
@[simp] theorem bind_ok' {a : α} {k : α → Sg → R β} : R.bind (.ok a s) k = k a s := rfl
@[simp] theorem bind_ex {k : α → Sg → R β} : R.bind (.ex x s : R α) k = .ex x s := rfl
@[simp] theorem bind_bad {k : α → Sg → R β} : R.bind (.bad : R α) k = .bad := rfl
@[simp] theorem of_some {a : α} : R.of (some a) s = .ok a s := rfl
@[simp] theorem of_none : R.of (none : Option α) s = .bad := rfl
def seqK (r : R Fl) (b : MS) : R Fl := match r with
  | .ok .nx s' => b s'
  | r => r
@[simp] theorem sSeq_eq {a b : MS} : sSeq a b s = seqK (a s) b := rfl
@[simp] theorem seqK_nx {b : MS} : seqK (.ok .nx s) b = b s := rfl
@[simp] theorem seqK_rt {b : MS} : seqK (.ok (.rt t) s) b = .ok (.rt t) s := rfl
@[simp] theorem seqK_bk {b : MS} : seqK (.ok .bk s) b = .ok .bk s := rfl
@[simp] theorem seqK_ct {b : MS} : seqK (.ok .ct s) b = .ok .ct s := rfl
@[simp] theorem seqK_ex {b : MS} : seqK (.ex x s) b = .ex x s := rfl
@[simp] theorem seqK_bad {b : MS} : seqK .bad b = .bad := rfl
@[simp] theorem sNx_eq : sNx s = .ok .nx s := rfl
@[simp] theorem sRt_eq {m : ME} : sRt m s = (m s).bind fun t s => .ok (.rt t) s := rfl
@[simp] theorem sEx_eq {m : ME} : sEx m s = (m s).bind fun _ s => .ok .nx s := rfl
def ifK {γ : Type} (r : R Bool) (a b : Sg → R γ) : R γ := r.bind fun p s => if p then a s else b s
@[simp] theorem ifK_t {γ : Type} {a b : Sg → R γ} : ifK (.ok true s) a b = a s := rfl
@[simp] theorem ifK_f {γ : Type} {a b : Sg → R γ} : ifK (.ok false s) a b = b s := rfl
@[simp] theorem ifK_ex {γ : Type} {a b : Sg → R γ} : ifK (.ex x s) a b = .ex x s := rfl
@[simp] theorem ifK_bad {γ : Type} {a b : Sg → R γ} : ifK .bad a b = .bad := rfl
@[simp] theorem sIf_eq {c : MT} {a b : MS} : sIf c a b s = ifK (c s) a b := rfl
@[simp] theorem sSet_eq {m : ME} : sSet i m s = (m s).bind fun t s => if i < s.length then .ok .nx (s.set i (some t)) else .bad := rfl
@[simp] theorem mIf_eq {c : MT} {a b : ME} : mIf c a b s = ifK (c s) a b := rfl
def pK (o : Option PyData) (s : Sg) : R T := match o with
  | some d => if isImm d then .ok (.d d) s else .bad
  | none => .bad
@[simp] theorem mP_eq {f : FP} : mP f s = pK (f (view s)) s := rfl
@[simp] theorem pK_some : pK (some x) s = if isImm x then .ok (.d x) s else .bad := rfl
@[simp] theorem pK_none : pK none s = .bad := rfl
@[simp] theorem mF_eq {f : FP} : mF f s = R.of ((f (viewF s)).map .d) s := rfl
@[simp] theorem bP_eq {f : FT} : bP f s = R.of (f (view s)) s := rfl
@[simp] theorem bE_eq {m : ME} : bE m s = (m s).bind fun t s => R.of (boolOf t.data) s := rfl
@[simp] theorem bAnd_eq {c d : MT} : bAnd c d s = ifK (c s) d (fun s => .ok false s) := rfl
@[simp] theorem bOr_eq {c d : MT} : bOr c d s = ifK (c s) (fun s => .ok true s) d := rfl
@[simp] theorem bNot_eq {c : MT} : bNot c s = (c s).bind fun p s => .ok (!p) s := rfl
@[simp] theorem view_nil : view [] = [] := rfl
@[simp] theorem view_cons {o : Option T} : view (o :: s) = o.map T.data :: view s := rfl
@[simp] theorem viewF_nil : viewF [] = [] := rfl
@[simp] theorem viewF_cons {o : Option T} : viewF (o :: s) = frzD o :: viewF s := rfl
@[simp] theorem frzD_d : frzD (some (.d x)) = some x := rfl
@[simp] theorem frzD_none : frzD none = none := rfl
@[simp] theorem frzD_lst {ts : List T} : frzD (some (.lst ts)) = none := rfl
@[simp] theorem frzD_dct {ts : List (Key × T)} : frzD (some (.dct ts)) = none := rfl
@[simp] theorem frzD_obj {C : Addr} {ts : List (Str × T)} : frzD (some (.obj C ts)) = none := rfl
@[simp] theorem data_d : (T.d x).data = x := by simp [T.data]
@[simp] theorem data_lst {ts : List T} : (T.lst ts).data = .list (T.dataL ts) := by simp [T.data]
@[simp] theorem data_dct {ts : List (Key × T)} : (T.dct ts).data = .dict (T.dataK ts) := by simp [T.data]
@[simp] theorem data_obj {C : Addr} {ts : List (Str × T)} : (T.obj C ts).data = dObj C (T.dataF ts) := by simp [T.data]
@[simp] theorem dataL_nil : T.dataL [] = [] := by simp [T.dataL]
@[simp] theorem dataL_cons {ts : List T} : T.dataL (t :: ts) = t.data :: T.dataL ts := by simp [T.dataL]
@[simp] theorem dataK_nil : T.dataK [] = [] := by simp [T.dataK]
@[simp] theorem dataK_cons {k : Key} {ts : List (Key × T)} : T.dataK ((k, t) :: ts) = (keyD k, t.data) :: T.dataK ts := by simp [T.dataK]
@[simp] theorem dataF_nil : T.dataF [] = [] := by simp [T.dataF]
@[simp] theorem dataF_cons {k : Str} {ts : List (Str × T)} : T.dataF ((k, t) :: ts) = (.str k, t.data) :: T.dataF ts := by simp [T.dataF]
@[simp] theorem dataL_map {ds : List PyData} : T.dataL (ds.map .d) = ds := by
  induction ds with
  | nil => simp
  | cons d ds ih => simp [ih]
@[simp] theorem dataL_comp {γ : Type} {f : γ → PyData} {l : List γ} : T.dataL (l.map fun c => .d (f c)) = l.map f := by
  induction l with
  | nil => simp
  | cons d ds ih => simp [ih]
@[simp] theorem dataL_app {as bs : List T} : T.dataL (as ++ bs) = T.dataL as ++ T.dataL bs := by
  induction as with
  | nil => simp
  | cons d ds ih => simp [ih]
@[simp] theorem isImm_int {n : Int} : isImm (.int n) = true := by simp [isImm]
@[simp] theorem isImm_str {z : Str} : isImm (.str z) = true := by simp [isImm]
@[simp] theorem isImm_bool {b : Bool} : isImm (.bool b) = true := by simp [isImm]
@[simp] theorem isImm_none : isImm .none = true := by simp [isImm]
@[simp] theorem isImm_tuple {ds : List PyData} : isImm (.tuple ds) = isImmL ds := by simp [isImm]
@[simp] theorem isImm_list {ds : List PyData} : isImm (.list ds) = false := by simp [isImm]
@[simp] theorem isImmL_nil : isImmL [] = true := by simp [isImmL]
@[simp] theorem isImmL_cons {ds : List PyData} : isImmL (x :: ds) = (isImm x && isImmL ds) := by simp [isImmL]
@[simp] theorem fVar_eq : fVar i w = (w[i]?).join := rfl
@[simp] theorem fC_eq : fC x w = some x := rfl
def op2 (g : PyData → PyData → Option PyData) (a b : Option PyData) : Option PyData := a.bind fun x => b.bind fun y => g x y
@[simp] theorem fOp_eq {g : PyData → PyData → Option PyData} {a b : FP} : fOp g a b w = op2 g (a w) (b w) := rfl
@[simp] theorem op2_some {g : PyData → PyData → Option PyData} : op2 g (some x) (some y) = g x y := rfl
@[simp] theorem op2_none {g : PyData → PyData → Option PyData} {b : Option PyData} : op2 g none b = none := rfl
@[simp] theorem op2_none' {g : PyData → PyData → Option PyData} : op2 g (some x) none = none := rfl
def cons2 (a : Option PyData) (b : Option (List PyData)) : Option (List PyData) := a.bind fun x => b.bind fun xs => some (x :: xs)
@[simp] theorem fNil_eq : fNil w = some [] := rfl
@[simp] theorem fCons_eq {a : FP} {as : FA} : fCons a as w = cons2 (a w) (as w) := rfl
@[simp] theorem cons2_some {xs : List PyData} : cons2 (some x) (some xs) = some (x :: xs) := rfl
@[simp] theorem cons2_none {o : Option (List PyData)} : cons2 none o = none := rfl
@[simp] theorem fTup_eq {as : FA} : fTup as w = (as w).bind fun xs => if xs.length ≤ 1000 then some (.tuple xs) else none := rfl
@[simp] theorem fLst_eq {as : FA} : fLst as w = (as w).bind fun xs => if xs.length ≤ 1000 then some (.list xs) else none := rfl
@[simp] theorem fCb_eq {g : List PyData → Option PyData} {as : FA} : fCb g as w = (as w).bind g := rfl
@[simp] theorem fIf_eq {c : FT} {a b : FP} : fIf c a b w = (c w).bind fun p => if p then a w else b w := rfl
@[simp] theorem fAnd_eq {a b : FP} : fAnd a b w = (a w).bind fun x => (boolOf x).bind fun p => if p then (b w).bind fun y => (boolOf y).bind fun q => some (.bool q) else some (.bool false) := rfl
@[simp] theorem fOr_eq {a b : FP} : fOr a b w = (a w).bind fun x => (boolOf x).bind fun p => if p then some (.bool true) else (b w).bind fun y => (boolOf y).bind fun q => some (.bool q) := rfl
@[simp] theorem fNot_eq {a : FP} : fNot a w = (a w).bind fun x => (boolOf x).bind fun p => some (.bool !p) := rfl
@[simp] theorem fNeg_eq {a : FP} : fNeg a w = (a w).bind fun x => (match x with | .int i => some (.int (-i)) | _ => none) := rfl
@[simp] theorem cVal_eq {a : FP} : cVal a w = (a w).bind boolOf := rfl
@[simp] theorem cNot_eq {c : FT} : cNot c w = (c w).bind fun p => some !p := rfl
@[simp] theorem cAnd_eq {c d : FT} : cAnd c d w = (c w).bind fun p => if p then d w else some false := rfl
@[simp] theorem cOr_eq {c d : FT} : cOr c d w = (c w).bind fun p => if p then some true else d w := rfl
@[simp] theorem cYes_eq : cYes w = some true := rfl
@[simp] theorem boolOf_b {b : Bool} : boolOf (.bool b) = some b := rfl
def resD (r : R T) : Option PyData := match r with
  | .ok t _ => some t.data
  | _ => none
def fnK (mf : MF) (o : Option (List PyData)) : Option PyData := o.bind fun ds => resD (mf (ds.map .d))
@[simp] theorem fFn_eq {mf : MF} {as : FA} : fFn mf as w = fnK mf (as w) := rfl
@[simp] theorem fnK_some {mf : MF} {ds : List PyData} : fnK mf (some ds) = resD (mf (ds.map .d)) := rfl
@[simp] theorem resD_ok : resD (.ok t s) = some t.data := rfl
@[simp] theorem fChain_eq {g g' : PyData → PyData → Option PyData} {a b c : FP} : fChain g g' a b c w = (a w).bind fun x => (b w).bind fun y => (g x y).bind fun p => (boolOf p).bind fun p => (c w).bind fun z => (g' y z).bind fun q => (boolOf q).bind fun q => some (.bool (p && q)) := rfl
@[simp] theorem oNone_eq : oNone w = some none := rfl
@[simp] theorem oSome_eq {a : FP} : oSome a w = (a w).bind fun x => (intOf x).map some := rfl
@[simp] theorem intOf_i {n : Int} : intOf (.int n) = some n := rfl
@[simp] theorem cons_at0 {γ : Type} {a : γ} {l : List γ} : (a :: l)[0]? = some a := rfl
@[simp] theorem gDGet_k {ds : List (PyData × PyData)} {k : Key} {r : List (Key × PyData)} (h : dictD (.dict ds) = some (.k r)) : gDGet (.dict ds) (keyD k) = valG r k := by
  unfold gDGet dGet
  rw [h]
  have : keyOfD (keyD k) = some k := by cases k <;> rfl
  simp [this]
/-! numbers -/
variable {a b : Int}
@[simp] theorem gAdd_i : gAdd (.int a) (.int b) = some (.int (a + b)) := rfl
@[simp] theorem gSub_i : gSub (.int a) (.int b) = some (.int (a - b)) := rfl
@[simp] theorem gBAnd_i : gBAnd (.int a) (.int b) = some (.int (Builtin.bitAnd a b)) := rfl
@[simp] theorem gBXor_i : gBXor (.int a) (.int b) = some (.int (Builtin.bitXor a b)) := rfl
@[simp] theorem gLt_i : gLt (.int a) (.int b) = some (.bool (decide (a < b))) := rfl
@[simp] theorem gLe_i : gLe (.int a) (.int b) = some (.bool (decide (a ≤ b))) := rfl
@[simp] theorem gGt_i : gGt (.int a) (.int b) = some (.bool (decide (b < a))) := rfl
@[simp] theorem gGe_i : gGe (.int a) (.int b) = some (.bool (decide (b ≤ a))) := rfl
@[simp] theorem gEq_i : gEq (.int a) (.int b) = some (.bool (decide (a = b))) := rfl
@[simp] theorem gEq_s {a b : Str} : gEq (.str a) (.str b) = some (.bool (decide (a = b))) := rfl
@[simp] theorem gEq_b {a b : Bool} : gEq (.bool a) (.bool b) = some (.bool (decide (a = b))) := rfl
@[simp] theorem gNe_i : gNe (.int a) (.int b) = some (.bool (!decide (a = b))) := rfl
@[simp] theorem gNe_s {a b : Str} : gNe (.str a) (.str b) = some (.bool (!decide (a = b))) := rfl
@[simp] theorem gNe_b {a b : Bool} : gNe (.bool a) (.bool b) = some (.bool (!decide (a = b))) := rfl
@[simp] theorem gIsN_i : gIsN x .none = some (.bool (isNoneD x)) := rfl
@[simp] theorem gNotN_i : gNotN x .none = some (.bool (!isNoneD x)) := rfl
theorem gMul_ok (h : (-18446744073709551616 < a ∧ a < 18446744073709551616) ∨ (-18446744073709551616 < b ∧ b < 18446744073709551616)) : gMul (.int a) (.int b) = some (.int (a * b)) := by
  show (if cMul a b = true then _ else _) = _
  rw [if_pos]
  unfold cMul
  rw [Bool.or_eq_true, absLt_iff, absLt_iff]
  omega
@[simp] theorem gMul_l (h1 : -18446744073709551616 < a) (h2 : a < 18446744073709551616) : gMul (.int a) (.int b) = some (.int (a * b)) := gMul_ok (.inl ⟨h1, h2⟩)
@[simp] theorem gMul_r (h1 : -18446744073709551616 < b) (h2 : b < 18446744073709551616) : gMul (.int a) (.int b) = some (.int (a * b)) := gMul_ok (.inr ⟨h1, h2⟩)
@[simp] theorem gMod_ok (h : 0 < b) : gMod (.int a) (.int b) = some (.int (a % b)) := by
  show (if cMod a b = true then _ else _) = _
  exact if_pos (posI_iff.mpr h)
@[simp] theorem gDiv_ok (h : 0 < b) (h2 : b < 1073741824) : gDiv (.int a) (.int b) = some (.int (a / b)) := by
  show (if cDiv a b = true then _ else _) = _
  rw [if_pos]
  unfold cDiv
  rw [Bool.and_eq_true, posI_iff, absLt_iff]
  omega
/-! calls -/
def runK (W : List Nat) (ts : List T) (r : R Fl) : R T := match r with
  | .ok (.rt t) s => .ok t (backA W 0 ts s)
  | .ok .nx s => .ok (.d .none) (backA W 0 ts s)
  | .ex x s => .ex x (backA W 0 ts s)
  | _ => .bad
@[simp] theorem runF_eq {N : Nat} {W : List Nat} {b : MS} {ts : List T} : runF N W b ts = if okA W 0 ts then runK W ts (b (ts.map some ++ List.replicate (N - ts.length) none)) else .bad := rfl
@[simp] theorem runK_rt {W : List Nat} {ts : List T} : runK W ts (.ok (.rt t) s) = .ok t (backA W 0 ts s) := rfl
@[simp] theorem runK_nx {W : List Nat} {ts : List T} : runK W ts (.ok .nx s) = .ok (.d .none) (backA W 0 ts s) := rfl
@[simp] theorem runK_ex {W : List Nat} {ts : List T} : runK W ts (.ex x s) = .ex x (backA W 0 ts s) := rfl
@[simp] theorem okA_nil {W : List Nat} : okA W i [] = true := rfl
@[simp] theorem okA_cons {W : List Nat} {ts : List T} : okA W i (t :: ts) = ((!W.contains i || t.isD) && okA W (i + 1) ts) := rfl
@[simp] theorem isD_d : (T.d x).isD = true := rfl
@[simp] theorem backA_nil {W : List Nat} {s : Sg} : backA W i [] s = [] := by cases s <;> rfl
@[simp] theorem backA_cons {W : List Nat} {ts : List T} {o : Option T} : backA W i (t :: ts) (o :: s) = (if W.contains i then some t else o) :: backA W (i + 1) ts s := rfl
def callR (us : List AR) (s2 : Sg) (r : R T) : R T := match r with
  | .ok t as => .ok t (gbA us as s2)
  | .ex x as => .ex x (gbA us as s2)
  | .bad => .bad
def callL (mf : MF) (us : List AR) (o : Option (List T × Sg)) : R T := match o with
  | none => .bad
  | some p => callR us p.2 (mf p.1)
def callK (mf : MF) (r : R (List AR)) : R T := r.bind fun us s => callL mf us (ldA us s)
@[simp] theorem mCall_eq {mf : MF} {ma : MA} : mCall mf ma s = callK mf (ma s) := rfl
@[simp] theorem callK_ok {mf : MF} {us : List AR} : callK mf (.ok us s) = callL mf us (ldA us s) := rfl
@[simp] theorem callK_ex {mf : MF} : callK mf (.ex x s) = .ex x s := rfl
@[simp] theorem callL_some {mf : MF} {us : List AR} {as : List T} : callL mf us (some (as, s)) = callR us s (mf as) := rfl
@[simp] theorem callR_ok {us : List AR} {as : Sg} : callR us s (.ok t as) = .ok t (gbA us as s) := rfl
@[simp] theorem callR_ex {us : List AR} {as : Sg} : callR us s (.ex x as) = .ex x (gbA us as s) := rfl
@[simp] theorem aNil_eq : aNil s = .ok [] s := rfl
def consK (r : R T) (ms : MA) : R (List AR) := r.bind fun t s => (ms s).bind fun us s => .ok (.tm t :: us) s
@[simp] theorem aCons_eq {m : ME} {ms : MA} : aCons m ms s = consK (m s) ms := rfl
@[simp] theorem consK_ok {ms : MA} : consK (.ok t s) ms = (ms s).bind fun us s => .ok (.tm t :: us) s := rfl
@[simp] theorem consK_ex {ms : MA} : consK (.ex x s) ms = .ex x s := rfl
def brK (i : Nat) (o : Option (Option T)) (r : R (List AR)) : R (List AR) := match o with
  | some (some _) => r.bind fun us s => .ok (.br i :: us) s
  | _ => .bad
@[simp] theorem aBr_eq {ms : MA} : aBr i ms s = brK i s[i]? (ms s) := by unfold aBr brK; split <;> simp_all
@[simp] theorem brK_some {r : R (List AR)} : brK i (some (some t)) r = r.bind fun us s => .ok (.br i :: us) s := rfl
@[simp] theorem ldA_nil : ldA [] s = some ([], s) := rfl
@[simp] theorem ldA_tm {us : List AR} : ldA (.tm t :: us) s = (ldA us s).map fun p => (t :: p.1, p.2) := rfl
theorem ldA_brd {us : List AR} (h : s[i]? = some (some (.d x))) : ldA (.br i :: us) s = (ldA us s).map fun p => (.d x :: p.1, p.2) := by conv => { lhs; unfold ldA; simp only [h] }
theorem ldA_bro {us : List AR} (h : s[i]? = some (some t)) (hd : t.isD = false) : ldA (.br i :: us) s = (ldA us (s.set i none)).map fun p => (t :: p.1, p.2) := by
  conv => { lhs; unfold ldA; simp only [h] }
  cases t with
  | d x => cases hd
  | _ => rfl
@[simp] theorem ldA_br {us : List AR} : ldA (.br i :: us) s = (match s[i]? with | some (some t) => if t.isD then (ldA us s).map fun p => (t :: p.1, p.2) else (ldA us (s.set i none)).map fun p => (t :: p.1, p.2) | _ => none) := by
  cases h : s[i]? with
  | none => conv => { lhs; unfold ldA; simp only [h] }
  | some o =>
    cases o with
    | none => conv => { lhs; unfold ldA; simp only [h] }
    | some t =>
      cases e : t.isD with
      | true =>
        cases t with
        | d x => rw [ldA_brd h]; simp
        | _ => cases e
      | false => rw [ldA_bro h e]; simp [e]
@[simp] theorem gbA_nil {as : Sg} : gbA [] as s = s := by cases as <;> rfl
@[simp] theorem gbA_nil2 {us : List AR} : gbA us [] s = s := by
  cases us with
  | nil => rfl
  | cons u us => cases u <;> rfl
@[simp] theorem gbA_tm' {us : List AR} {o : Option T} {as : Sg} : gbA (.tm t :: us) (o :: as) s = gbA us as s := rfl
@[simp] theorem gbA_br {us : List AR} {as : Sg} : gbA (.br i :: us) (some t :: as) s = gbA us as (match s[i]? with | some none => s.set i (some t) | _ => s) := rfl
@[simp] theorem gbA_brn {us : List AR} {as : Sg} : gbA (.br i :: us) (none :: as) s = gbA us as s := rfl
@[simp] theorem isD_lst {ts : List T} : (T.lst ts).isD = false := rfl
@[simp] theorem isD_dct {ts : List (Key × T)} : (T.dct ts).isD = false := rfl
@[simp] theorem isD_obj {C : Addr} {ts : List (Str × T)} : (T.obj C ts).isD = false := rfl
@[simp] theorem tms_nil : tmsOnly [] = some [] := rfl
@[simp] theorem tms_tm {us : List AR} : tmsOnly (.tm t :: us) = (tmsOnly us).map fun ts => t :: ts := rfl
@[simp] theorem frzA_eq {us : List AR} : frzA us = (tmsOnly us).map fun ts => ts.map T.data := rfl
def opB (g : PyData → PyData → Option PyData) (t1 : T) (r : R T) : R T := r.bind fun t2 s => R.of ((g t1.data t2.data).map .d) s
def opK (g : PyData → PyData → Option PyData) (r : R T) (m2 : ME) : R T := r.bind fun t1 s => opB g t1 (m2 s)
@[simp] theorem mOp_eq {g : PyData → PyData → Option PyData} {m1 m2 : ME} : mOp g m1 m2 s = opK g (m1 s) m2 := rfl
@[simp] theorem opK_ok {g : PyData → PyData → Option PyData} {m2 : ME} : opK g (.ok t s) m2 = opB g t (m2 s) := rfl
@[simp] theorem opB_ok {g : PyData → PyData → Option PyData} {t1 : T} : opB g t1 (.ok t s) = R.of ((g t1.data t.data).map .d) s := rfl
def m1K (g : PyData → PyData → Option PyData) (r : R T) (m2 : ME) : R T := r.bind fun t1 s => (match t1.data with | .str _ => opB g t1 (m2 s) | _ => .bad)
@[simp] theorem mM1_eq {g : PyData → PyData → Option PyData} {m1 m2 : ME} : mM1 g m1 m2 s = m1K g (m1 s) m2 := rfl
@[simp] theorem m1K_ok {g : PyData → PyData → Option PyData} {m2 : ME} {z : Str} : m1K g (.ok (.d (.str z)) s) m2 = opB g (.d (.str z)) (m2 s) := by simp [m1K]
@[simp] theorem mCb_eq {g : List PyData → Option PyData} {ms : MA} : mCb g ms s = (ms s).bind fun us s => (match frzA us with | some ds => R.of ((g ds).map .d) s | none => .bad) := rfl
@[simp] theorem mTup_eq {ms : MA} : mTup ms s = (ms s).bind fun us s => (match frzA us with | some ds => if ds.length ≤ 1000 then .ok (.d (.tuple ds)) s else .bad | none => .bad) := rfl
@[simp] theorem mLst_eq {ms : MA} : mLst ms s = (ms s).bind fun us s => (match tmsOnly us with | some ts => if ts.length ≤ 1000 then .ok (.lst ts) s else .bad | none => .bad) := rfl
@[simp] theorem mMv_eq : mMv i s = (match s[i]? with | some (some t) => .ok t (s.set i none) | _ => .bad) := rfl
@[simp] theorem mFz_eq : mFz i s = (match s[i]? with | some (some t) => .ok (.d t.data) (s.set i (some (.d t.data))) | _ => .bad) := rfl
@[simp] theorem mN_eq {f : FN} : mN f s = (match f (viewF s) with | some ds => .ok (.lst (ds.map .d)) s | none => match f (view s) with | some ds => if isImmL ds then .ok (.lst (ds.map .d)) s else .bad | none => .bad) := rfl
@[simp] theorem fN_eq {f : FN} : fN f w = (f w).map .list := rfl
@[simp] theorem nListC_eq {a : FP} : nListC a w = (a w).bind fun x => (match x with | .list ds => some ds | .tuple ds => some ds | _ => none) := rfl
@[simp] theorem nSlL_eq {a : FP} {lo hi : FO} : nSlL a lo hi w = (a w).bind fun x => (lo w).bind fun l => (hi w).bind fun h => (match x with | .list ds => some (cutD ds l h) | _ => none) := rfl
@[simp] theorem nRevL_eq {a : FP} : nRevL a w = (a w).bind fun x => (match x with | .list ds => some ds.reverse | _ => none) := rfl
def catB (t1 : T) (r : R T) : R T := r.bind fun t2 s => (match t1, t2 with | .lst as, .lst bs => if as.length + bs.length ≤ 16777216 then .ok (.lst (as ++ bs)) s else .bad | _, _ => .bad)
def catK (r : R T) (m2 : ME) : R T := r.bind fun t1 s => catB t1 (m2 s)
@[simp] theorem mCatO_eq {m1 m2 : ME} : mCatO m1 m2 s = catK (m1 s) m2 := rfl
@[simp] theorem catK_ok {m2 : ME} : catK (.ok t s) m2 = catB t (m2 s) := rfl
@[simp] theorem catB_ok {as bs : List T} : catB (.lst as) (.ok (.lst bs) s) = if as.length + bs.length ≤ 16777216 then .ok (.lst (as ++ bs)) s else .bad := rfl
/-! places -/
@[simp] theorem pVar_eq : pVar i s = some (i, []) := rfl
@[simp] theorem atP_eq {ip : Nat × List PStep} : atP s ip = (s[ip.1]?).join.bind fun t => t.get ip.2 := rfl
@[simp] theorem putP_eq {ip : Nat × List PStep} : putP s ip t = (s[ip.1]?).join.bind fun t0 => (t0.put ip.2 t).map fun t' => s.set ip.1 (some t') := rfl
@[simp] theorem get_nil : t.get [] = some t := by cases t <;> simp [T.get]
@[simp] theorem put_nil {u : T} : t.put [] u = some u := by cases t <;> simp [T.put]
def mutB (i : Nat) (g : T → List T → Option (T × T)) (r : R (List AR)) : R T := r.bind fun us s => (match (tmsOnly us).bind fun as => (atP s (i, [])).bind fun t => g t as with
  | some (t2, t3) => .ok t3 (s.set i (some t2))
  | none => .bad)
def mutK (Ty : String) (i : Nat) (o : Option (Option T)) (g : T → List T → Option (T × T)) (r : R (List AR)) : R T := match o with
  | some (some t) => if tyT Ty t then mutB i g r else .bad
  | _ => .bad
@[simp] theorem mMut0_eq {Ty : String} {ms : MA} {g : T → List T → Option (T × T)} : mMut0 Ty i ms g s = mutK Ty i s[i]? g (ms s) := by
  unfold mMut0 mutK
  cases s[i]? with
  | none => rfl
  | some o => cases o <;> rfl
@[simp] theorem mutK_some {Ty : String} {g : T → List T → Option (T × T)} {r : R (List AR)} : mutK Ty i (some (some t)) g r = if tyT Ty t then mutB i g r else .bad := rfl
@[simp] theorem mutB_ok {g : T → List T → Option (T × T)} {us : List AR} : mutB i g (.ok us s) = (match (tmsOnly us).bind fun as => (atP s (i, [])).bind fun t => g t as with
  | some (t2, t3) => .ok t3 (s.set i (some t2))
  | none => .bad) := rfl
@[simp] theorem tyT_lst {ts : List T} : tyT "list" (.lst ts) = true := rfl
@[simp] theorem gAppend_eq {us : List T} : gAppend (.lst us) [t] = if us.length < 16777216 then some (.lst (us ++ [t]), .d .none) else none := rfl
@[simp] theorem keyOfD_i {n : Int} : keyOfD (.int n) = some (.inl n) := rfl
@[simp] theorem keyOfD_s {z : Str} : keyOfD (.str z) = some (.inr z) := rfl
@[simp] theorem keyD_l {n : Int} : keyD (.inl n) = .int n := rfl
@[simp] theorem keyD_r {z : Str} : keyD (.inr z) = .str z := rfl
@[simp] theorem gLen_l {ds : List PyData} : gLen [.list ds] = some (.int (ds.length : Nat)) := rfl
@[simp] theorem gLen_t {ds : List PyData} : gLen [.tuple ds] = some (.int (ds.length : Nat)) := rfl
@[simp] theorem gIxL_eq {ds : List PyData} {n : Int} : gIxL (.list ds) (.int n) = atI ds n := rfl
@[simp] theorem gIxT_eq {ds : List PyData} {n : Int} : gIxT (.tuple ds) (.int n) = atI ds n := rfl
theorem atI_map {γ δ : Type} {f : γ → δ} {l : List γ} {n : Int} : atI (l.map f) n = (atI l n).map f := by
  unfold atI
  rw [List.length_map]
  cases ixN l.length n with
  | none => rfl
  | some j => simp
theorem atI_some {γ : Type} {l : List γ} {n : Int} (h0 : 0 ≤ n) (h1 : n < (l.length : Int)) : ∃ z, atI l n = some z ∧ l[n.toNat]? = some z := atI_in h0 h1
theorem atI_get {γ : Type} {l : List γ} {n : Nat} (h : n < l.length) : atI l (n : Int) = some l[n] := by
  rw [atI_nat (v := l[n]) (by simp [h])]
/-! stores -/
def stK (r : R T) (k : T → Sg → Option Sg) : R Fl := r.bind fun t s => match k t s with
  | some s' => .ok .nx s'
  | none => .bad
@[simp] theorem stK_ok {k : T → Sg → Option Sg} : stK (.ok t s) k = (match k t s with | some s' => .ok .nx s' | none => .bad) := rfl
@[simp] theorem stK_ex {k : T → Sg → Option Sg} : stK (.ex x s) k = .ex x s := rfl
def putKy (pl : MPth) (f : FP) (t : T) (s : Sg) : Option Sg := (pl s).bind fun ip => (atP s ip).bind fun u => (f (view s)).bind fun d => (match u with
  | .dct us => (keyOfD d).bind fun k => if us.length < 16777216 ∧ (t.isD || oneG us k) = true then putP s ip (.dct (putG us k t)) else none
  | .dtp us => (keysOfD d).bind fun k => if us.length < 16777216 ∧ (t.isD || oneG us k) = true then putP s ip (.dtp (putG us k t)) else none
  | _ => none)
@[simp] theorem sSetK_eq {m : ME} {pl : MPth} {f : FP} : sSetK m pl f s = stK (m s) (putKy pl f) := rfl
@[simp] theorem putKy_var {f : FP} {us : List (Key × T)} {d : PyData} {k : Key} (h : s[i]? = some (some (.dct us))) (hf : f (view s) = some d) (hk : keyOfD d = some k) (ht : t.isD = true) (hl : us.length < 16777216) : putKy (pVar i) f t s = some (s.set i (some (.dct (putG us k t)))) := by
  simp [putKy, h, hf, hk, ht, hl]
def putLi (pl : MPth) (f : FP) (t : T) (s : Sg) : Option Sg := (pl s).bind fun ip => (atP s ip).bind fun u => (f (view s)).bind fun d => (match u, d with
  | .lst us, .int k => (ixN us.length k).bind fun j => putP s ip (.lst (us.set j t))
  | _, _ => none)
@[simp] theorem sSetL_eq {m : ME} {pl : MPth} {f : FP} : sSetL m pl f s = stK (m s) (putLi pl f) := rfl
def putFi (C : Addr) (fn : Str) (pl : MPth) (t : T) (s : Sg) : Option Sg := (pl s).bind fun ip => (atP s ip).bind fun u => (match u with
  | .obj C' fs => if C' = C ∧ fs.length < 1000 then putP s ip (.obj C' (putFG fn t fs)) else none
  | _ => none)
@[simp] theorem sSetF_eq {C : Addr} {fn : Str} {m : ME} {pl : MPth} : sSetF C fn m pl s = stK (m s) (putFi C fn pl) := rfl
/-! reads of dicts by data -/
theorem gDGet_eq {x y : PyData} : gDGet x y = (dGet x y).join := rfl
end
end S

namespace S
open PySem L2
/-! ### loops by what stands at each turn -/
section
variable {a : MG} {b : MS} {s : Sg} {ds : List PyData}
theorem forL_nx {d : PyData} {s1 s2 : Sg} {r : List PyData} (h1 : a d s = some s1) (h2 : b s1 = .ok .nx s2) : forL a b (d :: r) s = forL a b r s2 := by
  conv => { lhs; unfold forL; simp only [h1, h2] }
theorem forL_rt {d : PyData} {s1 s2 : Sg} {t : T} {r : List PyData} (h1 : a d s = some s1) (h2 : b s1 = .ok (.rt t) s2) : forL a b (d :: r) s = .ok (.rt t) s2 := by
  unfold forL
  simp only [h1, h2]
theorem forL_ex {d x : PyData} {s1 s2 : Sg} {r : List PyData} (h1 : a d s = some s1) (h2 : b s1 = .ex x s2) : forL a b (d :: r) s = .ex x s2 := by
  unfold forL
  simp only [h1, h2]
/-- every turn goes on -/
theorem forL_inv (I : Nat → Sg → Prop) (h0 : I 0 s) (hs : ∀ (i : Nat) (h : i < ds.length) (s : Sg), I i s → ∃ s1 s2, a ds[i] s = some s1 ∧ b s1 = .ok .nx s2 ∧ I (i + 1) s2) : ∃ s', forL a b ds s = .ok .nx s' ∧ I ds.length s' := by
  induction ds generalizing s I with
  | nil => exact ⟨s, rfl, h0⟩
  | cons d ds ih =>
    obtain ⟨s1, s2, h1, h2, h3⟩ := hs 0 (by simp) s h0
    obtain ⟨s', e, h⟩ := ih (fun i => I (i + 1)) h3 fun i hi s hI => by
      obtain ⟨s1, s2, k1, k2, k3⟩ := hs (i + 1) (by simpa using hi) s hI
      exact ⟨s1, s2, by simpa using k1, k2, k3⟩
    exact ⟨s', by rw [forL_nx (d := d) h1 h2]; exact e, by simpa using h⟩
/-- a turn goes on, or it tells something -/
theorem forL_ret (I : Nat → Sg → Prop) (Rt : T → Sg → Prop) (h0 : I 0 s) (hs : ∀ (i : Nat) (h : i < ds.length) (s : Sg), I i s → ∃ s1, a ds[i] s = some s1 ∧ ((∃ s2, b s1 = .ok .nx s2 ∧ I (i + 1) s2) ∨ ∃ t s2, b s1 = .ok (.rt t) s2 ∧ Rt t s2)) :
    (∃ s', forL a b ds s = .ok .nx s' ∧ I ds.length s') ∨ ∃ t s', forL a b ds s = .ok (.rt t) s' ∧ Rt t s' := by
  induction ds generalizing s I with
  | nil => exact .inl ⟨s, rfl, h0⟩
  | cons d ds ih =>
    obtain ⟨s1, h1, h⟩ := hs 0 (by simp) s h0
    rcases h with ⟨s2, h2, h3⟩ | ⟨t, s2, h2, h3⟩
    · rcases ih (fun i => I (i + 1)) h3 fun i hi s hI => by
        obtain ⟨s1, k1, k2⟩ := hs (i + 1) (by simpa using hi) s hI
        exact ⟨s1, by simpa using k1, k2⟩ with ⟨s', e, h⟩ | ⟨t, s', e, h⟩
      · exact .inl ⟨s', by rw [forL_nx (d := d) h1 h2]; exact e, by simpa using h⟩
      · exact .inr ⟨t, s', by rw [forL_nx (d := d) h1 h2]; exact e, h⟩
    · exact .inr ⟨t, s2, forL_rt h1 h2, h3⟩
def forK (r : R (List PyData)) (a : MG) (b : MS) : R Fl := r.bind fun ds s => forL a b ds s
@[simp] theorem sFor_eq {mi : MI} : sFor mi a b s = forK (mi s) a b := rfl
@[simp] theorem forK_ok : forK (.ok ds s) a b = forL a b ds s := rfl
@[simp] theorem iArgs_eq {ms : MA} {c : List PyData → Option (List PyData)} : iArgs ms c s = (ms s).bind fun us s => R.of ((frzA us).bind c) s := rfl
@[simp] theorem iOf_eq {m : ME} {c : PyData → Option (List PyData)} : iOf m c s = (m s).bind fun t s => R.of (c t.data) s := rfl
@[simp] theorem cList_l : cList (.list ds) = some ds := rfl
@[simp] theorem cTup_t : cTup (.tuple ds) = some ds := rfl
@[simp] theorem cStr_s {z : Str} : cStr (.str z) = some (signs z) := rfl
@[simp] theorem cRng1_i {n : Int} (h1 : -4611686018427387904 < n) (h2 : n < 4611686018427387904) : cRng1 [.int n] = some (rangeD 0 n) := if_pos (absLt_iff.mpr (by omega))
@[simp] theorem cRng2_i {m n : Int} (h1 : -4611686018427387904 < m) (h2 : m < 4611686018427387904) (h3 : -4611686018427387904 < n) (h4 : n < 4611686018427387904) : cRng2 [.int m, .int n] = some (rangeD m n) := if_pos (by rw [Bool.and_eq_true, absLt_iff, absLt_iff]; omega)
@[simp] theorem cEnum_l : cEnum [.list ds] = some (enumD 0 ds) := rfl
@[simp] theorem cZip_l {es : List PyData} : cZip [.list ds, .list es] = some (zipD ds es) := rfl
@[simp] theorem cZipS_s {x y : Str} : cZipS [.str x, .str y] = some (zipD (signs x) (signs y)) := rfl
@[simp] theorem gN_eq {i : Nat} {d : PyData} : gN i d s = if i < s.length then some (s.set i (some (.d d))) else none := rfl
@[simp] theorem gT_eq {n : Nat} {as : MGs} : gT n as (.tuple ds) s = if ds.length = n then as ds s else none := rfl
@[simp] theorem gCs_eq {as : MGs} {d : PyData} : gCs a as (d :: ds) s = (a d s).bind fun s => as ds s := rfl
@[simp] theorem gNl_eq : gNl [] s = some s := rfl
end
theorem range_get {n : Int} {i : Nat} (h : i < (rangeD 0 n).length) : (rangeD 0 n)[i] = .int (i : Nat) := by
  unfold rangeD
  simp
theorem range_len {n : Nat} : (rangeD 0 (n : Int)).length = n := by rw [rangeD_len]; omega
/-! ### comprehensions that draw -/
section
variable {ws : List Nat} {a : MG} {c : MT} {e : ME} {s : Sg} {ds : List PyData} {acc : List T}
theorem lcL_yes {d : PyData} {s1 s2 s3 : Sg} {t : T} {r : List PyData} (h1 : a d (wipeS s ws) = some s1) (h2 : c s1 = .ok true s2) (h3 : e s2 = .ok t s3) (hl : acc.length < 16777216) : lcL ws a c e (d :: r) acc s = lcL ws a c e r (acc ++ [t]) (wipeS s3 ws) := by
  conv => { lhs; unfold lcL; simp only [h1, h2, h3, hl, if_true] }
theorem lcL_no {d : PyData} {s1 s2 : Sg} {r : List PyData} (h1 : a d (wipeS s ws) = some s1) (h2 : c s1 = .ok false s2) : lcL ws a c e (d :: r) acc s = lcL ws a c e r acc (wipeS s2 ws) := by
  conv => { lhs; unfold lcL; simp only [h1, h2] }
/-- every turn gives one thing -/
theorem lcL_inv (I : Nat → Sg → List T → Prop) (h0 : I 0 s acc) (hl : acc.length + ds.length ≤ 16777216) (hacc : ∀ i s acc', I i s acc' → acc'.length = acc.length + i)
    (hs : ∀ (i : Nat) (h : i < ds.length) (s : Sg) (acc' : List T), I i s acc' → ∃ s1 s2 t s3, a ds[i] (wipeS s ws) = some s1 ∧ c s1 = .ok true s2 ∧ e s2 = .ok t s3 ∧ I (i + 1) (wipeS s3 ws) (acc' ++ [t])) : ∃ s' acc', lcL ws a c e ds acc s = .ok acc' s' ∧ I ds.length s' acc' := by
  have key : ∀ (ds : List PyData) (k : Nat) (s : Sg) (acc' : List T), acc.length + k + ds.length ≤ 16777216 → I k s acc' → (∀ (i : Nat) (h : i < ds.length) (s : Sg) (acc' : List T), I (k + i) s acc' → ∃ s1 s2 t s3, a ds[i] (wipeS s ws) = some s1 ∧ c s1 = .ok true s2 ∧ e s2 = .ok t s3 ∧ I (k + i + 1) (wipeS s3 ws) (acc' ++ [t])) → ∃ s' acc'', lcL ws a c e ds acc' s = .ok acc'' s' ∧ I (k + ds.length) s' acc'' := by
    intro ds
    induction ds with
    | nil => intro k s acc' _ h _; exact ⟨s, acc', rfl, h⟩
    | cons d ds ih =>
      intro k s acc' hl h hs
      obtain ⟨s1, s2, t, s3, h1, h2, h3, h4⟩ := hs 0 (by simp) s acc' h
      have hl' : acc'.length < 16777216 := by
        have := hacc k s acc' h
        simp at hl
        omega
      obtain ⟨s', acc'', e1, e2⟩ := ih (k + 1) (wipeS s3 ws) (acc' ++ [t]) (by simp at hl ⊢; omega) h4 fun i hi s acc h => by
        have := hs (i + 1) (by simpa using hi) s acc (by rw [show k + (i + 1) = k + 1 + i by omega]; exact h)
        rw [show k + (i + 1) + 1 = k + 1 + i + 1 by omega] at this
        simpa using this
      refine ⟨s', acc'', by rw [lcL_yes (by simpa using h1) h2 h3 hl']; exact e1, ?_⟩
      rw [show k + (d :: ds).length = k + 1 + ds.length by simp; omega]
      exact e2
  obtain ⟨s', acc'', e1, e2⟩ := key ds 0 s acc (by omega) h0 fun i h s acc hI => by
    rw [Nat.zero_add] at hI ⊢
    exact hs i h s acc hI
  exact ⟨s', acc'', e1, by simpa using e2⟩
def lcK (r : R (List PyData)) (ws : List Nat) (a : MG) (c : MT) (e : ME) : R T := r.bind fun ds s => (lcL ws a c e ds [] (wipeS s ws)).bind fun acc s => .ok (.lst acc) s
@[simp] theorem mLc_eq {mi : MI} : mLc mi ws a c e s = lcK (mi s) ws a c e := rfl
@[simp] theorem lcK_ok : lcK (.ok ds s) ws a c e = (lcL ws a c e ds [] (wipeS s ws)).bind fun acc s => .ok (.lst acc) s := rfl
end
@[simp] theorem wipeS_nil {s : Sg} : wipeS s [] = s := rfl
@[simp] theorem wipeS_cons {s : Sg} {v : Nat} {vs : List Nat} : wipeS s (v :: vs) = (wipeS s vs).set v none := rfl
end S

namespace S
open PySem L2
/-! ### sorted -/
def insI (x : Int) : List Int → List Int
  | [] => [x]
  | y :: l => if x ≤ y then x :: y :: l else y :: insI x l
def sortI : List Int → List Int
  | [] => []
  | x :: l => insI x (sortI l)
theorem insI_perm {x : Int} : ∀ {l : List Int}, (insI x l).Perm (x :: l)
  | [] => .refl _
  | y :: l => by
    unfold insI
    split
    · exact .refl _
    · exact ((insI_perm (l := l)).cons y).trans (.swap x y l)
theorem sortI_perm : ∀ {l : List Int}, (sortI l).Perm l
  | [] => .refl _
  | x :: l => insI_perm.trans (sortI_perm.cons x)
theorem insI_sorted {x : Int} : ∀ {l : List Int}, l.Pairwise (· ≤ ·) → (insI x l).Pairwise (· ≤ ·)
  | [], _ => by simp [insI]
  | y :: l, h => by
    rw [List.pairwise_cons] at h
    unfold insI
    split
    · next q =>
      rw [List.pairwise_cons, List.pairwise_cons]
      refine ⟨fun z hz => ?_, h⟩
      rcases List.mem_cons.mp hz with rfl | hz
      · exact q
      · have := h.1 z hz; omega
    · next q =>
      rw [List.pairwise_cons]
      refine ⟨fun z hz => ?_, insI_sorted h.2⟩
      rcases List.mem_cons.mp (insI_perm.mem_iff.mp hz) with rfl | hz
      · omega
      · exact h.1 z hz
theorem sortI_sorted : ∀ {l : List Int}, (sortI l).Pairwise (· ≤ ·)
  | [] => .nil
  | x :: l => insI_sorted sortI_sorted
theorem sortI_only {l m : List Int} (h : m.Perm l) (hs : m.Pairwise (· ≤ ·)) : m = sortI l :=
  List.Perm.eq_of_pairwise (le := (· ≤ ·)) (fun a b _ _ h1 h2 => Int.le_antisymm h1 h2) hs sortI_sorted (h.trans sortI_perm.symm)
def keysI : List (Key × PyData) → Option (List Int)
  | [] => some []
  | (.inl n, _) :: l => (keysI l).map fun ns => n :: ns
  | _ => none
theorem keysI_eq : ∀ {l : List (Key × PyData)} {ns : List Int}, keysI l = some ns → l.map (·.1) = ns.map Sum.inl
  | [], _, h => by cases h; rfl
  | (.inl n, _) :: l, ns, h => by
    obtain ⟨ms, e, rfl⟩ := Option.map_eq_some_iff.mp h
    simp [keysI_eq e]
  | (.inr _, _) :: l, _, h => by cases h
/-- sorted(d), d a dict by ints -/
def gSortDI : List PyData → Option PyData
  | [d] => (dictD d).bind fun r => match r with
    | .k l => (keysI l).bind fun ns => if ns.length < 64 then some (.list ((sortI ns).map .int)) else none
    | _ => none
  | _ => none
/-- sorted(l), l a list of ints -/
def intsD : List PyData → Option (List Int)
  | [] => some []
  | .int n :: l => (intsD l).map fun ns => n :: ns
  | _ => none
theorem intsD_eq : ∀ {l : List PyData} {ns : List Int}, intsD l = some ns → l = ns.map .int
  | [], _, h => by cases h; rfl
  | .int n :: l, ns, h => by
    obtain ⟨ms, e, rfl⟩ := Option.map_eq_some_iff.mp h
    rw [intsD_eq e]; rfl
def gSortLI : List PyData → Option PyData
  | [.list l] => (intsD l).bind fun ns => if ns.length < 64 then some (.list ((sortI ns).map .int)) else none
  | _ => none
section
variable {K : PySem.W.Frag} {G H : Hp}
theorem dts_ints' {l : List Int} : DtAll K G (l.map V.int) (l.map .int) := by
  induction l with
  | nil => exact .nil
  | cons a l ih => exact .cons (.int _) ih
theorem cs_sortDI : CbS K (fun xs H Q => ∃ (a : Addr) (kvs : List (Key × V)) (ks : List Int), xs = [.ref a] ∧ Rd H a (.dK kvs) ∧ kvs.map (·.1) = ks.map Sum.inl ∧ ks.length < 64 ∧
    ∀ (ys : List Int) (p : Addr), ys.Perm ks → ys.Pairwise (· ≤ ·) → H p = none → Q (.ref p) (upd H p (.lst (ys.map V.int)))) gSortDI := fun ds d e vs G H gh h Q q => by
  unfold gSortDI at e
  split at e
  · next d0 =>
    obtain ⟨r, e1, e⟩ := Option.bind_eq_some_iff.mp e
    cases r with
    | k l =>
      obtain ⟨ns, e2, e⟩ := Option.bind_eq_some_iff.mp e
      split at e
      · next h64 =>
        cases e
        obtain ⟨v, rfl, hv⟩ := dts1 h
        obtain ⟨a, kvs, rfl, h1, h2, h3⟩ := dt_dictK hv e1
        refine ⟨a, kvs, ns, rfl, .inl (gh _ _ h1), h2.symm.trans (keysI_eq e2), h64, fun ys p hp hs hn => ?_⟩
        rw [sortI_only hp hs]
        exact q _ _ _ (Ext.new gh hn) (.lst upd_same dts_ints')
      · cases e
    | t l => cases e
  · cases e
theorem dt_ints_inv {l : List Int} : ∀ {vs : List V}, DtAll K G vs (l.map .int) → vs = l.map V.int := by
  induction l with
  | nil => intro vs h; cases h; rfl
  | cons a l ih =>
    intro vs h
    cases h with
    | cons h1 h2 => cases h1; rw [ih h2]; rfl
theorem cs_sortLI : CbS K (rSorted K) gSortLI := fun ds d e vs G H gh h Q q => by
  unfold gSortLI at e
  split at e
  · next l =>
    obtain ⟨ns, e2, e⟩ := Option.bind_eq_some_iff.mp e
    split at e
    · next h64 =>
      cases e
      obtain ⟨v, rfl, hv⟩ := dts1 h
      obtain ⟨a, xs, rfl, hl, hs⟩ := dt_list hv gh
      rw [intsD_eq e2] at hs
      rw [dt_ints_inv hs] at hl
      refine ⟨a, ns, rfl, hl, h64, fun ys p hp hs hn => ?_⟩
      rw [sortI_only hp hs]
      exact q _ _ _ (Ext.new gh hn) (.lst upd_same dts_ints')
    · cases e
  · cases e
/-! ### d[k], with effects -/
theorem os_dget : OpS K (fun x y H Q => ∃ a v, x = .ref a ∧ DGet H a y (some v) ∧ Q v H) gDGet := fun x y d e v w G H gh hx hy Q q => by
  unfold gDGet at e
  rw [join_some] at e
  obtain ⟨p, ov, rfl, h1, h2, _⟩ := dGet_at gh hx hy e
  obtain ⟨u, rfl, hu⟩ := h2 d rfl
  exact ⟨p, u, rfl, h1, q u G H (Ext.refl gh) hu⟩
theorem se_DGet {E : L2.St → XK} {ta tb : TE} {m1 m2 : ME} (h1 : SE K E ta m1) (h2 : SE K E tb m2) : SE K E (tDGet ta tb) (mOp gDGet m1 m2) := se_Op os_dget h1 h2
end
end S

namespace S
open PySem L2
/-! ### a walk over a tuple that is written out: its items stay owned -/
def forO (j : Nat) (b : MS) : List T → MS
  | [], s => .ok .nx s
  | t :: ts, s => if j < s.length then (match b (s.set j (some t)) with
      | .ok .nx s2 => forO j b ts s2
      | .ok .ct s2 => forO j b ts s2
      | .ok .bk s2 => .ok .nx s2
      | r => r) else .bad
def sForO (ms : MA) (j : Nat) (b : MS) : MS := fun s => (ms s).bind fun us s => match tmsOnly us with
  | some ts => if ts.length ≤ 1000 then forO j b ts s else .bad
  | none => .bad
section
variable {K : PySem.W.Frag} {E : L2.St → XK} {W : List Nat} {tas : TA} {ms : MA} {tb : TS} {b : MS}
theorem sqT_at {G H : Hp} {a : Addr} {ws : List V} (h : G a = some (.tup ws)) (gh : Same G H) : SqT K H a ws := .inl (.inl (gh _ _ h))
theorem ss_ForO {j : Nat} (ha : SAr K E tas ms) (hw : j ∈ W) (hb : SS' K E W tb b) : SS' K E W (tFor (iTup K (tTup tas)) (gName j) tb) (sForO ms j b) := fun G H σ s vs ts F D r p => by
  refine ha G H σ s vs ts F _ r ?_
  unfold sForO at p
  cases e : ms s with
  | bad => rw [e] at p; exact p
  | ex x s' => rw [e] at p; exact fun G' H' F' g r' => p σ G' H' F' g .refl r'
  | ok us s' =>
    rw [e] at p
    intro ws tv G' H' F' g aw r'
    simp only [R.bind] at p
    cases z : tmsOnly us with
    | none => rw [z] at p; exact p.elim
    | some us' =>
      rw [z] at p
      obtain ⟨rfl, rfl⟩ := tms_aw z aw
      by_cases hl : (tmT us).length ≤ 1000
      · simp only [hl, if_true] at p
        refine ⟨by rw [aw.len]; exact szn _ hl, fun a ha' => ?_⟩
        have hn := aw.len
        generalize hut : tmT us = ut at *
        clear hut z aw
        have x5 := Ext.new (M := []) (o := .tup tv) r'.gh ha'
        have r5 := r'.ext x5
        have g5 := g.trans (.of x5)
        have k5 : upd G' a (.tup tv) a = some (.tup tv) := upd_same
        refine ⟨a, rfl, ⟨tv, sqT_at upd_same (Same.refl _)⟩, ?_⟩
        generalize upd G' a (.tup tv) = G5 at *
        generalize upd H' a (.tup tv) = H5 at *
        refine ⟨fun i m σ' H1 => m = tv.length - i ∧ i ≤ tv.length ∧ ∃ G1 s1 F1, RS K G1 H1 σ' s1 (tv.drop i ++ vs) (ut.drop i ++ ts) F1 ∧ Go F G H F1 G1 H1 ∧ Same G5 G1 ∧ Off W σ σ' ∧ PostS K E W G H F σ vs ts D (forO j b (ut.drop i) s1),
          ⟨tv.length, by simp, Nat.zero_le _, G5, s', F', by simpa using r5, g5, Same.refl _, .refl, by simpa using p⟩, ?_⟩
        rintro i m σ1 H1 ⟨rfl, hin, G1, s1, F1, r1, g1, k1, o1, p1⟩
        have sq : SqT K H1 a tv := sqT_at k5 (k1.trans r1.gh)
        by_cases hlt : i < tv.length
        · have hlt2 : i < ut.length := by omega
          refine .inr ⟨⟨tv, tv[i], sq, by simp [hlt]⟩, fun σ2 H2 => ∃ G2 s2 F2, RS K G2 H2 σ2 s2 (tv.drop (i + 1) ++ vs) (ut.drop (i + 1) ++ ts) F2 ∧ Go F G H F2 G2 H2 ∧ Same G5 G2 ∧ Off W σ σ2 ∧ PostS K E W G H F σ vs ts D (forO j b (ut.drop (i + 1)) s2),
            fun σ2 H2 ⟨G2, s2, F2, h⟩ => ⟨tv.length - (i + 1), by omega, rfl, hlt, G2, s2, F2, h⟩, ?_⟩
          rintro x H2 ⟨rfl, hx⟩
          have hx := hx tv sq
          rw [List.getElem?_eq_getElem hlt] at hx
          cases hx
          rw [List.drop_eq_getElem_cons hlt, List.drop_eq_getElem_cons hlt2] at r1
          rw [List.drop_eq_getElem_cons hlt2] at p1
          unfold forO at p1
          by_cases hj : j < s1.length
          · rw [if_pos hj] at p1
            obtain ⟨F2, r2, hf⟩ := RS.asg (vs := tv.drop (i + 1) ++ vs) (ts := ut.drop (i + 1) ++ ts) r1 hj
            have g2 := g1.less hf
            have o2 : Off W σ (σ1.set j (some tv[i])) := o1.trans (off_set hw)
            have hd : (tv.drop (i + 1)).length = (ut.drop (i + 1)).length := by rw [List.length_drop, List.length_drop, hn]
            refine hb G1 _ _ _ (tv.drop (i + 1) ++ vs) (ut.drop (i + 1) ++ ts) F2 _ r2 ?_
            cases eb : b (s1.set j (some ut[i])) with
            | bad => simp only [eb] at p1; exact p1
            | ex y s3 =>
              simp only [eb] at p1
              intro σ' G3 H3 F3 g4 o4 r4
              obtain ⟨F4, r6, hf4⟩ := r4.popN hd
              exact p1 σ' G3 H3 F4 ((g2.trans g4).less hf4) (o2.trans o4) r6
            | ok f s3 =>
              cases f with
              | nx => simp only [eb] at p1; exact fun σ' G3 H3 F3 g4 o4 r4 => ⟨G3, s3, F3, r4, g2.trans g4, k1.trans g4.gg, o2.trans o4, p1⟩
              | ct => simp only [eb] at p1; exact fun σ' G3 H3 F3 g4 o4 r4 => ⟨G3, s3, F3, r4, g2.trans g4, k1.trans g4.gg, o2.trans o4, p1⟩
              | bk =>
                simp only [eb] at p1
                intro σ' G3 H3 F3 g4 o4 r4
                obtain ⟨F4, r6, hf4⟩ := r4.popN hd
                exact p1 σ' G3 H3 F4 ((g2.trans g4).less hf4) (o2.trans o4) r6
              | rt t =>
                simp only [eb] at p1
                intro v σ' G3 H3 F3 g4 o4 r4
                obtain ⟨F4, r6, hf4⟩ := (r4.rotB hd).popN hd
                exact p1 v σ' G3 H3 F4 ((g2.trans g4).less hf4) (o2.trans o4) r6
          · rw [if_neg hj] at p1
            exact p1.elim
        · have ei : i = tv.length := by omega
          subst ei
          refine .inl ⟨⟨tv, sq, Nat.le_refl _⟩, ?_⟩
          rw [List.drop_length, hn, List.drop_length] at r1
          rw [hn, List.drop_length] at p1
          exact p1 σ1 G1 H1 F1 g1 o1 r1
      · simp only [hl, if_false] at p
        exact p.elim
end
end S

namespace S
open PySem L2
/-! ### enumerate(zip(text, text)) by data -/
section
variable {K : PySem.W.Frag} {G : Hp} {σ : L2.St} {tas : TA} {E : L2.St → XK} {ms : MA}
theorem dw_enumZipS {k l : List Nat} : DW K G (ItezS (mkS k) (mkS l)) (min k.length l.length) (fun i => .tuple [.int (i : Nat), .tuple [.str (sg (k.getD i 0)), .str (sg (l.getD i 0))]]) where
  goes := fun i H hi _ => by show i < (mkS k).cps.size ∧ i < (mkS l).cps.size; rw [mkS_size, mkS_size]; omega
  stops := fun H _ => by show min k.length l.length ≤ (mkS k).cps.size ∧ min k.length l.length ≤ (mkS l).cps.size ∧ (min k.length l.length = (mkS k).cps.size ∨ min k.length l.length = (mkS l).cps.size); rw [mkS_size, mkS_size]; omega
  yields := fun i H x H' G1 hi g1 gh y => by
    obtain ⟨T, T2, c1, c2, rfl, hT, hT2, hne, rfl, h1, h2⟩ := y
    have e1 : k.getD i 0 = c1 := by rw [← mkS_getD, Array.getD_eq_getD_getElem?, h1]; rfl
    have e2 : l.getD i 0 = c2 := by rw [← mkS_getD, Array.getD_eq_getD_getElem?, h2]; rfl
    rw [e1, e2]
    have x1 := Ext.new (M := []) (o := .tup [.str ⟨#[c1]⟩, .str ⟨#[c2]⟩]) gh hT
    have hT2' : upd H T (.tup [.str ⟨#[c1]⟩, .str ⟨#[c2]⟩]) T2 = none := by rw [upd_ne (Ne.symm hne)]; exact hT2
    have x2 := Ext.new (M := []) (o := .tup [.int (i : Nat), .ref T]) x1.gh hT2'
    refine ⟨_, x1.trans x2 (fun z hz => .inl hz), ?_⟩
    have k1 : upd (upd G1 T (.tup [.str ⟨#[c1]⟩, .str ⟨#[c2]⟩])) T2 (.tup [.int (i : Nat), .ref T]) T = some (.tup [.str ⟨#[c1]⟩, .str ⟨#[c2]⟩]) := by rw [upd_ne hne, upd_same]
    exact .tup (.inl upd_same) (.cons (.int _) (.cons (.tup (.inl k1) (.cons (.str _) (.cons (.str _) .nil))) .nil))
def cEnumZipS : List PyData → Option (List PyData)
  | [.str a, .str b] => some (enumD 0 (zipD (signs a) (signs b)))
  | _ => none
theorem si_enumZipS (ha : SAr K E tas ms) : SI K E (iEnumZipS tas) (iArgs ms cEnumZipS) := si_args ha fun G H ws ds ls R' gh hd z q => by
  unfold cEnumZipS at z
  split at z
  · next a b =>
    cases z
    obtain ⟨v, w, rfl, h1, h2⟩ := dts2 hd
    rw [dt_str h1, dt_str h2]
    refine ⟨a, b, rfl, q _ ?_⟩
    have w := dw_enumZipS (K := K) (G := G) (k := a.cps.toList) (l := b.cps.toList)
    rw [mkS_cps, mkS_cps] at w
    refine w.eq (by rw [enumD_len, zipD_len]; simp [signs]) fun i hi => ?_
    rw [enumD_at (by rw [zipD_len]; simpa [signs] using hi), zipD_at (by simpa [signs] using hi), Nat.zero_add]
    have h1 : i < a.cps.toList.length := by omega
    have h2 : i < b.cps.toList.length := by omega
    simp only [signs, List.getD_eq_getElem?_getD, List.getElem?_map, sg]
    simp at h1 h2
    simp [h1, h2]
  · cases z
@[simp] theorem cEnumZipS_s {x y : Str} : cEnumZipS [.str x, .str y] = some (enumD 0 (zipD (signs x) (signs y))) := rfl
end
end S

namespace S
open PySem L2
/-- a, b, c = (e, f, g) -/
def sPar3 (i j l : Nat) (ms : MA) : MS := fun s => (ms s).bind fun us s => match tmsOnly us with
  | some [x, y, z] => if i < s.length ∧ j < s.length ∧ l < s.length then .ok .nx (((s.set i (some x)).set j (some y)).set l (some z)) else .bad
  | _ => .bad
section
variable {K : PySem.W.Frag} {E : L2.St → XK} {W : List Nat} {tas : TA} {ms : MA}
theorem ss_Par3 {i j l : Nat} (ha : SAr K E tas ms) (hi : i ∈ W) (hj : j ∈ W) (hl : l ∈ W) : SS' K E W (tPar3 i j l tas) (sPar3 i j l ms) := fun G H σ s vs ts F D r0 p => by
  refine ha G H σ s vs ts F _ r0 ?_
  unfold sPar3 at p
  cases e : ms s with
  | bad => rw [e] at p; exact p
  | ex x s' => rw [e] at p; exact fun G' H' F' g r' => p σ G' H' F' g .refl r'
  | ok us s' =>
    rw [e] at p
    intro ws tv G' H' F' g aw r'
    simp only [R.bind] at p
    split at p
    · next x y z0 z =>
      obtain ⟨rfl, e2⟩ := tms_aw z aw
      rw [e2] at r'
      have hn := aw.len
      rw [e2] at hn
      split at p
      · next hij =>
        match tv, hn, r', aw with
        | [v, w, u], _, r', aw =>
          refine ⟨v, w, u, rfl, ?_⟩
          obtain ⟨F2, r2, h2⟩ := RS.asg (i := i) r' hij.1
          obtain ⟨F3, r3, h3⟩ := RS.asg (i := j) r2 (by simpa using hij.2.1)
          obtain ⟨F4, r4, h4⟩ := RS.asg (i := l) r3 (by simpa using hij.2.2)
          exact p _ G' H' F4 (((g.less h2).less h3).less h4) (((off_set hi).trans (off_set hj)).trans (off_set hl)) r4
      · exact p.elim
    · exact p.elim
end
end S

namespace S
open PySem L2
theorem p18 : gPow (.int 10) (.int 18) = some (.int 1000000000000000000) := by kernel_rfl
/-- one of five -/
theorem at5 {γ : Type} {a b c d e : γ} {n : Int} (h0 : 0 ≤ n) (h1 : n < 5) : atI [a, b, c, d, e] n = some a ∨ atI [a, b, c, d, e] n = some b ∨ atI [a, b, c, d, e] n = some c ∨ atI [a, b, c, d, e] n = some d ∨ atI [a, b, c, d, e] n = some e := by
  have : n = 0 ∨ n = 1 ∨ n = 2 ∨ n = 3 ∨ n = 4 := by omega
  rcases this with rfl | rfl | rfl | rfl | rfl
  · exact .inl rfl
  · exact .inr (.inl rfl)
  · exact .inr (.inr (.inl rfl))
  · exact .inr (.inr (.inr (.inl rfl)))
  · exact .inr (.inr (.inr (.inr rfl)))
/-- n times m noughts and ones, as trees -/
def bitsT (rows : List (List Int)) : T := .lst (rows.map fun r => .lst (r.map fun b => .d (.int b)))
def isBit (b : Int) : Prop := b = 0 ∨ b = 1
theorem forL_check {γ : Type} {a : MG} {b : MS} {ds : List PyData} (S : γ → Sg) (P : PyData → Bool) (F : T) (g0 : γ)
    (h : ∀ d ∈ ds, ∀ g, ∃ g' g'', a d (S g) = some (S g') ∧ b (S g') = if P d = true then .ok .nx (S g'') else .ok (.rt F) (S g'')) : ∃ g, forL a b ds (S g0) = if ds.all P = true then .ok .nx (S g) else .ok (.rt F) (S g) := by
  induction ds generalizing g0 with
  | nil => exact ⟨g0, rfl⟩
  | cons d ds ih =>
    obtain ⟨g', g'', h1, h2⟩ := h d (by simp) g0
    cases e : P d with
    | true =>
      rw [e, if_pos rfl] at h2
      obtain ⟨g, hg⟩ := ih g'' fun d' m => h d' (by simp [m])
      refine ⟨g, ?_⟩
      rw [forL_nx h1 h2, hg, List.all_cons, e, Bool.true_and]
    | false =>
      rw [e, if_neg (by simp)] at h2
      refine ⟨g'', ?_⟩
      rw [forL_rt h1 h2, List.all_cons, e, Bool.false_and, if_neg (by simp)]
theorem lcP_map {γ : Type} {ws : List Nat} {a : WG} {c : FT} {e : FP} {w : Vw} {l : List γ} (k f : γ → PyData) (h : ∀ x ∈ l, ∃ w1, a (k x) (wipeW w ws) = some w1 ∧ c w1 = some true ∧ e w1 = some (f x)) : lcP ws a c e w (l.map k) = some (l.map f) := by
  induction l with
  | nil => rfl
  | cons d ds ih =>
    obtain ⟨w1, h1, h2, h3⟩ := h d (by simp)
    have := ih fun d' m => h d' (by simp [m])
    simp [lcP, h1, h2, h3, this]
@[simp] theorem fLc_eq {it : FI} {ws : List Nat} {a : WG} {c : FT} {e : FP} {w : Vw} : fLc it ws a c e w = (it w).bind fun ds => if ds.length < 100000 then (lcP ws a c e w ds).map .list else none := rfl
@[simp] theorem fiOf_eq {a : FP} {cv : PyData → Option (List PyData)} {w : Vw} : fiOf a cv w = (a w).bind cv := rfl
@[simp] theorem fiArgs_eq {as : FA} {cv : List PyData → Option (List PyData)} {w : Vw} : fiArgs as cv w = (as w).bind cv := rfl
@[simp] theorem wN_eq {i : Nat} {d : PyData} {w : Vw} : wN i d w = if i < w.length then some (w.set i (some d)) else none := rfl
@[simp] theorem wT_eq {n : Nat} {as : WGs} {ds : List PyData} {w : Vw} : wT n as (.tuple ds) w = if ds.length = n then as ds w else none := rfl
@[simp] theorem wCs_eq {a : WG} {as : WGs} {d : PyData} {ds : List PyData} {w : Vw} : wCs a as (d :: ds) w = (a d w).bind fun w => as ds w := rfl
@[simp] theorem wNl_eq {w : Vw} : wNl [] w = some w := rfl
@[simp] theorem wipeW_nil {w : Vw} : wipeW w [] = w := rfl
@[simp] theorem wipeW_cons {w : Vw} {v : Nat} {vs : List Nat} : wipeW w (v :: vs) = (wipeW w vs).set v none := rfl
theorem gAll_bools {γ : Type} {f : γ → Bool} {l : List γ} : gAll [.list (l.map fun x => .bool (f x))] = some (.bool (l.all f)) := by
  have e : (l.map fun x => PyData.bool (f x)) = (l.map f).map .bool := by simp
  show (boolsOf _).map _ = _
  rw [e, boolsOf_map]
  simp [List.all_map]
abbrev SIXT : Str := "0123456789abcdef"
def hexL : List Nat := SIXT.cps.toList
def hx (v : Nat) : Nat := hexL.getD v 48
def isB (o : Option PyData) (b : Bool) : Bool := match o with
  | some (.bool c) => c == b
  | _ => false
theorem isB_eq {o : Option PyData} {b : Bool} (h : isB o b = true) : o = some (.bool b) := by
  unfold isB at h
  split at h
  · rw [beq_iff_eq] at h; rw [h]
  · cases h
/-- a row of sums as a text -/
def rowS (vs : List Nat) : Str := mkS (vs.map hx)
def adjB (vs : List Nat) : Bool := (vs.zip (vs.tail)).all fun p => p.1.testBit 1 == p.2.testBit 3
def agrB (us : Option (List Nat)) (vs : List Nat) : Bool := adjB vs && match us with
  | none => true
  | some us => (us.zip vs).all fun p => p.1.testBit 2 == p.2.testBit 0
def aheadD : Option (List Nat) → PyData
  | none => .none
  | some us => .str (rowS us)
theorem signs_row (vs : List Nat) : signs (rowS vs) = vs.map fun v => .str (sg (hx v)) := by
  unfold rowS
  rw [signs_mk, List.map_map]
  rfl
theorem cut1 (l : List Nat) : cutN l (some 1) none = l.tail := by
  unfold cutN
  cases l with
  | nil => rfl
  | cons a l => simp [HT.sIx]
theorem zipD_map {γ δ : Type} {f : γ → PyData} {g : δ → PyData} {l : List γ} {m : List δ} : zipD (l.map f) (m.map g) = (l.zip m).map fun p => .tuple [f p.1, g p.2] := by
  unfold zipD
  rw [List.zip_map, List.map_map]
  rfl
@[simp] theorem fSlS_eq {a : FP} {lo hi : FO} {w : Vw} : fSlS a lo hi w = (a w).bind fun x => (lo w).bind fun l => (hi w).bind fun h => (match x with | .str z => if z.cps.toList.length ≤ 10000 then some (.str (mkS (cutN z.cps.toList l h))) else none | _ => none) := rfl
theorem rowS_cps (vs : List Nat) : (rowS vs).cps.toList = vs.map hx := by simp [rowS, mkS]
theorem signs_cps (l : List Nat) : signs (mkS (l.map hx)) = l.map fun v => .str (sg (hx v)) := signs_row l
def isiD (Ty : String) (x : PyData) : Option PyData := if isObjD x then none else (kitB (tyD x) Ty).map .bool
@[simp] theorem fIsi_eq {Ty : String} {a : FP} {w : Vw} : fIsi Ty a w = (a w).bind (isiD Ty) := rfl
def isListD : PyData → Bool
  | .list _ => true
  | _ => false
def isStrD : PyData → Bool
  | .str _ => true
  | _ => false
theorem isi_list {x : PyData} (h : isObjD x = false) : isiD "list" x = some (.bool (isListD x)) := by
  unfold isiD
  rw [h]
  cases x <;> kernel_rfl
theorem isi_str {x : PyData} (h : isObjD x = false) : isiD "str" x = some (.bool (isStrD x)) := by
  unfold isiD
  rw [h]
  cases x <;> kernel_rfl
theorem isi_int {n : Int} : isiD "int" (.int n) = some (.bool true) := by kernel_rfl
theorem isi_bool {n : Int} : isiD "bool" (.int n) = some (.bool false) := by kernel_rfl
def rowOk (n : Nat) : PyData → Bool
  | .str z => decide (z.cps.toList.length = n) && z.cps.toList.all fun c => decide (c ∈ hexL)
  | _ => false
def okR : PyData → Bool
  | .list ds => (decide (2 ≤ ds.length) && decide (ds.length ≤ 12)) && ds.all (rowOk ds.length)
  | _ => false
def niceX (x : PyData) : Prop := isObjD x = false ∧ ∀ z, x = .str z → z.cps.toList.length ≤ 10000
def niceD (d : PyData) : Prop := isObjD d = false ∧ ∀ ds, d = .list ds → ∀ x ∈ ds, niceX x
theorem signOf_sg {c : Nat} : signOf (sg c) = some c := rfl
theorem gInS_sg {c : Nat} {z : Str} {b : Bool} : gInS b (.str (sg c)) (.str z) = some (.bool (if b then !decide (c ∈ z.cps.toList) else decide (c ∈ z.cps.toList))) := rfl
@[simp] theorem gLen_s {z : Str} (h : z.cps.toList.length ≤ 10000) : gLen [.str z] = some (.int (z.cps.toList.length : Nat)) := by
  have e : z.length = z.cps.toList.length := by simp [Str.length]
  show (if z.length ≤ 16777216 then some (PyData.int (z.length : Nat)) else none) = _
  rw [e, if_pos (by omega)]
theorem signs_map (z : Str) : signs z = z.cps.toList.map fun c => .str (sg c) := rfl
/-- the sum that a sign tells -/
def hv (c : Nat) : Nat := hexL.idxOf c
theorem hv_hx : ∀ v : Fin 16, hv (hx v) = v ∧ hx v ∈ hexL := by decide +kernel
theorem hx_hv_all : (hexL.all fun c => decide (hx (hv c) = c ∧ hv c < 16)) = true := by decide +kernel
theorem hx_hv {c : Nat} (h : c ∈ hexL) : hx (hv c) = c ∧ hv c < 16 := by
  have := List.all_eq_true.mp hx_hv_all c h
  simpa using this
def rowsD (vss : List (List Nat)) : PyData := .list (vss.map fun vs => .str (rowS vs))
def sqV (vss : List (List Nat)) : Prop := 2 ≤ vss.length ∧ vss.length ≤ 12 ∧ ∀ vs ∈ vss, vs.length = vss.length ∧ ∀ v ∈ vs, v < 16
theorem rowOk_iff {n : Nat} {x : PyData} (h : rowOk n x = true) : ∃ vs, x = .str (rowS vs) ∧ vs.length = n ∧ ∀ v ∈ vs, v < 16 := by
  cases x with
  | str z =>
    simp only [rowOk, Bool.and_eq_true, decide_eq_true_eq, List.all_eq_true] at h
    refine ⟨z.cps.toList.map hv, ?_, by simpa using h.1, fun v m => ?_⟩
    · have e : z.cps.toList.map (hx ∘ hv) = z.cps.toList := by
        conv => { rhs; rw [← List.map_id z.cps.toList] }
        exact List.map_congr_left fun c hc => (hx_hv (h.2 c hc)).1
      rw [rowS, List.map_map, e, mkS_cps]
    · obtain ⟨c, hc, rfl⟩ := List.mem_map.mp m
      exact (hx_hv (h.2 c hc)).2
  | _ => cases h
theorem rowOk_row {n : Nat} {vs : List Nat} (h1 : vs.length = n) (h2 : ∀ v ∈ vs, v < 16) : rowOk n (.str (rowS vs)) = true := by
  simp only [rowOk, rowS_cps, Bool.and_eq_true, decide_eq_true_eq, List.all_eq_true]
  refine ⟨by simpa using h1, fun c hc => ?_⟩
  obtain ⟨v, hv', rfl⟩ := List.mem_map.mp hc
  exact (hv_hx ⟨v, h2 v hv'⟩).2
theorem okR_iff {d : PyData} (h : okR d = true) : ∃ vss, d = rowsD vss ∧ sqV vss := by
  cases d with
  | list ds =>
    simp only [okR, Bool.and_eq_true, decide_eq_true_eq, List.all_eq_true] at h
    obtain ⟨⟨h1, h2⟩, h3⟩ := h
    have key : ∀ (ds : List PyData) (n : Nat), (∀ x ∈ ds, rowOk n x = true) → ∃ vss : List (List Nat), ds = vss.map (fun vs => .str (rowS vs)) ∧ ∀ vs ∈ vss, vs.length = n ∧ ∀ v ∈ vs, v < 16 := by
      intro ds n
      induction ds with
      | nil => intro _; exact ⟨[], rfl, by simp⟩
      | cons x ds ih =>
        intro h
        obtain ⟨vs, rfl, a, b⟩ := rowOk_iff (h x (by simp))
        obtain ⟨vss, rfl, k⟩ := ih fun y m => h y (by simp [m])
        refine ⟨vs :: vss, rfl, fun ws m => ?_⟩
        rcases List.mem_cons.mp m with rfl | m
        · exact ⟨a, b⟩
        · exact k ws m
    obtain ⟨vss, rfl, k⟩ := key ds ds.length h3
    refine ⟨vss, rfl, ?_⟩
    simp only [List.length_map] at h1 h2 k
    exact ⟨h1, h2, k⟩
  | _ => cases h
theorem okR_rows {vss : List (List Nat)} (h : sqV vss) : okR (rowsD vss) = true := by
  simp only [okR, rowsD, Bool.and_eq_true, decide_eq_true_eq, List.all_eq_true, List.length_map]
  refine ⟨⟨h.1, h.2.1⟩, fun x m => ?_⟩
  obtain ⟨vs, hvs, rfl⟩ := List.mem_map.mp m
  obtain ⟨a, b⟩ := h.2.2 vs hvs
  exact rowOk_row a b
theorem nice_row {vs : List Nat} (h : vs.length ≤ 10000) : niceX (.str (rowS vs)) := ⟨rfl, fun z e => by cases e; rw [rowS_cps]; simpa using h⟩
theorem nice_rows {vss : List (List Nat)} (h : sqV vss) : niceD (rowsD vss) := ⟨rfl, fun ds e x m => by
  cases e
  obtain ⟨vs, hvs, rfl⟩ := List.mem_map.mp m
  have := (h.2.2 vs hvs).1
  exact nice_row (by have := h.2.1; omega)⟩
/-- all rows agree: each by itself, and with the one ahead -/
def tiesB (vss : List (List Nat)) : Bool := ((none :: vss.map some).zip vss).all fun p => agrB p.1 p.2
theorem intHead_rows {vss : List (List Nat)} (h : vss ≠ []) : intHead (vss.map fun vs => PyData.str (rowS vs)) = false := by
  cases vss with
  | nil => exact absurd rfl h
  | cons a l => rfl
def newR (us : List AR) (s2 : Sg) (r : R T) : R T := match r with
  | .ok (.d .none) (some o :: as) => .ok o (gbA us as s2)
  | .ex x (_ :: as) => .ex x (gbA us as s2)
  | _ => .bad
def newL (C : Addr) (mf : MF) (us : List AR) (o : Option (List T × Sg)) : R T := match o with
  | none => .bad
  | some p => newR us p.2 (mf (.obj C [] :: p.1))
def newK (C : Addr) (mf : MF) (r : R (List AR)) : R T := r.bind fun us s => newL C mf us (ldA us s)
section
variable {s : Sg} {C : Addr} {mf : MF} {t : T} {x : PyData} {i : Nat}
@[simp] theorem mNew_eq {ms : MA} : mNew C mf ms s = newK C mf (ms s) := rfl
@[simp] theorem newK_ok {us : List AR} : newK C mf (.ok us s) = newL C mf us (ldA us s) := rfl
@[simp] theorem newK_ex : newK C mf (.ex x s) = .ex x s := rfl
@[simp] theorem newL_some {us : List AR} {as : List T} : newL C mf us (some (as, s)) = newR us s (mf (.obj C [] :: as)) := rfl
@[simp] theorem newR_ok {us : List AR} {as : Sg} : newR us s (.ok (.d .none) (some t :: as)) = .ok t (gbA us as s) := rfl
@[simp] theorem newR_ex {us : List AR} {as : Sg} {o : Option T} : newR us s (.ex x (o :: as)) = .ex x (gbA us as s) := rfl
def methK (C : Addr) (m : Str) (mf : MF) (i : Nat) (o : Option (Option T)) (r : R (List AR)) : R T := match o with
  | some (some t) => if isC C m t then callK mf (brK i o r) else .bad
  | _ => .bad
@[simp] theorem mMethB_eq {m : Str} {ms : MA} : mMethB C m mf i ms s = methK C m mf i s[i]? (ms s) := by
  unfold mMethB methK
  cases h : s[i]? with
  | none => rfl
  | some o =>
    cases o with
    | none => rfl
    | some t => simp [h]
@[simp] theorem methK_some {m : Str} {r : R (List AR)} : methK C m mf i (some (some t)) r = if isC C m t then callK mf (brK i (some (some t)) r) else .bad := rfl
@[simp] theorem isC_obj {m : Str} {fs : List (Str × T)} : isC C m (.obj C fs) = !(fs.map (·.1)).contains m := by simp [isC, clsT]
def tryK (tab : List (Addr × Bool)) (i k : Nat) (r : R Fl) : R Fl := match r with
  | .ex x s1 => (match (excD x).bind fun C => valG tab C with
    | some true => if i < s1.length ∧ k < s1.length ∧ i ≠ k then .ok .nx ((s1.set i none).set k (some (.d x))) else .bad
    | some false => .ex x s1
    | none => .bad)
  | r => r
@[simp] theorem sTryKeep_eq {tab : List (Addr × Bool)} {k : Nat} {b : MS} : sTryKeep tab i k b s = tryK tab i k (b s) := rfl
@[simp] theorem tryK_nx {tab : List (Addr × Bool)} {k : Nat} : tryK tab i k (.ok .nx s) = .ok .nx s := rfl
@[simp] theorem tryK_ex {tab : List (Addr × Bool)} {k : Nat} : tryK tab i k (.ex x s) = (match (excD x).bind fun C => valG tab C with
    | some true => if i < s.length ∧ k < s.length ∧ i ≠ k then .ok .nx ((s.set i none).set k (some (.d x))) else .bad
    | some false => .ex x s
    | none => .bad) := rfl
@[simp] theorem excD_exc : excD (dExc C) = some C := rfl
@[simp] theorem valG_one {b : Bool} : valG [(C, b)] C = some b := by simp [valG_cons]
@[simp] theorem fIsX_eq {tab : List (Addr × Bool)} {a : FP} {w : Vw} : fIsX tab a w = (a w).bind fun x => (excD x).bind fun C => (valG tab C).map .bool := rfl
@[simp] theorem fieldsD_obj {ds : List (PyData × PyData)} : fieldsD (dObj C ds) = some (C, ds) := rfl
@[simp] theorem fFld_eq {f : Str} {a : FP} {w : Vw} : fFld C f a w = (a w).bind fun x => (fieldsD x).bind fun p => if p.1 = C then lookD f p.2 else none := rfl
end
theorem immL_strs {γ : Type} {f : γ → Str} {l : List γ} : isImmL (l.map fun x => .str (f x)) = true := by
  induction l with
  | nil => simp
  | cons a l ih => simp [ih]
def goodD (d : PyData) : Prop := ∃ vss, d = rowsD vss ∧ sqV vss ∧ tiesB vss = true
def cV (vss : List (List Nat)) (r c : Nat) : Nat := (vss.getD r []).getD c 0
theorem cV_lt {vss : List (List Nat)} (h : sqV vss) (r c : Nat) : cV vss r c < 16 := by
  unfold cV
  rw [List.getD_eq_getElem?_getD, List.getD_eq_getElem?_getD]
  cases e : vss[r]? with
  | none => simp
  | some vs =>
    have hm := (h.2.2 vs (List.mem_of_getElem? e)).2
    simp only [Option.getD_some]
    cases e2 : vs[c]? with
    | none => simp
    | some v => exact hm v (List.mem_of_getElem? e2)
theorem rows_ix {vss : List (List Nat)} {r : Nat} (h : r < vss.length) : gIxL (rowsD vss) (.int (r : Int)) = some (.str (rowS (vss.getD r []))) := by
  show atI (vss.map fun vs => PyData.str (rowS vs)) (r : Int) = _
  rw [atI_map, atI_get h]
  simp [h]
theorem row_ix {vs : List Nat} {c : Nat} (h : c < vs.length) (hl : vs.length ≤ 10000) : gIxS (.str (rowS vs)) (.int (c : Int)) = some (.str (sg (hx (vs.getD c 0)))) := by
  have e : (rowS vs).length = vs.length := by simp [Str.length, rowS, mkS]
  show (if (rowS vs).length ≤ 16777216 then (atI (rowS vs).cps.toList (c : Int)).map (fun c => PyData.str ⟨#[c]⟩) else none) = _
  rw [e, if_pos (by omega), rowS_cps, atI_map, atI_get h]
  simp [h, sg]
def isIn1 (o : Option PyData) (n : Int) : Bool := match o with
  | some (.int c) => c == n
  | _ => false
theorem isIn1_eq {o : Option PyData} {n : Int} (h : isIn1 o n = true) : o = some (.int n) := by
  unfold isIn1 at h
  split at h
  · rw [beq_iff_eq] at h; rw [h]
  · cases h
theorem hex_all : ∀ v : Fin 16, isIn1 (gSIndex (.str SIXT) (.str (sg (hx v)))) (v.val : Nat) = true := by decide +kernel
theorem hex_ix {v : Nat} (h : v < 16) : gSIndex (.str SIXT) (.str (sg (hx v))) = some (.int (v : Nat)) := isIn1_eq (hex_all ⟨v, h⟩)
section
variable {vss : List (List Nat)} {r c : Nat}
theorem row_len (h : sqV vss) (hr : r < vss.length) : (vss.getD r []).length = vss.length := by
  rw [List.getD_eq_getElem?_getD, List.getElem?_eq_getElem hr]
  exact (h.2.2 _ (List.getElem_mem hr)).1
theorem cell_at (h : sqV vss) (hr : r < vss.length) (hc : c < vss.length) : op2 gSIndex (some (.str SIXT)) (op2 gIxS (gIxL (rowsD vss) (.int (r : Int))) (some (.int (c : Int)))) = some (.int (cV vss r c : Nat)) := by
  have hl := row_len h hr
  have := h.2.1
  rw [rows_ix hr, op2_some, row_ix (by omega) (by omega), op2_some]
  exact hex_ix (cV_lt h r c)
end
def okC (vss : List (List Nat)) (r c : Nat) : Bool := (!decide (c + 1 < vss.length) || cV vss r c / 2 % 2 == cV vss r (c + 1) / 8) && (!decide (r + 1 < vss.length) || cV vss r c / 4 % 2 == cV vss (r + 1) c % 2)
def lawB (vss : List (List Nat)) : Bool := (List.range vss.length).all fun r => (List.range vss.length).all fun c => okC vss r c
theorem all_range {n : Nat} {P : PyData → Bool} : (rangeD 0 (n : Int)).all P = (List.range n).all fun i => P (.int (i : Nat)) := by
  unfold rangeD
  rw [List.all_map, Int.sub_zero, Int.toNat_natCast]
  congr 1
  funext i
  simp [Function.comp]
theorem mem_range {n : Nat} {d : PyData} (h : d ∈ rangeD 0 (n : Int)) : ∃ i : Nat, d = .int (i : Nat) ∧ i < n := by
  unfold rangeD at h
  obtain ⟨i, hi, rfl⟩ := List.mem_map.mp h
  rw [Int.sub_zero, Int.toNat_natCast, List.mem_range] at hi
  exact ⟨i, by simp, hi⟩
def iOfD : PyData → Nat
  | .int i => i.toNat
  | _ => 0
theorem zall {γ δ : Type} {l : List γ} {m : List δ} {P : γ × δ → Bool} : (l.zip m).all P = true ↔ ∀ (i : Nat) (h1 : i < l.length) (h2 : i < m.length), P (l[i], m[i]) = true := by
  rw [List.all_eq_true]
  constructor
  · intro h i h1 h2
    have hz : i < (l.zip m).length := by rw [List.length_zip]; omega
    have := h _ (List.getElem_mem hz)
    rwa [List.getElem_zip] at this
  · intro h p hp
    obtain ⟨i, hi, rfl⟩ := List.getElem_of_mem hp
    rw [List.length_zip] at hi
    rw [List.getElem_zip]
    exact h i (by omega) (by omega)
theorem getD_at {γ : Type} {l : List γ} {d : γ} {i : Nat} (h : i < l.length) : l.getD i d = l[i] := by
  rw [List.getD_eq_getElem?_getD, List.getElem?_eq_getElem h]; rfl
theorem adj_iff {vs : List Nat} (h : ∀ v ∈ vs, v < 16) : adjB vs = true ↔ ∀ c, c + 1 < vs.length → vs.getD c 0 / 2 % 2 = vs.getD (c + 1) 0 / 8 := by
  unfold adjB
  rw [zall]
  constructor
  · intro k c hc
    have := k c (by omega) (by rw [List.length_tail]; omega)
    rw [List.getElem_tail, beq_iff_eq, Nat.testBit_eq_decide_div_mod_eq, Nat.testBit_eq_decide_div_mod_eq, decide_eq_decide] at this
    have h2 := h _ (List.getElem_mem hc)
    rw [getD_at (by omega), getD_at hc]
    simp only [Nat.reducePow] at this
    omega
  · intro k c h1 h2
    rw [List.length_tail] at h2
    have := k c (by omega)
    have h3 := h _ (List.getElem_mem (show c + 1 < vs.length by omega))
    rw [getD_at (by omega), getD_at (by omega)] at this
    rw [List.getElem_tail, beq_iff_eq, Nat.testBit_eq_decide_div_mod_eq, Nat.testBit_eq_decide_div_mod_eq, decide_eq_decide]
    simp only [Nat.reducePow]
    omega
theorem dn_iff {us vs : List Nat} (e : us.length = vs.length) : ((us.zip vs).all fun p => p.1.testBit 2 == p.2.testBit 0) = true ↔ ∀ c, c < vs.length → us.getD c 0 / 4 % 2 = vs.getD c 0 % 2 := by
  rw [zall]
  constructor
  · intro k c hc
    have := k c (by omega) hc
    rw [beq_iff_eq, Nat.testBit_eq_decide_div_mod_eq, Nat.testBit_eq_decide_div_mod_eq, decide_eq_decide] at this
    rw [getD_at (by omega), getD_at hc]
    simp only [Nat.reducePow, Nat.div_one] at this
    omega
  · intro k c h1 h2
    have := k c (by omega)
    rw [getD_at (by omega), getD_at (by omega)] at this
    rw [beq_iff_eq, Nat.testBit_eq_decide_div_mod_eq, Nat.testBit_eq_decide_div_mod_eq, decide_eq_decide]
    simp only [Nat.reducePow, Nat.div_one]
    omega
theorem law_iff {vss : List (List Nat)} : lawB vss = true ↔ ∀ r, r < vss.length → ∀ c, c < vss.length → (c + 1 < vss.length → cV vss r c / 2 % 2 = cV vss r (c + 1) / 8) ∧ (r + 1 < vss.length → cV vss r c / 4 % 2 = cV vss (r + 1) c % 2) := by
  unfold lawB
  rw [List.all_eq_true]
  simp only [List.mem_range, List.all_eq_true]
  refine forall_congr' fun r => forall_congr' fun _ => forall_congr' fun c => forall_congr' fun _ => ?_
  unfold okC
  rw [Bool.and_eq_true]
  refine and_congr ?_ ?_
  · by_cases q : c + 1 < vss.length <;> simp [q]
  · by_cases q : r + 1 < vss.length <;> simp [q]
theorem ties_iff {vss : List (List Nat)} (h : sqV vss) : tiesB vss = true ↔ (∀ r, r < vss.length → adjB (vss.getD r []) = true) ∧ ∀ r, r + 1 < vss.length → (((vss.getD r []).zip (vss.getD (r + 1) [])).all fun p => p.1.testBit 2 == p.2.testBit 0) = true := by
  unfold tiesB
  rw [zall]
  constructor
  · intro k
    refine ⟨fun r hr => ?_, fun r hr => ?_⟩
    · have := k r (by simp; omega) hr
      unfold agrB at this
      rw [Bool.and_eq_true] at this
      rw [getD_at hr]
      exact this.1
    · have := k (r + 1) (by simp; omega) hr
      unfold agrB at this
      rw [Bool.and_eq_true] at this
      rw [getD_at hr, getD_at (by omega)]
      simpa using this.2
  · rintro ⟨k1, k2⟩ r h1 h2
    unfold agrB
    rw [Bool.and_eq_true]
    refine ⟨by have := k1 r h2; rwa [getD_at h2] at this, ?_⟩
    cases r with
    | zero => rfl
    | succ r =>
      have := k2 r h2
      rw [getD_at h2, getD_at (by omega)] at this
      simpa using this
theorem law_ties {vss : List (List Nat)} (h : sqV vss) : lawB vss = tiesB vss := by
  rw [Bool.eq_iff_iff, law_iff, ties_iff h]
  have hrow : ∀ r, r < vss.length → (vss.getD r []).length = vss.length ∧ ∀ v ∈ vss.getD r [], v < 16 := fun r hr => by
    rw [getD_at hr]
    exact h.2.2 _ (List.getElem_mem hr)
  constructor
  · intro k
    refine ⟨fun r hr => ?_, fun r hr => ?_⟩
    · rw [adj_iff (hrow r hr).2]
      intro c hc
      rw [(hrow r hr).1] at hc
      exact (k r hr c (by omega)).1 hc
    · rw [dn_iff (by rw [(hrow r (by omega)).1, (hrow (r + 1) hr).1])]
      intro c hc
      rw [(hrow (r + 1) hr).1] at hc
      exact (k r (by omega) c hc).2 hr
  · rintro ⟨k1, k2⟩ r hr c hc
    refine ⟨fun q => ?_, fun q => ?_⟩
    · have := k1 r hr
      rw [adj_iff (hrow r hr).2] at this
      exact this c (by rw [(hrow r hr).1]; omega)
    · have := k2 r q
      rw [dn_iff (by rw [(hrow r (by omega)).1, (hrow (r + 1) q).1])] at this
      exact this c (by rw [(hrow (r + 1) q).1]; omega)
theorem lcP_filter {γ : Type} {ws : List Nat} {a : WG} {c : FT} {e : FP} {w : Vw} {l : List γ} (k f : γ → PyData) (P : γ → Bool) (h : ∀ x ∈ l, ∃ w1, a (k x) (wipeW w ws) = some w1 ∧ c w1 = some (P x) ∧ e w1 = some (f x)) : lcP ws a c e w (l.map k) = some ((l.filter P).map f) := by
  induction l with
  | nil => rfl
  | cons d ds ih =>
    obtain ⟨w1, h1, h2, h3⟩ := h d (by simp)
    have := ih fun d' m => h d' (by simp [m])
    cases q : P d <;> simp [lcP, h1, h2, h3, this, q]
theorem neD_nil {ds : List PyData} (h : SeqAt.shaped (.list ds) = true) : gNeD (.list ds) (.list []) = some (.bool (!ds.isEmpty)) := by
  have e0 : SeqAt.shaped (.list []) = true := by decide +kernel
  unfold gNeD
  rw [if_pos ⟨h, e0⟩]
  cases ds <;> simp [PyData.eqv, PyData.eqvAll]
def unX : PyData → List Nat
  | .str z => z.cps.toList.map hv
  | _ => []
def unD : PyData → List (List Nat)
  | .list ds => ds.map unX
  | _ => []
theorem un_row {vs : List Nat} (h : ∀ v ∈ vs, v < 16) : unX (.str (rowS vs)) = vs := by
  show (rowS vs).cps.toList.map hv = vs
  rw [rowS_cps, List.map_map]
  conv => { rhs; rw [← List.map_id vs] }
  exact List.map_congr_left fun v hm => (hv_hx ⟨v, h v hm⟩).1
theorem un_rows {vss : List (List Nat)} (h : sqV vss) : unD (rowsD vss) = vss := by
  show (vss.map fun vs => PyData.str (rowS vs)).map unX = vss
  rw [List.map_map]
  conv => { rhs; rw [← List.map_id vss] }
  exact List.map_congr_left fun vs hm => un_row (h.2.2 vs hm).2
/-- signs that are signs -/
def vldD (d : PyData) : Prop := ∀ ds, d = .list ds → ∀ x ∈ ds, ∀ z, x = .str z → ∀ c ∈ z.cps.toList, c < 1114112
/-- m rows of n bits -/
def okBits (m n : Nat) (rows : List (List Int)) : Prop := rows.length = m ∧ ∀ r ∈ rows, r.length = n ∧ ∀ b ∈ r, isBit b
theorem dataL_mapd {γ : Type} {f : γ → PyData} {l : List γ} : T.dataL (l.map fun x => .d (f x)) = l.map f := by
  induction l with
  | nil => simp
  | cons a l ih => simp [ih]
theorem bits_data {rows : List (List Int)} : (bitsT rows).data = .list (rows.map fun r => .list (r.map .int)) := by
  unfold bitsT
  rw [data_lst]
  congr 1
  induction rows with
  | nil => simp
  | cons a l ih => rw [List.map_cons, dataL_cons, ih, data_lst, dataL_mapd]; rfl
def bAt (rows : List (List Int)) (r c : Nat) : Int := (rows.getD r []).getD c 0
theorem bAt_bit {m n r c : Nat} {rows : List (List Int)} (h : okBits m n rows) : isBit (bAt rows r c) := by
  unfold bAt
  rw [List.getD_eq_getElem?_getD, List.getD_eq_getElem?_getD]
  cases e : rows[r]? with
  | none => exact .inl (by simp)
  | some vs =>
    have hm := (h.2 vs (List.mem_of_getElem? e)).2
    simp only [Option.getD_some]
    cases e2 : vs[c]? with
    | none => exact .inl (by simp)
    | some v => exact hm v (List.mem_of_getElem? e2)
theorem bAt_ix {m n r c : Nat} {rows : List (List Int)} (h : okBits m n rows) (hr : r < m) (hc : c < n) : op2 gIxL (gIxL (.list (rows.map fun r => .list (r.map .int))) (.int (r : Nat))) (some (.int (c : Nat))) = some (.int (bAt rows r c)) := by
  have h1 : r < rows.length := by rw [h.1]; exact hr
  have h2 : c < (rows[r]).length := by rw [(h.2 _ (List.getElem_mem h1)).1]; exact hc
  rw [gIxL_eq, atI_map, atI_get h1]
  simp only [Option.map_some, op2_some, gIxL_eq]
  rw [atI_map, atI_get h2]
  unfold bAt
  rw [getD_at h1, getD_at h2]
  rfl
def cN (dn ac : List (List Int)) (r c : Nat) : Nat := (bAt dn r c + 2 * bAt ac r (c + 1) + 4 * bAt dn (r + 1) c + 8 * bAt ac r c).toNat
def isSt1 (o : Option PyData) (n : Nat) : Bool := match o with
  | some (.str c) => decide (c = sg n)
  | _ => false
theorem isSt1_eq {o : Option PyData} {n : Nat} (h : isSt1 o n = true) : o = some (.str (sg n)) := by
  unfold isSt1 at h
  split at h
  · rw [decide_eq_true_eq] at h; rw [h]
  · cases h
theorem hexs_all : ∀ v : Fin 16, isSt1 (gIxS (.str SIXT) (.int (v.val : Nat))) (hx v) = true := by decide +kernel
theorem hexs {v : Nat} (h : v < 16) : gIxS (.str SIXT) (.int (v : Nat)) = some (.str (sg (hx v))) := isSt1_eq (hexs_all ⟨v, h⟩)
theorem row_app {vs : List Nat} {v : Nat} (h : vs.length ≤ 10000) : gAddS (.str (rowS vs)) (.str (sg (hx v))) = some (.str (rowS (vs ++ [v]))) := by
  have e : (rowS vs).length = vs.length := by simp [Str.length, rowS, mkS]
  have e2 : (sg (hx v)).length = 1 := rfl
  show (if (rowS vs).length + (sg (hx v)).length ≤ 16777216 then some (PyData.str (rowS vs ++ sg (hx v))) else none) = _
  rw [e, e2, if_pos (by omega)]
  congr 2
  unfold rowS
  rw [List.map_append, ← mkS_app]
  rfl
theorem cN_cast {m n m' n' : Nat} {dn ac : List (List Int)} {r c : Nat} (h1 : okBits m n dn) (h2 : okBits m' n' ac) : ((cN dn ac r c : Nat) : Int) = bAt dn r c + 2 * bAt ac r (c + 1) + 4 * bAt dn (r + 1) c + 8 * bAt ac r c ∧ cN dn ac r c < 16 := by
  have a1 := bAt_bit (r := r) (c := c) h1
  have a2 := bAt_bit (r := r) (c := c + 1) h2
  have a3 := bAt_bit (r := r + 1) (c := c) h1
  have a4 := bAt_bit (r := r) (c := c) h2
  unfold isBit at a1 a2 a3 a4
  unfold cN
  omega
def rowN (dn ac : List (List Int)) (r k : Nat) : List Nat := (List.range k).map fun c => cN dn ac r c
def rowT (vs : List Nat) : T := .d (.str (rowS vs))
def rowsT (vss : List (List Nat)) : T := .lst (vss.map rowT)
def vssN (dn ac : List (List Int)) (n k : Nat) : List (List Nat) := (List.range k).map fun r => rowN dn ac r n
theorem at6 {γ : Type} {a b c d e f : γ} {n : Int} (h0 : 0 ≤ n) (h1 : n < 6) : ∃ z ∈ [a, b, c, d, e, f], atI [a, b, c, d, e, f] n = some z := by
  have : n = 0 ∨ n = 1 ∨ n = 2 ∨ n = 3 ∨ n = 4 ∨ n = 5 := by omega
  rcases this with rfl | rfl | rfl | rfl | rfl | rfl
  · exact ⟨a, by simp, rfl⟩
  · exact ⟨b, by simp, rfl⟩
  · exact ⟨c, by simp, rfl⟩
  · exact ⟨d, by simp, rfl⟩
  · exact ⟨e, by simp, rfl⟩
  · exact ⟨f, by simp, rfl⟩
theorem cV_vss {dn ac : List (List Int)} {n r c : Nat} (hr : r < n) (hc : c < n) : cV (vssN dn ac n n) r c = cN dn ac r c := by
  unfold cV vssN rowN
  rw [getD_at (i := r) (by simpa using hr)]
  simp only [List.getElem_map, List.getElem_range]
  rw [getD_at (by simpa using hc)]
  simp
theorem vss_sq {dn ac : List (List Int)} {n : Nat} (h0 : 2 ≤ n) (hn : n ≤ 12) (h1 : okBits (n + 1) n dn) (h2 : okBits n (n + 1) ac) : sqV (vssN dn ac n n) := by
  refine ⟨by simp [vssN]; omega, by simp [vssN]; omega, fun vs hv => ?_⟩
  unfold vssN at hv
  obtain ⟨r, hr, rfl⟩ := List.mem_map.mp hv
  refine ⟨by simp [rowN, vssN], fun v hm => ?_⟩
  unfold rowN at hm
  obtain ⟨c, hc, rfl⟩ := List.mem_map.mp hm
  exact (cN_cast h1 h2).2
theorem vss_ties {dn ac : List (List Int)} {n : Nat} (h0 : 2 ≤ n) (hn : n ≤ 12) (h1 : okBits (n + 1) n dn) (h2 : okBits n (n + 1) ac) : tiesB (vssN dn ac n n) = true := by
  rw [← law_ties (vss_sq h0 hn h1 h2), law_iff]
  have hl : (vssN dn ac n n).length = n := by simp [vssN]
  rw [hl]
  intro r hr c hc
  refine ⟨fun q => ?_, fun q => ?_⟩
  · rw [cV_vss hr hc, cV_vss hr q]
    have q1 := (cN_cast (r := r) (c := c) h1 h2).1
    have q2 := (cN_cast (r := r) (c := c + 1) h1 h2).1
    have a1 := bAt_bit (r := r) (c := c) h1
    have a2 := bAt_bit (r := r) (c := c + 1) h2
    have a3 := bAt_bit (r := r + 1) (c := c) h1
    have a4 := bAt_bit (r := r) (c := c) h2
    have a5 := bAt_bit (r := r) (c := c + 1) h1
    have a6 := bAt_bit (r := r) (c := c + 1 + 1) h2
    have a7 := bAt_bit (r := r + 1) (c := c + 1) h1
    unfold isBit at a1 a2 a3 a4 a5 a6 a7
    omega
  · rw [cV_vss hr hc, cV_vss q hc]
    have q1 := (cN_cast (r := r) (c := c) h1 h2).1
    have q2 := (cN_cast (r := r + 1) (c := c) h1 h2).1
    have a1 := bAt_bit (r := r) (c := c) h1
    have a2 := bAt_bit (r := r) (c := c + 1) h2
    have a3 := bAt_bit (r := r + 1) (c := c) h1
    have a4 := bAt_bit (r := r) (c := c) h2
    have a5 := bAt_bit (r := r + 1) (c := c) h2
    have a6 := bAt_bit (r := r + 1) (c := c + 1) h2
    have a7 := bAt_bit (r := r + 1 + 1) (c := c) h1
    unfold isBit at a1 a2 a3 a4 a5 a6 a7
    omega
/-- a short text of signs -/
def gs (z : Str) : Prop := z.cps.toList.length ≤ 50 ∧ ∀ c ∈ z.cps.toList, c < 1114112
/-- a row, good or bad -/
def okE (x : PyData) : Prop := niceX x ∧ (∀ z, x = .str z → ∀ c ∈ z.cps.toList, c < 1114112) ∧ ShD 4 x
def thingOk (x : PyData) : Prop := niceD x ∧ vldD x ∧ (ShD 5 x ∨ x = .dict [])
theorem okE_str {z : Str} (h : gs z) : okE (.str z) := ⟨⟨rfl, fun z' e => by cases e; have := h.1; omega⟩, fun z' e => by cases e; exact h.2, by
  have := sh_txt (n := 4) h.2
  rwa [mkS_cps] at this⟩
theorem okE_none : okE .none := ⟨⟨rfl, fun z' e => (nomatch e)⟩, fun z' e => (nomatch e), sh_none⟩
theorem okE_int {n : Int} : okE (.int n) := ⟨⟨rfl, fun z' e => (nomatch e)⟩, fun z' e => (nomatch e), sh_int⟩
theorem okE_signs {z : Str} (h : gs z) : okE (.list (signs z)) := ⟨⟨rfl, fun z' e => (nomatch e)⟩, fun z' e => (nomatch e), (sh_list (n := 1) fun x hx => by
  rw [signs_map] at hx
  obtain ⟨c, hc, rfl⟩ := List.mem_map.mp hx
  exact sh_txt (l := [c]) fun c' hc' => by
    rw [List.mem_singleton] at hc'
    subst hc'
    exact h.2 _ hc).up (by omega)⟩
theorem thing_list {l : List PyData} (h : ∀ x ∈ l, okE x) : thingOk (.list l) := ⟨⟨rfl, fun ds e x m => by cases e; exact (h x m).1⟩, fun ds e x m => by cases e; exact (h x m).2.1, .inl (sh_list fun x hx => (h x hx).2.2)⟩
theorem gs_mk {l : List Nat} (h1 : l.length ≤ 50) (h2 : ∀ c ∈ l, c < 1114112) : gs (mkS l) := ⟨by simpa [mkS] using h1, by simpa [mkS] using h2⟩
theorem cutN_sub {l : List Nat} {lo hi : Option Int} : (cutN l lo hi).length ≤ l.length ∧ ∀ c ∈ cutN l lo hi, c ∈ l := by
  unfold cutN
  refine ⟨?_, fun c hc => List.mem_of_mem_drop (List.mem_of_mem_take hc)⟩
  rw [List.length_take, List.length_drop]
  omega
theorem cutD_sub {l : List PyData} {lo hi : Option Int} : (cutD l lo hi).length ≤ l.length ∧ ∀ c ∈ cutD l lo hi, c ∈ l := by
  unfold cutD
  refine ⟨?_, fun c hc => List.mem_of_mem_drop (List.mem_of_mem_take hc)⟩
  rw [List.length_take, List.length_drop]
  omega
theorem immL_iff {l : List PyData} : isImmL l = true ↔ ∀ x ∈ l, isImm x = true := by
  induction l with
  | nil => simp [isImmL]
  | cons a l ih => simp [isImmL, ih]
theorem immL_sub {l l' : List PyData} (h : isImmL l = true) (hs : ∀ x ∈ l', x ∈ l) : isImmL l' = true := immL_iff.mpr fun x hx => immL_iff.mp h x (hs x hx)
theorem strs_map {zs : List Str} : strsOf (zs.map .str) = some zs := by
  induction zs with
  | nil => rfl
  | cons a l ih => simp [strsOf, strOf, ih]
theorem gs_app {a b : Str} (h1 : ∀ c ∈ a.cps.toList, c < 1114112) (h2 : ∀ c ∈ b.cps.toList, c < 1114112) (h3 : a.cps.toList.length + b.cps.toList.length ≤ 50) : gAddS (.str a) (.str b) = some (.str (a ++ b)) ∧ gs (a ++ b) := by
  have ea : a = mkS a.cps.toList := by rw [mkS_cps]
  have eb : b = mkS b.cps.toList := by rw [mkS_cps]
  refine ⟨if_pos (by
    have e1 : a.length = a.cps.toList.length := by simp [Str.length]
    have e2 : b.length = b.cps.toList.length := by simp [Str.length]
    rw [e1, e2]; omega), ?_⟩
  rw [ea, eb, mkS_app]
  refine gs_mk (by rw [List.length_append]; exact h3) fun c hc => ?_
  rcases List.mem_append.mp hc with h | h
  · exact h1 c h
  · exact h2 c h
@[simp] theorem fRevS_eq {a : FP} {w : Vw} : fRevS a w = (a w).bind fun x => (match x with | .str z => if z.length ≤ 16777216 then some (.str (mkS z.cps.toList.reverse)) else none | _ => none) := rfl
@[simp] theorem nListT_eq {a : FP} {w : Vw} : nListT a w = (a w).bind fun x => (match x with | .str z => if z.cps.toList.length ≤ 10000 then some (signs z) else none | _ => none) := rfl
@[simp] theorem mDictK_eq {s : Sg} : mDictK s = .ok (.dct []) s := rfl
theorem gTupC_l {ds : List PyData} : gTupC [.list ds] = some (.tuple ds) := rfl
theorem at_mem {γ : Type} {l : List γ} {n : Int} (h0 : 0 ≤ n) (h1 : n < (l.length : Int)) : ∃ z ∈ l, atI l n = some z := by
  obtain ⟨z, e, e2⟩ := atI_some h0 h1
  exact ⟨z, List.mem_of_getElem? e2, e⟩
theorem lcL_map {ws : List Nat} {a : MG} {c : MT} {e : ME} {s : Sg} {ds : List PyData} {f : PyData → T} (hw : wipeS s ws = s) (h : ∀ d ∈ ds, ∃ s1 s3, a d s = some s1 ∧ c s1 = .ok true s1 ∧ e s1 = .ok (f d) s3 ∧ wipeS s3 ws = s) : ∀ {acc : List T}, acc.length + ds.length ≤ 16777216 → lcL ws a c e ds acc s = .ok (acc ++ ds.map f) s := by
  induction ds with
  | nil => intro acc _; simp [lcL]
  | cons d ds ih =>
    intro acc hl
    obtain ⟨s1, s3, h1, h2, h3, h4⟩ := h d (by simp)
    rw [List.length_cons] at hl
    have := ih (fun d m => h d (by simp [m])) (acc := acc ++ [f d]) (by rw [List.length_append, List.length_singleton]; omega)
    rw [lcL, hw, h1]
    simp only [h2, h3]
    rw [if_pos (by omega), h4, this]
    simp
theorem dataL_app2 {l m : List T} : T.dataL (l ++ m) = T.dataL l ++ T.dataL m := by
  induction l with
  | nil => simp
  | cons a l ih => simp [ih]
theorem dataL_rev {l : List T} : T.dataL l.reverse = (T.dataL l).reverse := by
  induction l with
  | nil => simp
  | cons a l ih => simp [ih, dataL_app2]
theorem dataL_set {l : List T} {i : Nat} {t : T} : T.dataL (l.set i t) = (T.dataL l).set i t.data := by
  induction l generalizing i with
  | nil => simp
  | cons a l ih => cases i <;> simp [ih]
theorem dataL_rep {n : Nat} {x : PyData} : T.dataL (List.replicate n (.d x)) = List.replicate n x := by
  induction n with
  | zero => simp
  | succ n ih => rw [List.replicate_succ, dataL_cons, ih]; simp [List.replicate_succ]
theorem joinL_mem {s : List Nat} : ∀ {ps : List (List Nat)} {c : Nat}, c ∈ TL.joinL s ps → c ∈ s ∨ ∃ p ∈ ps, c ∈ p
  | [], c, h => by simp [TL.joinL] at h
  | [p], c, h => .inr ⟨p, by simp, by simpa [TL.joinL] using h⟩
  | p :: q :: r, c, h => by
    rw [TL.joinL] at h
    simp only [List.mem_append] at h
    have ih := joinL_mem (s := s) (ps := q :: r) (c := c)
    rcases h with h | h | h
    · exact .inr ⟨p, by simp, h⟩
    · exact .inl h
    · rcases ih h with h | ⟨p', m, h⟩
      · exact .inl h
      · exact .inr ⟨p', by simp [List.mem_cons] at m ⊢; exact .inr m, h⟩
theorem join_ok {zs : List Str} (h12 : zs.length ≤ 12) (hz : ∀ z ∈ zs, z.cps.toList.length ≤ 12 ∧ ∀ c ∈ z.cps.toList, c < 1114112) : ∃ zj, gJoin (.str "\n") (.list (zs.map .str)) = some (.str zj) ∧ ∀ c ∈ zj.cps.toList, c < 1114112 := by
  have hs : ∀ (l : List Str), (∀ z ∈ l, z.cps.toList.length ≤ 12) → (l.map (·.length)).sum ≤ 12 * l.length := fun l => by
    induction l with
    | nil => intro _; simp
    | cons a l ih =>
      intro h
      have h1 := h a (by simp)
      have h2 := ih fun z m => h z (by simp [m])
      have h3 : a.length = a.cps.toList.length := by simp [Str.length]
      rw [List.map_cons, List.sum_cons, List.length_cons]
      omega
  have hs := hs zs fun z m => (hz z m).1
  refine ⟨Txt.join "\n" zs, ?_, ?_⟩
  · show ((strsOf (zs.map .str)).bind fun ys => if (ys.map (·.length)).sum + ys.length * (Str.length "\n") ≤ 16777216 then some (PyData.str (Txt.join "\n" ys)) else none) = _
    rw [strs_map]
    have : Str.length "\n" = 1 := by decide +kernel
    simp only [Option.bind_some, this]
    rw [if_pos (by omega)]
  · intro c hc
    have e : (Txt.join "\n" zs).cps.toList = TL.joinL (TL.tl "\n") (zs.map TL.tl) := by
      show TL.tl _ = _
      rw [TL.join_eq, TL.tl_join]
    rw [e] at hc
    rcases joinL_mem hc with h | ⟨p, m, h⟩
    · have : TL.tl ("\n" : Str) = [10] := by decide +kernel
      rw [this, List.mem_singleton] at h
      omega
    · obtain ⟨z, hm, rfl⟩ := List.mem_map.mp m
      exact (hz z hm).2 c h
mutual
theorem eqv_self : ∀ d : PyData, d.canLay0 = true → PyData.eqv d d = true
  | .none, _ => rfl
  | .bool b, _ => by simp [PyData.eqv]
  | .int i, _ => by simp [PyData.eqv]
  | .str x, _ => by simp [PyData.eqv]
  | .list xs, h => by rw [PyData.eqv]; exact eqvAll_self xs (by simpa [PyData.canLay0] using h)
  | .tuple xs, h => by rw [PyData.eqv]; exact eqvAll_self xs (by simpa [PyData.canLay0] using h)
  | .dict _, h => by simp [PyData.canLay0] at h
theorem eqvAll_self : ∀ xs : List PyData, PyData.canLayAll0 xs = true → PyData.eqvAll xs xs = true
  | [], _ => rfl
  | x :: xs, h => by
    have h' : x.canLay0 = true ∧ PyData.canLayAll0 xs = true := by simpa [PyData.canLayAll0] using h
    rw [PyData.eqvAll, eqv_self x h'.1, eqvAll_self xs h'.2]; rfl
end
theorem neD_self {n : Nat} {d : PyData} (h : ShD n d) (hn : n ≤ 64) : gNeD d d = some (.bool false) := by
  unfold gNeD
  rw [if_pos ⟨h.ok hn, h.ok hn⟩, eqv_self d h.1]
  rfl
theorem neU_self {d : PyData} (h : thingOk d) : gNeU d d = some (.bool false) := by
  rcases h.2.2 with h | rfl
  · unfold gNeU
    split
    · rfl
    · exact neD_self h (by omega)
  · rfl
def cellsT (cs : List Int) : T := .lst (cs.map fun c => .d (.int c))
theorem cut_ints {cs : List Int} {k : Nat} : cutD (cs.map .int) (some (k : Nat)) none = (cs.drop k).map .int := by
  unfold cutD
  rw [HT.sIx_none, HT.sIx_nat, List.length_map, ← List.map_drop, ← List.map_take]
  congr 1
  rw [List.take_of_length_le (by rw [List.length_drop]; exact Nat.le_refl _)]
  by_cases h : k ≤ cs.length
  · rw [Nat.min_eq_left h]
  · rw [Nat.min_eq_right (by omega), List.drop_eq_nil_of_le (by omega), List.drop_eq_nil_of_le (by omega)]
theorem cut_pre {ns : List Int} : ∃ cs : List Int, cutD (ns.map .int) none (some 63) = cs.map PyData.int := by
  unfold cutD
  rw [← List.map_drop, ← List.map_take]
  exact ⟨_, rfl⟩
end S

namespace S
open PySem L2
/-! ### methods by data -/
def methD (C : Addr) (m : Str) (mf : MF) (o : Option PyData) (as : Option (List PyData)) : Option PyData := o.bind fun x => match clsD x with
  | some (C', ns) => if C' = C ∧ ns.contains m = false then as.bind fun ds => resD (mf (.d x :: ds.map .d)) else none
  | none => none
@[simp] theorem fMeth_eq {C : Addr} {m : Str} {mf : MF} {a : FP} {as : FA} {w : Vw} : fMeth C m mf a as w = methD C m mf (a w) (as w) := rfl
@[simp] theorem clsD_obj {C : Addr} {ds : List (PyData × PyData)} : clsD (dObj C ds) = some (C, namesD ds) := rfl
theorem methD_some {C : Addr} {m : Str} {mf : MF} {fs : List (PyData × PyData)} {ds : List PyData} (h : (namesD fs).contains m = false) : methD C m mf (some (dObj C fs)) (some ds) = resD (mf (.d (dObj C fs) :: ds.map .d)) := by
  simp only [methD, Option.bind_some, clsD_obj, h, and_self, if_true]
/-! ### joins of signs, last items -/
theorem joinL_nil {l : List Nat} : TL.joinL [] (l.map fun c => [c]) = l := by
  induction l with
  | nil => rfl
  | cons a l ih =>
    cases l with
    | nil => rfl
    | cons b l =>
      rw [List.map_cons, List.map_cons, TL.joinL]
      rw [List.map_cons] at ih
      rw [ih]
      rfl
theorem sum_one {l : List Nat} : ((l.map sg).map (·.length)).sum = l.length := by
  induction l with
  | nil => rfl
  | cons a l ih => rw [List.map_cons, List.map_cons, List.sum_cons, ih, List.length_cons]; show 1 + _ = _; omega
theorem join_sg {l : List Nat} (h : l.length ≤ 10000) : gJoin (.str "") (.list (l.map fun c => .str (sg c))) = some (.str (mkS l)) := by
  have e : (l.map fun c => PyData.str (sg c)) = (l.map sg).map .str := by rw [List.map_map]; rfl
  show ((strsOf _).bind fun ys => if (ys.map (·.length)).sum + ys.length * (Str.length "") ≤ 16777216 then some (PyData.str (Txt.join "" ys)) else none) = _
  rw [e, strs_map]
  have e0 : Str.length "" = 0 := by decide +kernel
  simp only [Option.bind_some, e0, sum_one, Nat.mul_zero, Nat.add_zero]
  rw [if_pos (by omega)]
  congr 2
  have : TL.tl (Txt.join "" (l.map sg)) = l := by
    rw [TL.join_eq, TL.tl_join]
    have e1 : TL.tl ("" : Str) = [] := by decide +kernel
    rw [e1, List.map_map]
    exact joinL_nil
  rw [← mkS_cps (Txt.join "" (l.map sg))]
  exact congrArg mkS this
theorem atI_neg {γ : Type} {l : List γ} {n : Nat} (h0 : 0 < n) (h : n ≤ l.length) : atI l (-(n : Int)) = some (l[l.length - n]'(by omega)) := by
  unfold atI
  have : ixN l.length (-(n : Int)) = some (l.length - n) := by
    unfold ixN
    rw [if_neg (by omega)]
    split
    · congr 1; omega
    · omega
  rw [this]
  simp
theorem row_ixn {vs : List Nat} (h : 0 < vs.length) (hl : vs.length ≤ 10000) : gIxS (.str (rowS vs)) (.int (-1)) = some (.str (sg (hx (vs.getD (vs.length - 1) 0)))) := by
  have e : (rowS vs).length = vs.length := by simp [Str.length, rowS, mkS]
  show (if (rowS vs).length ≤ 16777216 then (atI (rowS vs).cps.toList (-1)).map (fun c => PyData.str ⟨#[c]⟩) else none) = _
  rw [e, if_pos (by omega), rowS_cps, atI_map]
  have := atI_neg (l := vs) (n := 1) (by omega) (by omega)
  rw [show (-(1 : Nat) : Int) = -1 by rfl] at this
  rw [this]
  simp [sg]
  rw [List.getElem?_eq_getElem (by omega)]
  simp
/-! ### slices -/
theorem cutN_to {l : List Nat} {k : Nat} : cutN l none (some (k : Int)) = l.take k := by
  unfold cutN
  rw [HT.sIx_none, HT.sIx_nat, List.drop_zero, Nat.sub_zero]
  by_cases h : k ≤ l.length
  · rw [Nat.min_eq_left h]
  · rw [Nat.min_eq_right (by omega), List.take_of_length_le (by omega), List.take_of_length_le (by omega)]
theorem cutN_from {l : List Nat} {k : Nat} : cutN l (some (k : Int)) none = l.drop k := by
  unfold cutN
  rw [HT.sIx_none, HT.sIx_nat, List.take_of_length_le (by rw [List.length_drop]; omega)]
  by_cases h : k ≤ l.length
  · rw [Nat.min_eq_left h]
  · rw [Nat.min_eq_right (by omega), List.drop_eq_nil_of_le (by omega), List.drop_eq_nil_of_le (by omega)]
theorem cutN_mid {l : List Nat} {k m : Nat} (h : k + m ≤ l.length) : cutN l (some (k : Int)) (some ((k + m : Nat) : Int)) = (l.drop k).take m := by
  unfold cutN
  have e1 : min k l.length = k := by omega
  have e2 : min (k + m) l.length = k + m := by omega
  rw [HT.sIx_nat, HT.sIx_nat, e1, e2]
  congr 1
  omega
theorem cutD_to {l : List PyData} {k : Nat} : cutD l none (some (k : Int)) = l.take k := by
  unfold cutD
  rw [HT.sIx_none, HT.sIx_nat, List.drop_zero, Nat.sub_zero]
  by_cases h : k ≤ l.length
  · rw [Nat.min_eq_left h]
  · rw [Nat.min_eq_right (by omega), List.take_of_length_le (by omega), List.take_of_length_le (by omega)]
theorem cutD_from {l : List PyData} {k : Nat} : cutD l (some (k : Int)) none = l.drop k := by
  unfold cutD
  rw [HT.sIx_none, HT.sIx_nat, List.take_of_length_le (by rw [List.length_drop]; omega)]
  by_cases h : k ≤ l.length
  · rw [Nat.min_eq_left h]
  · rw [Nat.min_eq_right (by omega), List.drop_eq_nil_of_le (by omega), List.drop_eq_nil_of_le (by omega)]
theorem cutD_mid {l : List PyData} {k m : Nat} (h : k + m ≤ l.length) : cutD l (some (k : Int)) (some ((k + m : Nat) : Int)) = (l.drop k).take m := by
  unfold cutD
  have e1 : min k l.length = k := by omega
  have e2 : min (k + m) l.length = k + m := by omega
  rw [HT.sIx_nat, HT.sIx_nat, e1, e2]
  congr 1
  omega
/-- a text put together -/
theorem addS_mk {l m : List Nat} (h : l.length + m.length ≤ 10000) : gAddS (.str (mkS l)) (.str (mkS m)) = some (.str (mkS (l ++ m))) := by
  have e1 : (mkS l).length = l.length := by simp [Str.length, mkS]
  have e2 : (mkS m).length = m.length := by simp [Str.length, mkS]
  show (if (mkS l).length + (mkS m).length ≤ 16777216 then some (PyData.str (mkS l ++ mkS m)) else none) = _
  rw [e1, e2, if_pos (by omega), mkS_app]
theorem mkS_toList {l : List Nat} : (mkS l).cps.toList = l := by simp [mkS]
theorem sg_mk {c : Nat} : sg c = mkS [c] := rfl
/-- a cell put in -/
def setC (vss : List (List Nat)) (r c v : Nat) : List (List Nat) := vss.set r ((vss.getD r []).set c v)
theorem setC_len {vss : List (List Nat)} {r c v : Nat} : (setC vss r c v).length = vss.length := by simp [setC]
theorem cV_setC {vss : List (List Nat)} {r c v r' c' : Nat} (hr : r < vss.length) (hc : c < (vss.getD r []).length) : cV (setC vss r c v) r' c' = if r' = r ∧ c' = c then v else cV vss r' c' := by
  unfold cV setC
  simp only [List.getD_eq_getElem?_getD] at hc ⊢
  by_cases h1 : r' = r
  · subst h1
    rw [List.getElem?_set_self hr]
    simp only [Option.getD_some, true_and]
    by_cases h2 : c' = c
    · subst h2
      rw [List.getElem?_set_self hc]
      simp
    · rw [List.getElem?_set_ne (Ne.symm h2), if_neg h2]
  · rw [List.getElem?_set_ne (Ne.symm h1), if_neg (fun q => h1 q.1)]
theorem setC_sq {vss : List (List Nat)} {r c v : Nat} (h : sqV vss) (hr : r < vss.length) (hv : v < 16) : sqV (setC vss r c v) := by
  refine ⟨by rw [setC_len]; exact h.1, by rw [setC_len]; exact h.2.1, fun vs hm => ?_⟩
  rw [setC_len]
  unfold setC at hm
  rcases List.mem_or_eq_of_mem_set hm with hm | rfl
  · exact h.2.2 vs hm
  · have e : vss.getD r [] ∈ vss := by rw [getD_at hr]; exact List.getElem_mem hr
    obtain ⟨a, b⟩ := h.2.2 _ e
    refine ⟨by rw [List.length_set]; exact a, fun w hw => ?_⟩
    rcases List.mem_or_eq_of_mem_set hw with hw | rfl
    · exact b w hw
    · exact hv
end S

namespace S
open PySem L2
def top (i : Nat) : Stmt := PySem.Challenge.pw_sheetland_k06_whole_four_laid_together.main.body.getD i (.Pass ⟨0, 0, 0, 0⟩)
abbrev s__law_state : Stmt := top 31
abbrev s__law_mixed : Stmt := top 30
abbrev s__law_take : Stmt := top 32
abbrev s__law_bits : Stmt := top 35
abbrev s__law_ties : Stmt := top 36
abbrev s__law_turned : Stmt := top 38
abbrev s__law_spoilt : Stmt := top 39
abbrev s_Layer___init__ : Stmt := inClass (top 27) 0
abbrev s_is_among : Stmt := top 21
abbrev s_is_size : Stmt := top 22
abbrev s_are_rows : Stmt := top 24
abbrev s_bit_of : Stmt := top 17
abbrev s_ways_in : Stmt := top 19
abbrev s_bits_of : Stmt := top 20
abbrev s_has_way : Stmt := top 25
abbrev s_agrees : Stmt := top 26
abbrev s_Ties___init__ : Stmt := inClass (top 28) 0
abbrev s__law_quarter : Stmt := top 37
abbrev s_Layer_signs_along : Stmt := inClass (top 27) 4
abbrev s_Ties_edge : Stmt := inClass (top 28) 2
abbrev s_against : Stmt := top 18
abbrev s_Ties_clash : Stmt := inClass (top 28) 3
abbrev s__law_whole : Stmt := top 33
abbrev s__law_clash_right : Stmt := top 40
abbrev s__law_word : Stmt := top 34
abbrev s__law_refused : Stmt := top 41
abbrev s_Layer_sign_at : Stmt := inClass (top 27) 2
abbrev s_Ties_ways_at : Stmt := inClass (top 28) 1
abbrev s__law_whole_right : Stmt := top 42
abbrev s_law : Stmt := top 43
theorem sc__law_state : FnScope ["_law_cells", "_law_k"] ["_law_cells", "_law_k"] (defScope s__law_state) := ⟨rfl, rfl, rfl, by decide +kernel, rfl, by decide +kernel, by decide +kernel⟩
theorem sc__law_mixed : FnScope ["_law_cell", "_law_k", "_law_more"] ["_law_cell", "_law_k"] (defScope s__law_mixed) := ⟨rfl, rfl, rfl, by decide +kernel, rfl, by decide +kernel, by decide +kernel⟩
theorem sc__law_take : FnScope ["_law_state_here", "_law_many", "_law_at", "_law_cell", "_law_found", "_law_k"] ["_law_state_here", "_law_many"] (defScope s__law_take) := ⟨rfl, rfl, rfl, by decide +kernel, rfl, by decide +kernel, by decide +kernel⟩
theorem sc__law_bits : FnScope ["_law_state_here", "_law_many", "_law_long", "_law_share", "_law_found", "_law_row", "_law_column"] ["_law_state_here", "_law_many", "_law_long", "_law_share"] (defScope s__law_bits) := ⟨rfl, rfl, rfl, by decide +kernel, rfl, by decide +kernel, by decide +kernel⟩
theorem sc__law_ties : FnScope ["_law_state_here", "_law_size", "_law_share", "_law_down", "_law_across", "_law_rows", "_law_row", "_law_text", "_law_column", "_law_bits_here"] ["_law_state_here", "_law_size"] (defScope s__law_ties) := ⟨rfl, rfl, rfl, by decide +kernel, rfl, by decide +kernel, by decide +kernel⟩
theorem sc__law_turned : FnScope ["_law_rows", "_law_row", "_law_column", "_law_bit", "_law_sign", "_law_text"] ["_law_rows", "_law_row", "_law_column", "_law_bit"] (defScope s__law_turned) := ⟨rfl, rfl, rfl, by decide +kernel, rfl, by decide +kernel, by decide +kernel⟩
theorem sc__law_spoilt : FnScope ["_law_rows", "_law_state_here", "_law_half", "_law_clashes", "_law_k", "_law_border", "_law_place", "_law_side", "_law_some"] ["_law_rows", "_law_state_here"] (defScope s__law_spoilt) := ⟨rfl, rfl, rfl, by decide +kernel, rfl, by decide +kernel, by decide +kernel⟩
theorem sc_Layer___init__ : FnScope ["self", "rows"] ["self", "rows"] (defScope s_Layer___init__) := ⟨rfl, rfl, rfl, by decide +kernel, rfl, by decide +kernel, by decide +kernel⟩
theorem sc_is_among : FnScope ["thing", "least", "most"] ["thing", "least", "most"] (defScope s_is_among) := ⟨rfl, rfl, rfl, by decide +kernel, rfl, by decide +kernel, by decide +kernel⟩
theorem sc_is_size : FnScope ["thing"] ["thing"] (defScope s_is_size) := ⟨rfl, rfl, rfl, by decide +kernel, rfl, by decide +kernel, by decide +kernel⟩
theorem sc_are_rows : FnScope ["thing", "signs", "row", "sign"] ["thing", "signs"] (defScope s_are_rows) := ⟨rfl, rfl, rfl, by decide +kernel, rfl, by decide +kernel, by decide +kernel⟩
theorem sc_bit_of : FnScope ["way"] ["way"] (defScope s_bit_of) := ⟨rfl, rfl, rfl, by decide +kernel, rfl, by decide +kernel, by decide +kernel⟩
theorem sc_ways_in : FnScope ["bits", "way"] ["bits"] (defScope s_ways_in) := ⟨rfl, rfl, rfl, by decide +kernel, rfl, by decide +kernel, by decide +kernel⟩
theorem sc_bits_of : FnScope ["sign"] ["sign"] (defScope s_bits_of) := ⟨rfl, rfl, rfl, by decide +kernel, rfl, by decide +kernel, by decide +kernel⟩
theorem sc_has_way : FnScope ["sign", "way"] ["sign", "way"] (defScope s_has_way) := ⟨rfl, rfl, rfl, by decide +kernel, rfl, by decide +kernel, by decide +kernel⟩
theorem sc_agrees : FnScope ["ahead", "row", "one", "other"] ["ahead", "row"] (defScope s_agrees) := ⟨rfl, rfl, rfl, by decide +kernel, rfl, by decide +kernel, by decide +kernel⟩
theorem sc_Ties___init__ : FnScope ["self", "rows", "ahead", "row"] ["self", "rows"] (defScope s_Ties___init__) := ⟨rfl, rfl, rfl, by decide +kernel, rfl, by decide +kernel, by decide +kernel⟩
theorem sc__law_quarter : FnScope ["_law_rows", "_law_down", "_law_across", "_law_half", "_law_row"] ["_law_rows", "_law_down", "_law_across"] (defScope s__law_quarter) := ⟨rfl, rfl, rfl, by decide +kernel, rfl, by decide +kernel, by decide +kernel⟩
theorem sc_Layer_signs_along : FnScope ["self", "way", "row"] ["self", "way"] (defScope s_Layer_signs_along) := ⟨rfl, rfl, rfl, by decide +kernel, rfl, by decide +kernel, by decide +kernel⟩
theorem sc_Ties_edge : FnScope ["self", "way", "sign"] ["self", "way"] (defScope s_Ties_edge) := ⟨rfl, rfl, rfl, by decide +kernel, rfl, by decide +kernel, by decide +kernel⟩
theorem sc_against : FnScope ["way"] ["way"] (defScope s_against) := ⟨rfl, rfl, rfl, by decide +kernel, rfl, by decide +kernel, by decide +kernel⟩
theorem sc_Ties_clash : FnScope ["self", "other", "way", "found", "place", "one", "two"] ["self", "other", "way"] (defScope s_Ties_clash) := ⟨rfl, rfl, rfl, by decide +kernel, rfl, by decide +kernel, by decide +kernel⟩
theorem sc__law_whole : FnScope ["_law_found"] ["_law_found"] (defScope s__law_whole) := ⟨rfl, rfl, rfl, by decide +kernel, rfl, by decide +kernel, by decide +kernel⟩
theorem sc__law_clash_right : FnScope ["_law_one", "_law_other", "_law_way", "_law_due", "_law_back", "_law_found", "_law_place"] ["_law_one", "_law_other", "_law_way", "_law_due"] (defScope s__law_clash_right) := ⟨rfl, rfl, rfl, by decide +kernel, rfl, by decide +kernel, by decide +kernel⟩
theorem sc__law_word : FnScope ["_law_e", "_law_found", "_law_word_here", "_law_fits"] ["_law_e"] (defScope s__law_word) := ⟨rfl, rfl, rfl, by decide +kernel, rfl, by decide +kernel, by decide +kernel⟩
theorem sc__law_refused : FnScope ["_law_rows", "_law_caught", "_law_e"] ["_law_rows"] (defScope s__law_refused) := ⟨rfl, rfl, rfl, by decide +kernel, rfl, by decide +kernel, by decide +kernel⟩
theorem sc_Layer_sign_at : FnScope ["self", "row", "column"] ["self", "row", "column"] (defScope s_Layer_sign_at) := ⟨rfl, rfl, rfl, by decide +kernel, rfl, by decide +kernel, by decide +kernel⟩
theorem sc_Ties_ways_at : FnScope ["self", "row", "column"] ["self", "row", "column"] (defScope s_Ties_ways_at) := ⟨rfl, rfl, rfl, by decide +kernel, rfl, by decide +kernel, by decide +kernel⟩
theorem sc__law_whole_right : FnScope ["_law_rows", "_law_parts", "_law_half", "_law_layer", "_law_sides", "_law_way", "_law_first", "_law_second", "_law_row", "_law_column", "_law_part"] ["_law_rows", "_law_parts"] (defScope s__law_whole_right) := ⟨rfl, rfl, rfl, by decide +kernel, rfl, by decide +kernel, by decide +kernel⟩
theorem sc_law : FnScope ["_law_script", "_law_cells", "_law_k", "_law_state_here", "_law_rows", "_law_due", "_law_parts", "_law_pairs", "_law_border", "_law_one", "_law_other", "_law_way", "_law_down", "_law_across"] ["_law_script"] (defScope s_law) := ⟨rfl, rfl, rfl, by decide +kernel, rfl, by decide +kernel, by decide +kernel⟩
/-- what the walk asks of the module's names -/
structure Txt (mg : Str → Option Value) : Prop where
  b_ValueError : mg "ValueError" = none
  b_all : mg "all" = none
  b_bool : mg "bool" = none
  b_enumerate : mg "enumerate" = none
  b_int : mg "int" = none
  b_isinstance : mg "isinstance" = none
  b_len : mg "len" = none
  b_list : mg "list" = none
  b_min : mg "min" = none
  b_range : mg "range" = none
  b_sorted : mg "sorted" = none
  b_str : mg "str" = none
  b_zip : mg "zip" = none
  g_LEAST_SIZE : GV mg "LEAST_SIZE" (.int (2))
  g_MOST_SIZE : GV mg "MOST_SIZE" (.int (12))
  g_SIXTEENS : GV mg "SIXTEENS" (.str "0123456789abcdef")
  g_WAYS : GV mg "WAYS" (.str "nesw")
/-- where the classes lie -/
structure Adr where
  Layer : Addr
  Ties : Addr
  MapError : Addr
  BadSheet : Addr
  BadPlace : Addr
  BadCell : Addr
  BadWindow : Addr
  NoSheet : Addr
  NoWay : Addr
  NoName : Addr
  TooMany : Addr
  BadLine : Addr
  BadText : Addr
/-- what the walk asks of the classes -/
structure TxC (K : PySem.W.Frag) (mg : Str → Option Value) (A : Adr) : Prop where
  g_Layer : GV mg "Layer" (.ref A.Layer)
  o_Layer : IsO K A.Layer
  n_Layer_lines : NoAttr K A.Layer "lines"
  s_Layer_Layer : PySem.W.kitOne K (.ref A.Layer) (.ref A.Layer) = some true
  s_Layer_Ties : PySem.W.kitOne K (.ref A.Layer) (.ref A.Ties) = some false
  g_Ties : GV mg "Ties" (.ref A.Ties)
  o_Ties : IsO K A.Ties
  n_Ties_lines : NoAttr K A.Ties "lines"
  s_Ties_Layer : PySem.W.kitOne K (.ref A.Ties) (.ref A.Layer) = some true
  s_Ties_Ties : PySem.W.kitOne K (.ref A.Ties) (.ref A.Ties) = some true
  g_MapError : GV mg "MapError" (.ref A.MapError)
  m_MapError : mg "MapError" = some (.ref A.MapError)
  g_BadSheet : GV mg "BadSheet" (.ref A.BadSheet)
  m_BadSheet : mg "BadSheet" = some (.ref A.BadSheet)
  g_BadPlace : GV mg "BadPlace" (.ref A.BadPlace)
  m_BadPlace : mg "BadPlace" = some (.ref A.BadPlace)
  g_BadCell : GV mg "BadCell" (.ref A.BadCell)
  m_BadCell : mg "BadCell" = some (.ref A.BadCell)
  g_BadWindow : GV mg "BadWindow" (.ref A.BadWindow)
  m_BadWindow : mg "BadWindow" = some (.ref A.BadWindow)
  g_NoSheet : GV mg "NoSheet" (.ref A.NoSheet)
  m_NoSheet : mg "NoSheet" = some (.ref A.NoSheet)
  g_NoWay : GV mg "NoWay" (.ref A.NoWay)
  m_NoWay : mg "NoWay" = some (.ref A.NoWay)
  g_NoName : GV mg "NoName" (.ref A.NoName)
  m_NoName : mg "NoName" = some (.ref A.NoName)
  g_TooMany : GV mg "TooMany" (.ref A.TooMany)
  m_TooMany : mg "TooMany" = some (.ref A.TooMany)
  g_BadLine : GV mg "BadLine" (.ref A.BadLine)
  m_BadLine : mg "BadLine" = some (.ref A.BadLine)
  g_BadText : GV mg "BadText" (.ref A.BadText)
  m_BadText : mg "BadText" = some (.ref A.BadText)
  x_BadSheet : ExT K mg "BadSheet" A.BadSheet
  s_BadSheet_MapError : PySem.W.kitOne K (.ref A.BadSheet) (.ref A.MapError) = some true
  s_BadSheet_BadSheet : PySem.W.kitOne K (.ref A.BadSheet) (.ref A.BadSheet) = some true
  s_BadSheet_BadPlace : PySem.W.kitOne K (.ref A.BadSheet) (.ref A.BadPlace) = some false
  s_BadSheet_BadCell : PySem.W.kitOne K (.ref A.BadSheet) (.ref A.BadCell) = some false
  s_BadSheet_BadWindow : PySem.W.kitOne K (.ref A.BadSheet) (.ref A.BadWindow) = some false
  s_BadSheet_NoSheet : PySem.W.kitOne K (.ref A.BadSheet) (.ref A.NoSheet) = some false
  s_BadSheet_NoWay : PySem.W.kitOne K (.ref A.BadSheet) (.ref A.NoWay) = some false
  s_BadSheet_NoName : PySem.W.kitOne K (.ref A.BadSheet) (.ref A.NoName) = some false
  s_BadSheet_TooMany : PySem.W.kitOne K (.ref A.BadSheet) (.ref A.TooMany) = some false
  s_BadSheet_BadLine : PySem.W.kitOne K (.ref A.BadSheet) (.ref A.BadLine) = some false
  s_BadSheet_BadText : PySem.W.kitOne K (.ref A.BadSheet) (.ref A.BadText) = some false
  v_BadSheet : PySem.W.kitOne K (.ref A.BadSheet) (.type "ValueError") = some true
  e_BadSheet : PySem.W.exmOne K (.ref A.BadSheet) (.ref A.MapError) = some true
  d_all : [A.Layer, A.Ties, A.MapError, A.BadSheet, A.BadPlace, A.BadCell, A.BadWindow, A.NoSheet, A.NoWay, A.NoName, A.TooMany, A.BadLine, A.BadText].Nodup
def m__law_state : MF := runF 2 [] (sRt (mDisp ["cells", "at", "rest", "k"] (aCons (mMv 0) (aCons (mP (fC (.int 0))) (aCons (mP (fC (.int 0))) (aCons (mP (fVar 1)) aNil))))))
def m__law_mixed : MF := runF 3 [2] (sSeq (sSet 2 (mP (fOp gMod (fOp gMul (fOp gAdd (fOp gAdd (fOp gAdd (fOp gMod (fVar 0) (fC (.int 2147483647))) (fOp gMul (fOp gMul (fC (.int 7919)) (fVar 1)) (fVar 1))) (fOp gMul (fC (.int 104729)) (fVar 1))) (fC (.int 11))) (fC (.int 48271))) (fC (.int 2147483647)))))
    (sRt (mP (fOp gMod (fOp gMul (fVar 2) (fOp gAdd (fC (.int 69621)) (fOp gMul (fC (.int 2)) (fVar 1)))) (fC (.int 2147483629))))))
def m__law_take : MF := runF 6 [2, 3, 4, 5] (sSeq (sSet 2 (mP (fOp gDGet (fVar 0) (fC (.str "at")))))
    (sSeq (sSetK (mP (fOp gAdd (fVar 2) (fC (.int 1)))) (pVar 0) (fC (.str "at")))
    (sSeq (sSet 3 (mP (fOp gIxL (fOp gDGet (fVar 0) (fC (.str "cells"))) (fOp gMod (fOp gDiv (fVar 2) (fC (.int 60))) (fCb gLen (fCons (fOp gDGet (fVar 0) (fC (.str "cells"))) fNil))))))
    (sSeq (sIf (bP (cVal (fOp gEq (fOp gMod (fVar 2) (fC (.int 60))) (fC (.int 0))))) (sSetK (mP (fIf (cVal (fOp gGe (fVar 3) (fOp gPow (fC (.int 10)) (fC (.int 18))))) (fVar 3) (fC (.int 0)))) (pVar 0) (fC (.str "rest"))) sNx)
    (sSeq (sIf (bP (cVal (fOp gGt (fOp gDGet (fVar 0) (fC (.str "rest"))) (fC (.int 0))))) (sSeq (sSet 4 (mP (fOp gMod (fOp gDGet (fVar 0) (fC (.str "rest"))) (fVar 1))))
      (sSeq (sSetK (mP (fOp gDiv (fOp gDGet (fVar 0) (fC (.str "rest"))) (fVar 1))) (pVar 0) (fC (.str "rest")))
      (sRt (mP (fVar 4))))) sNx)
    (sSeq (sSet 5 (mP (fOp gAdd (fVar 2) (fOp gMul (fC (.int 60)) (fOp gDGet (fVar 0) (fC (.str "k")))))))
    (sRt (mP (fOp gMod (fOp gDiv (fOp gAdd (fOp gMul (fFn m__law_mixed (fCons (fVar 3) (fCons (fVar 5) fNil))) (fC (.int 2147483629))) (fFn m__law_mixed (fCons (fVar 3) (fCons (fOp gAdd (fVar 5) (fC (.int 9001))) fNil)))) (fC (.int 11))) (fVar 1))))))))))
def m__law_bits_E1 : ME := (mCb gInt1 (aCons (mOp gLt (mCall m__law_take (aBr 0 (aCons (mP (fC (.int 6))) aNil))) (mP (fVar 3))) aNil))
def m__law_bits_L1 : MS := (sEx (mMut0 "list" 4 (aCons (mLc (iArgs (aCons (mP (fVar 2)) aNil) cRng1) [6] (gN 6) (bP cYes) m__law_bits_E1) aNil) gAppend))
def m__law_bits : MF := runF 7 [4, 5] (sSeq (sSet 4 (mLst aNil))
    (sSeq (sFor (iArgs (aCons (mP (fVar 1)) aNil) cRng1) (gN 5)
      m__law_bits_L1)
    (sRt (mMv 4))))
def m__law_ties_L1 : MS := (sSeq (sSet 9 (mP (fOp gIxL (fOp gIxL (fVar 3) (fVar 6)) (fVar 8))))
        (sSeq (sSet 9 (mP (fOp gAdd (fVar 9) (fOp gMul (fC (.int 2)) (fOp gIxL (fOp gIxL (fVar 4) (fVar 6)) (fOp gAdd (fVar 8) (fC (.int 1))))))))
        (sSeq (sSet 9 (mP (fOp gAdd (fVar 9) (fOp gMul (fC (.int 4)) (fOp gIxL (fOp gIxL (fVar 3) (fOp gAdd (fVar 6) (fC (.int 1)))) (fVar 8))))))
        (sSeq (sSet 9 (mP (fOp gAdd (fVar 9) (fOp gMul (fC (.int 8)) (fOp gIxL (fOp gIxL (fVar 4) (fVar 6)) (fVar 8))))))
        (sSet 7 (mP (fOp gAddS (fVar 7) (fOp gIxS (fC (.str "0123456789abcdef")) (fVar 9)))))))))
def m__law_ties_L2 : MS := (sSeq (sSet 7 (mP (fC (.str ""))))
      (sSeq (sFor (iArgs (aCons (mP (fVar 1)) aNil) cRng1) (gN 8)
        m__law_ties_L1)
      (sEx (mMut0 "list" 5 (aCons (mP (fVar 7)) aNil) gAppend))))
def m__law_ties : MF := runF 10 [2, 3, 4, 5, 6, 7, 8, 9] (sSeq (sSet 2 (mOp gIxL (mLst (aCons (mP (fC (.int 0))) (aCons (mP (fC (.int 1))) (aCons (mP (fC (.int 3))) (aCons (mP (fC (.int 5))) (aCons (mP (fC (.int 3))) (aCons (mP (fC (.int 6))) aNil))))))) (mCall m__law_take (aBr 0 (aCons (mP (fC (.int 6))) aNil)))))
    (sSeq (sSet 3 (mCall m__law_bits (aBr 0 (aCons (mP (fOp gAdd (fVar 1) (fC (.int 1)))) (aBr 1 (aBr 2 aNil))))))
    (sSeq (sSet 4 (mCall m__law_bits (aBr 0 (aBr 1 (aCons (mP (fOp gAdd (fVar 1) (fC (.int 1)))) (aBr 2 aNil))))))
    (sSeq (sSet 5 (mLst aNil))
    (sSeq (sFor (iArgs (aCons (mP (fVar 1)) aNil) cRng1) (gN 6)
      m__law_ties_L2)
    (sRt (mMv 5)))))))
def m__law_turned : MF := runF 6 [4, 5] (sSeq (sSet 4 (mP (fOp gIxS (fC (.str "0123456789abcdef")) (fOp gBXor (fOp gSIndex (fC (.str "0123456789abcdef")) (fOp gIxS (fOp gIxL (fVar 0) (fVar 1)) (fVar 2))) (fVar 3)))))
    (sSeq (sSet 5 (mP (fOp gAddS (fOp gAddS (fSlS (fOp gIxL (fVar 0) (fVar 1)) oNone (oSome (fVar 2))) (fVar 4)) (fSlS (fOp gIxL (fVar 0) (fVar 1)) (oSome (fOp gAdd (fVar 2) (fC (.int 1)))) oNone))))
    (sRt (mCatO (mCatO (mN (nSlL (fVar 0) oNone (oSome (fVar 1)))) (mLst (aCons (mP (fVar 5)) aNil))) (mN (nSlL (fVar 0) (oSome (fOp gAdd (fVar 1) (fC (.int 1)))) oNone))))))
def m__law_spoilt_L1 : MS := (sSeq (sPar3 5 6 7 (aCons (mCall m__law_take (aBr 1 (aCons (mP (fC (.int 4))) aNil))) (aCons (mCall m__law_take (aBr 1 (aBr 2 aNil))) (aCons (mCall m__law_take (aBr 1 (aCons (mP (fC (.int 2))) aNil))) aNil))))
      (sIf (bP (cVal (fOp (gDIn true) (fVar 6) (fOp gIxL (fVar 3) (fVar 5))))) (sSeq (sSetK (mP (fC (.bool true))) (pIx (pVar 3) (fVar 5)) (fVar 6))
        (sIf (bP (cVal (fOp gLt (fVar 5) (fC (.int 2))))) (sSet 0 (mCall m__law_turned (aBr 0 (aCons (mP (fOp gAdd (fOp gMul (fVar 2) (fVar 5)) (fVar 6))) (aCons (mP (fOp gAdd (fOp gSub (fVar 2) (fC (.int 1))) (fVar 7))) (aCons (mP (fOp gIxL (fLst (fCons (fC (.int 2)) (fCons (fC (.int 8)) fNil))) (fVar 7))) aNil)))))) (sSet 0 (mCall m__law_turned (aBr 0 (aCons (mP (fOp gAdd (fOp gSub (fVar 2) (fC (.int 1))) (fVar 7))) (aCons (mP (fOp gAdd (fOp gMul (fVar 2) (fOp gSub (fVar 5) (fC (.int 2)))) (fVar 6))) (aCons (mP (fOp gIxL (fLst (fCons (fC (.int 4)) (fCons (fC (.int 1)) fNil))) (fVar 7))) aNil)))))))) sNx))
def m__law_spoilt : MF := runF 9 [0, 2, 3, 4, 5, 6, 7] (sSeq (sSet 2 (mP (fOp gDiv (fCb gLen (fCons (fVar 0) fNil)) (fC (.int 2)))))
    (sSeq (sSet 3 (mLst (aCons mDictK (aCons mDictK (aCons mDictK (aCons mDictK aNil))))))
    (sSeq (sFor (iArgs (aCons (mCall m__law_take (aBr 1 (aCons (mP (fC (.int 4))) aNil))) aNil) cRng1) (gN 4)
      m__law_spoilt_L1)
    (sRt (mTup (aCons (mMv 0) (aCons (mLc (iOf (mMv 3) cList) [8] (gN 8) (bP cYes) (mCb gSortDI (aCons (mMv 8) aNil))) aNil)))))))
def m_Layer___init__ (A : Adr) : MF := runF 2 [] (sSetF A.Ties "lines" (mN (nListC (fVar 1))) (pVar 0))
def m_is_among : MF := runF 3 [] (sRt (mP (fAnd (fIsi "int" (fVar 0)) (fAnd (fNot (fIsi "bool" (fVar 0))) (fChain gLe gLe (fVar 1) (fVar 0) (fVar 2))))))
def m_is_size : MF := runF 1 [] (sRt (mP (fFn m_is_among (fCons (fVar 0) (fCons (fC (.int 2)) (fCons (fC (.int 12)) fNil))))))
def m_are_rows_L1 : MS := (sIf (bP (cOr (cNot (cVal (fIsi "str" (fVar 2)))) (cOr (cVal (fOp gNe (fCb gLen (fCons (fVar 2) fNil)) (fCb gLen (fCons (fVar 0) fNil)))) (cNot (cVal (fCb gAll (fCons (fLc (fiOf (fVar 2) cStr) [3] (wN 3) cYes (fOp (gInS false) (fVar 3) (fVar 1))) fNil))))))) (sRt (mP (fC (.bool false)))) sNx)
def m_are_rows : MF := runF 4 [2] (sSeq (sIf (bP (cOr (cNot (cVal (fIsi "list" (fVar 0)))) (cNot (cVal (fFn m_is_size (fCons (fCb gLen (fCons (fVar 0) fNil)) fNil)))))) (sRt (mP (fC (.bool false)))) sNx)
    (sSeq (sFor (iOf (mFz 0) cList) (gN 2)
      m_are_rows_L1)
    (sRt (mP (fC (.bool true))))))
def m_bit_of : MF := runF 1 [] (sRt (mP (fOp gShl (fC (.int 1)) (fOp gSIndex (fC (.str "nesw")) (fVar 0)))))
def m_ways_in : MF := runF 2 [] (sRt (mP (fOp gJoin (fC (.str "")) (fLc (fiOf (fC (.str "nesw")) cStr) [1] (wN 1) (cVal (fOp gGt (fOp gBAnd (fVar 0) (fFn m_bit_of (fCons (fVar 1) fNil))) (fC (.int 0)))) (fVar 1)))))
def m_bits_of : MF := runF 1 [] (sRt (mP (fOp gSIndex (fC (.str "0123456789abcdef")) (fVar 0))))
def m_has_way : MF := runF 2 [] (sRt (mP (fOp (gInS false) (fVar 1) (fFn m_ways_in (fCons (fFn m_bits_of (fCons (fVar 0) fNil)) fNil)))))
def m_agrees_L1 : MS := (sIf (bP (cVal (fOp gNe (fFn m_has_way (fCons (fVar 2) (fCons (fC (.str "e")) fNil))) (fFn m_has_way (fCons (fVar 3) (fCons (fC (.str "w")) fNil)))))) (sRt (mP (fC (.bool false)))) sNx)
def m_agrees_E1 : FP := (fOp gEq (fFn m_has_way (fCons (fVar 2) (fCons (fC (.str "s")) fNil))) (fFn m_has_way (fCons (fVar 3) (fCons (fC (.str "n")) fNil))))
def m_agrees : MF := runF 4 [2, 3] (sSeq (sFor (iArgs (aCons (mP (fVar 1)) (aCons (mP (fSlS (fVar 1) (oSome (fC (.int 1))) oNone)) aNil)) cZipS) (gT 2 (gCs (gN 2) (gCs (gN 3) gNl)))
      m_agrees_L1)
    (sRt (mP (fOr (fOp gIsN (fVar 0) (fC .none)) (fCb gAll (fCons (fLc (fiArgs (fCons (fVar 0) (fCons (fVar 1) fNil)) cZipS) [2, 3] (wT 2 (wCs (wN 2) (wCs (wN 3) wNl))) cYes m_agrees_E1) fNil))))))
def m_Ties___init___E1 : FP := (fFn m_agrees (fCons (fVar 2) (fCons (fVar 3) fNil)))
def m_Ties___init__ (A : Adr) : MF := runF 4 [] (sSeq (sIf (bP (cNot (cVal (fFn m_are_rows (fCons (fVar 1) (fCons (fC (.str "0123456789abcdef")) fNil)))))) (sRaise A.BadSheet) sNx)
    (sSeq (sIf (bP (cNot (cVal (fCb gAll (fCons (fLc (fiArgs (fCons (fN (nCat (fLst (fCons (fC .none) fNil)) (fVar 1))) (fCons (fVar 1) fNil)) cZip) [2, 3] (wT 2 (wCs (wN 2) (wCs (wN 3) wNl))) cYes m_Ties___init___E1) fNil))))) (sRaise A.BadSheet) sNx)
    (sEx (mCall (m_Layer___init__ A) (aBr 0 (aBr 1 aNil))))))
def m__law_quarter_E1 : ME := (mP (fSlS (fVar 4) (oSome (fOp gMul (fVar 3) (fVar 2))) (oSome (fOp gAdd (fOp gMul (fVar 3) (fVar 2)) (fVar 3)))))
def m__law_quarter : MF := runF 5 [3] (sSeq (sSet 3 (mP (fOp gDiv (fCb gLen (fCons (fVar 0) fNil)) (fC (.int 2)))))
    (sRt (mLc (iOf (mN (nSlL (fVar 0) (oSome (fOp gMul (fVar 3) (fVar 1))) (oSome (fOp gAdd (fOp gMul (fVar 3) (fVar 1)) (fVar 3))))) cList) [4] (gN 4) (bP cYes) m__law_quarter_E1)))
def m_Layer_signs_along (A : Adr) : MF := runF 3 [] (sSeq (sIf (bP (cVal (fOp gEq (fVar 1) (fC (.str "n"))))) (sRt (mP (fOp gIxL (fFld A.Ties "lines" (fVar 0)) (fC (.int 0))))) sNx)
    (sSeq (sIf (bP (cVal (fOp gEq (fVar 1) (fC (.str "s"))))) (sRt (mP (fOp gIxL (fFld A.Ties "lines" (fVar 0)) (fNeg (fC (.int 1)))))) sNx)
    (sSeq (sIf (bP (cVal (fOp gEq (fVar 1) (fC (.str "w"))))) (sRt (mP (fOp gJoin (fC (.str "")) (fLc (fiOf (fFld A.Ties "lines" (fVar 0)) cList) [2] (wN 2) cYes (fOp gIxS (fVar 2) (fC (.int 0))))))) sNx)
    (sRt (mP (fOp gJoin (fC (.str "")) (fLc (fiOf (fFld A.Ties "lines" (fVar 0)) cList) [2] (wN 2) cYes (fOp gIxS (fVar 2) (fNeg (fC (.int 1)))))))))))
def m_Ties_edge_E1 : FP := (fIf (cVal (fFn m_has_way (fCons (fVar 2) (fCons (fVar 1) fNil)))) (fC (.str "1")) (fC (.str "0")))
def m_Ties_edge (A : Adr) : MF := runF 3 [] (sRt (mP (fOp gJoin (fC (.str "")) (fLc (fiOf (fMeth A.Ties "signs_along" (m_Layer_signs_along A) (fVar 0) (fCons (fVar 1) fNil)) cStr) [2] (wN 2) cYes m_Ties_edge_E1))))
def m_against : MF := runF 1 [] (sRt (mP (fOp gIxS (fC (.str "nesw")) (fOp gMod (fOp gAdd (fOp gSIndex (fC (.str "nesw")) (fVar 0)) (fC (.int 2))) (fC (.int 4))))))
def m_Ties_clash_L1 : MS := (sIf (bP (cVal (fOp gNe (fVar 5) (fVar 6)))) (sEx (mMut0 "list" 3 (aCons (mP (fVar 4)) aNil) gAppend)) sNx)
def m_Ties_clash (A : Adr) : MF := runF 7 [3, 4, 5, 6] (sSeq (sSet 3 (mLst aNil))
    (sSeq (sFor (iArgs (aCons (mP (fMeth A.Ties "edge" (m_Ties_edge A) (fVar 0) (fCons (fVar 2) fNil))) (aCons (mP (fMeth A.Ties "edge" (m_Ties_edge A) (fVar 1) (fCons (fFn m_against (fCons (fVar 2) fNil)) fNil))) aNil)) cEnumZipS) (gT 2 (gCs (gN 4) (gCs (gT 2 (gCs (gN 5) (gCs (gN 6) gNl))) gNl)))
      m_Ties_clash_L1)
    (sRt (mMv 3))))
def m__law_whole : MF := runF 1 [] (sRt (mP (fAnd (fIsi "int" (fVar 0)) (fNot (fIsi "bool" (fVar 0))))))
def m__law_clash_right_L1 : MS := (sSeq (sIf (bP (cOr (cNot (cVal (fIsi "list" (fVar 5)))) (cOr (cVal (fOp gNeD (fVar 5) (fVar 3))) (cNot (cVal (fCb gAll (fCons (fLc (fiOf (fVar 5) cList) [6] (wN 6) cYes (fFn m__law_whole (fCons (fVar 6) fNil))) fNil))))))) (sRt (mP (fC (.bool false)))) sNx)
      (sEx (mMut0 "list" 5 (aCons (mP (fC (.int 0))) aNil) gAppend)))
def m__law_clash_right (A : Adr) : MF := runF 7 [4, 5] (sSeq (sSet 4 (mOp gDGet (mDisp ["e", "s"] (aCons (mP (fC (.str "w"))) (aCons (mP (fC (.str "n"))) aNil))) (mP (fVar 2))))
    (sSeq (sForO (aCons (mMethB A.Ties "clash" (m_Ties_clash A) 0 (aBr 1 (aBr 2 aNil))) (aCons (mMethB A.Ties "clash" (m_Ties_clash A) 1 (aBr 0 (aBr 4 aNil))) (aCons (mMethB A.Ties "clash" (m_Ties_clash A) 0 (aBr 1 (aBr 2 aNil))) aNil))) 5
      m__law_clash_right_L1)
    (sRt (mP (fC (.bool true))))))
def m__law_word (A : Adr) : MF := runF 4 [1] (sSeq (sSet 1 (mLst (aCons (mP (fTup (fCons (fC (.str "sheet")) (fCons (fIsX [(A.BadSheet, true)] (fVar 0)) fNil)))) (aCons (mP (fTup (fCons (fC (.str "place")) (fCons (fIsX [(A.BadSheet, false)] (fVar 0)) fNil)))) (aCons (mP (fTup (fCons (fC (.str "cell")) (fCons (fIsX [(A.BadSheet, false)] (fVar 0)) fNil)))) aNil)))))
    (sSeq (sSet 1 (mCatO (mMv 1) (mLst (aCons (mP (fTup (fCons (fC (.str "window")) (fCons (fIsX [(A.BadSheet, false)] (fVar 0)) fNil)))) (aCons (mP (fTup (fCons (fC (.str "nosheet")) (fCons (fIsX [(A.BadSheet, false)] (fVar 0)) fNil)))) aNil)))))
    (sSeq (sSet 1 (mCatO (mMv 1) (mLst (aCons (mP (fTup (fCons (fC (.str "noway")) (fCons (fIsX [(A.BadSheet, false)] (fVar 0)) fNil)))) (aCons (mP (fTup (fCons (fC (.str "noname")) (fCons (fIsX [(A.BadSheet, false)] (fVar 0)) fNil)))) aNil)))))
    (sSeq (sSet 1 (mCatO (mMv 1) (mLst (aCons (mP (fTup (fCons (fC (.str "many")) (fCons (fIsX [(A.BadSheet, false)] (fVar 0)) fNil)))) (aCons (mP (fTup (fCons (fC (.str "line")) (fCons (fIsX [(A.BadSheet, false)] (fVar 0)) fNil)))) aNil)))))
    (sSeq (sSet 1 (mCatO (mMv 1) (mLst (aCons (mP (fTup (fCons (fC (.str "text")) (fCons (fIsX [(A.BadSheet, false)] (fVar 0)) fNil)))) (aCons (mP (fTup (fCons (fC (.str "bare")) (fCons (fNot (fIsX [(A.BadSheet, true)] (fVar 0))) fNil)))) aNil)))))
    (sRt (mLc (iOf (mMv 1) cList) [2, 3] (gT 2 (gCs (gN 2) (gCs (gN 3) gNl))) (bP (cVal (fVar 3))) (mP (fVar 2)))))))))
def m__law_refused (A : Adr) : MF := runF 3 [1, 2] (sSeq (sSet 1 (mP (fC .none)))
    (sSeq (sTryKeep [(A.BadSheet, true)] 2 1 (sEx (mZ (mNew A.Ties (m_Ties___init__ A) (aBr 0 aNil)))))
    (sRt (mP (fAnd (fOp gNotN (fVar 1) (fC .none)) (fOp gEqD (fFn (m__law_word A) (fCons (fVar 1) fNil)) (fLst (fCons (fC (.str "sheet")) fNil))))))))
def m_Layer_sign_at (A : Adr) : MF := runF 3 [] (sRt (mP (fOp gIxS (fOp gIxL (fFld A.Ties "lines" (fVar 0)) (fVar 1)) (fVar 2))))
def m_Ties_ways_at (A : Adr) : MF := runF 3 [] (sRt (mP (fFn m_ways_in (fCons (fFn m_bits_of (fCons (fMeth A.Ties "sign_at" (m_Layer_sign_at A) (fVar 0) (fCons (fVar 1) (fCons (fVar 2) fNil))) fNil)) fNil))))
def m__law_whole_right_L1 (A : Adr) : MS := (sSeq (sAsg (mP (fOp gDGet (fVar 4) (fVar 5))) (gT 2 (gCs (gN 6) (gCs (gN 7) gNl))))
      (sIf (bP (cVal (fOp gNe (fMeth A.Ties "edge" (m_Ties_edge A) (fVar 3) (fCons (fVar 5) fNil)) (fOp gAddS (fMeth A.Ties "edge" (m_Ties_edge A) (fOp gIxL (fVar 1) (fVar 6)) (fCons (fVar 5) fNil)) (fMeth A.Ties "edge" (m_Ties_edge A) (fOp gIxL (fVar 1) (fVar 7)) (fCons (fVar 5) fNil)))))) (sRt (mP (fC (.bool false)))) sNx))
def m__law_whole_right_L2 (A : Adr) : MS := (sSeq (sSet 10 (mRd (fOp gIxL (fVar 1) (fOp gAdd (fOp gMul (fOp gDiv (fVar 8) (fVar 2)) (fC (.int 2))) (fOp gDiv (fVar 9) (fVar 2)))) (pIx (pVar 1) (fOp gAdd (fOp gMul (fOp gDiv (fVar 8) (fVar 2)) (fC (.int 2))) (fOp gDiv (fVar 9) (fVar 2))))))
        (sIf (bP (cVal (fOp gNe (fMeth A.Ties "ways_at" (m_Ties_ways_at A) (fVar 3) (fCons (fVar 8) (fCons (fVar 9) fNil))) (fMeth A.Ties "ways_at" (m_Ties_ways_at A) (fVar 10) (fCons (fOp gMod (fVar 8) (fVar 2)) (fCons (fOp gMod (fVar 9) (fVar 2)) fNil)))))) (sRt (mP (fC (.bool false)))) sNx))
def m__law_whole_right_L3 (A : Adr) : MS := (sFor (iArgs (aCons (mP (fOp gMul (fC (.int 2)) (fVar 2))) aNil) cRng1) (gN 9)
        (m__law_whole_right_L2 A))
def m__law_whole_right (A : Adr) : MF := runF 11 [2, 3, 4, 5, 6, 7, 8, 9, 10] (sSeq (sSet 2 (mP (fOp gDiv (fCb gLen (fCons (fVar 0) fNil)) (fC (.int 2)))))
    (sSeq (sSet 3 (mZ (mNew A.Ties (m_Ties___init__ A) (aCons (mN (nListC (fVar 0))) aNil))))
    (sSeq (sSet 4 (mDisp ["n", "s", "w", "e"] (aCons (mP (fTup (fCons (fC (.int 0)) (fCons (fC (.int 1)) fNil)))) (aCons (mP (fTup (fCons (fC (.int 2)) (fCons (fC (.int 3)) fNil)))) (aCons (mP (fTup (fCons (fC (.int 0)) (fCons (fC (.int 2)) fNil)))) (aCons (mP (fTup (fCons (fC (.int 1)) (fCons (fC (.int 3)) fNil)))) aNil))))))
    (sSeq (sFor (iOf (mP (fC (.str "nesw"))) cStr) (gN 5)
      (m__law_whole_right_L1 A))
    (sSeq (sFor (iArgs (aCons (mP (fOp gMul (fC (.int 2)) (fVar 2))) aNil) cRng1) (gN 8)
      (m__law_whole_right_L3 A))
    (sRt (mP (fC (.bool true)))))))))
def m_law_E1 (A : Adr) : ME := (mZ (mNew A.Ties (m_Ties___init__ A) (aCons (mCall m__law_quarter (aBr 4 (aBr 12 (aBr 13 aNil)))) aNil)))
def m_law_L1 (A : Adr) : MS := (sIf (bP (cNot (cVal (fFn (m__law_clash_right A) (fCons (fOp gIxL (fVar 6) (fVar 9)) (fCons (fOp gIxL (fVar 6) (fVar 10)) (fCons (fVar 11) (fCons (fOp gIxL (fVar 5) (fVar 8)) fNil)))))))) (sRt (mP (fC (.bool false)))) sNx)
def m_law_L2 (A : Adr) : MS := (sSeq (sSet 3 (mCall m__law_state (aCons (mN (nSlL (fVar 1) (oSome (fVar 2)) oNone)) (aBr 2 aNil))))
      (sSeq (sSet 4 (mCall m__law_ties (aBr 3 (aCons (mOp gIxL (mLst (aCons (mP (fC (.int 4))) (aCons (mP (fC (.int 6))) (aCons (mP (fC (.int 4))) (aCons (mP (fC (.int 8))) (aCons (mP (fC (.int 4))) (aCons (mP (fC (.int 6))) (aCons (mP (fC (.int 4))) (aCons (mP (fC (.int 4))) (aCons (mP (fC (.int 6))) (aCons (mP (fC (.int 12))) aNil))))))))))) (mCall m__law_take (aBr 3 (aCons (mP (fC (.int 10))) aNil)))) aNil))))
      (sSeq (sAsg (mCall m__law_spoilt (aCons (mFz 4) (aBr 3 aNil))) (gT 2 (gCs (gN 4) (gCs (gN 5) gNl))))
      (sSeq (sSet 6 (mLc (iOf (mP (fTup (fCons (fTup (fCons (fC (.int 0)) (fCons (fC (.int 0)) fNil))) (fCons (fTup (fCons (fC (.int 0)) (fCons (fC (.int 1)) fNil))) (fCons (fTup (fCons (fC (.int 1)) (fCons (fC (.int 0)) fNil))) (fCons (fTup (fCons (fC (.int 1)) (fCons (fC (.int 1)) fNil))) fNil)))))) cTup) [12, 13] (gT 2 (gCs (gN 12) (gCs (gN 13) gNl))) (bP cYes) (m_law_E1 A)))
      (sSeq (sSet 7 (mLst (aCons (mP (fTup (fCons (fC (.int 0)) (fCons (fC (.int 1)) (fCons (fC (.str "e")) fNil))))) (aCons (mP (fTup (fCons (fC (.int 2)) (fCons (fC (.int 3)) (fCons (fC (.str "e")) fNil))))) (aCons (mP (fTup (fCons (fC (.int 0)) (fCons (fC (.int 2)) (fCons (fC (.str "s")) fNil))))) (aCons (mP (fTup (fCons (fC (.int 1)) (fCons (fC (.int 3)) (fCons (fC (.str "s")) fNil))))) aNil))))))
      (sSeq (sFor (iArgs (aCons (mMv 7) aNil) cEnum) (gT 2 (gCs (gN 8) (gCs (gT 3 (gCs (gN 9) (gCs (gN 10) (gCs (gN 11) gNl)))) gNl)))
        (m_law_L1 A))
      (sIf (bP (cVal (fOp gNeD (fVar 5) (fLst (fCons (fLst fNil) (fCons (fLst fNil) (fCons (fLst fNil) (fCons (fLst fNil) fNil)))))))) (sIf (bP (cNot (cVal (fFn (m__law_refused A) (fCons (fVar 4) fNil))))) (sRt (mP (fC (.bool false)))) sNx) (sIf (bNot (bE (mCall (m__law_whole_right A) (aBr 4 (aBr 6 aNil))))) (sRt (mP (fC (.bool false)))) sNx))))))))
def m_law (A : Adr) : MF := runF 14 [1, 2, 3, 4, 5, 6, 7, 8, 9, 10, 11] (sSeq (sSet 1 (mCatO (mN (nSlL (fVar 0) oNone (oSome (fC (.int 63))))) (mLst (aCons (mP (fC (.int 6))) aNil))))
    (sSeq (sFor (iArgs (aCons (mP (fCb gMin2 (fCons (fC (.int 30)) (fCons (fCb gLen (fCons (fVar 1) fNil)) fNil)))) aNil) cRng1) (gN 2)
      (m_law_L2 A))
    (sRt (mP (fC (.bool true))))))
section
variable {P : Program} {w : World} {K : PySem.W.Frag} {mg : Str → Option Value} {base : Heap} {A : Adr}
theorem ok_fn__law_state (D : FnIn K mg "_law_state" s__law_state) (T : Txt mg) (TC : TxC K mg A)  : Has P w K mg base (L2.CX P w) 1 "_law_state" ["_law_cells", "_law_k"] (FnM K 2 m__law_state) := by
  refine D.okF (W := []) sc__law_state (by decide) (fun _ _ _ _ _ _ us hl => match us, hl with | [_, _], _ => rfl) (fun f cdv Ar outer s H E hr => ?_)
  have nd := sc__law_state.nd
  refine ⟨_, (pss_one (ps_ret (pe_disp (pps_cons pe_str (pv 0) (pps_cons pe_str pe_int (pps_cons pe_str pe_int (pps_cons pe_str (pv 1) pps_nil)))) (by rfl) (by rfl) (fun z => by cases z) (by decide)))), ?_⟩
  exact (ss_Rt (se_Disp (sp_cons se_Mv (sp_cons (se_P pp_int) (sp_cons (se_P pp_int) (sp_cons (se_P pp_var) sp_nil))))))
theorem ok_fn__law_mixed (D : FnIn K mg "_law_mixed" s__law_mixed) (T : Txt mg) (TC : TxC K mg A)  : Has P w K mg base (L2.CX P w) 1 "_law_mixed" ["_law_cell", "_law_k"] (FnM K 2 m__law_mixed) := by
  refine D.okF (W := [2]) sc__law_mixed (by decide) (fun _ _ _ _ _ _ us hl => match us, hl with | [_, _], _ => rfl) (fun f cdv Ar outer s H E hr => ?_)
  have nd := sc__law_mixed.nd
  refine ⟨_, (pss_cons (ps_set (i := 2) nd rfl (Or.inl rfl) (pe_op op_mod (pe_op op_mul (pe_op op_add (pe_op op_add (pe_op op_add (pe_op op_mod (pv 0) pe_int) (pe_op op_mul (pe_op op_mul pe_int (pv 1)) (pv 1))) (pe_op op_mul pe_int (pv 1))) pe_int) pe_int) pe_int))
    (pss_one (ps_ret (pe_op op_mod (pe_op op_mul (pv 2) (pe_op op_add pe_int (pe_op op_mul pe_int (pv 1)))) pe_int)))), ?_⟩
  exact (ss_Seq (ss_Set (se_P (pp_op os_mod (pp_op os_mul (pp_op os_add (pp_op os_add (pp_op os_add (pp_op os_mod pp_var pp_int) (pp_op os_mul (pp_op os_mul pp_int pp_var) pp_var)) (pp_op os_mul pp_int pp_var)) pp_int) pp_int) pp_int)) (by decide))
    (ss_Rt (se_P (pp_op os_mod (pp_op os_mul pp_var (pp_op os_add pp_int (pp_op os_mul pp_int pp_var))) pp_int))))
theorem ok_fn__law_take (D : FnIn K mg "_law_take" s__law_take) (T : Txt mg) (TC : TxC K mg A) (F__law_mixed : Has P w K mg base (L2.CX P w) 1 "_law_mixed" ["_law_cell", "_law_k"] (FnM K 2 m__law_mixed)) : Has P w K mg base (L2.CX P w) 2 "_law_take" ["_law_state_here", "_law_many"] (FnM K 2 m__law_take) := by
  refine D.okF (W := [2, 3, 4, 5]) sc__law_take (by decide) (fun _ _ _ _ _ _ us hl => match us, hl with | [_, _], _ => rfl) (fun f cdv Ar outer s H E hr => ?_)
  have nd := sc__law_take.nd
  refine ⟨_, (pss_cons (ps_set (i := 2) nd rfl (Or.inl rfl) (pe_dget (hu_of hr) (pv 0) pe_str (fun _ _ => rfl)))
    (pss_cons (ps_dput (hu_of hr) (pv 0) pe_str (pe_op op_add (pv 2) pe_int) rfl)
    (pss_cons (ps_set (i := 3) nd rfl (Or.inl rfl) (pe_ix (ix_listK K) (pe_dget (hu_of hr) (pv 0) pe_str (fun _ _ => rfl)) (pe_op op_mod (pe_op op_fdiv (pv 2) pe_int) (pe_callB (call_lenK K) (by rfl) T.b_len (by decide +kernel) (pa_cons (pe_dget (hu_of hr) (pv 0) pe_str (fun _ _ => rfl)) pa_nil))) (fun _ _ => rfl)))
    (pss_cons (ps_if (pt_cmpR op_eq (pe_op op_mod (pv 2) pe_int) pe_int (nomark _)) (pss_one (ps_dput (hu_of hr) (pv 0) pe_str (pe_ifExp (pt_cmpR op_ge (pv 3) (pe_op op_pow pe_int pe_int) (nomark _)) (pv 3) pe_int) rfl)) pss_nil)
    (pss_cons (ps_if (pt_cmpR op_gt (pe_dget (hu_of hr) (pv 0) pe_str (fun _ _ => rfl)) pe_int (nomark _)) (pss_cons (ps_set (i := 4) nd rfl (Or.inl rfl) (pe_op op_mod (pe_dget (hu_of hr) (pv 0) pe_str (fun _ _ => rfl)) (pv 1)))
      (pss_cons (ps_dput (hu_of hr) (pv 0) pe_str (pe_op op_fdiv (pe_dget (hu_of hr) (pv 0) pe_str (fun _ _ => rfl)) (pv 1)) rfl)
      (pss_one (ps_ret (pv 4))))) pss_nil)
    (pss_cons (ps_set (i := 5) nd rfl (Or.inl rfl) (pe_op op_add (pv 2) (pe_op op_mul pe_int (pe_dget (hu_of hr) (pv 0) pe_str (fun _ _ => rfl)))))
    (pss_one (ps_ret (pe_op op_mod (pe_op op_fdiv (pe_op op_add (pe_op op_mul (pe_fnS F__law_mixed hr (by decide) rfl (fun σ => passAt (takes_of rfl rfl rfl rfl) σ) (pa_cons (pv 3) (pa_cons (pv 5) pa_nil))) pe_int) (pe_fnS F__law_mixed hr (by decide) rfl (fun σ => passAt (takes_of rfl rfl rfl rfl) σ) (pa_cons (pv 3) (pa_cons (pe_op op_add (pv 5) pe_int) pa_nil)))) pe_int) (pv 1)))))))))), ?_⟩
  exact (ss_Seq (ss_Set (se_P (pp_dget pp_var pp_str)) (by decide))
    (ss_Seq (ss_SetK (se_P (pp_op os_add pp_var pp_int)) so_var pp_str)
    (ss_Seq (ss_Set (se_P (pp_op os_ixL (pp_dget pp_var pp_str) (pp_op os_mod (pp_op os_div pp_var pp_int) (pp_cb cs_len (pp_cons (pp_dget pp_var pp_str) pp_nil))))) (by decide))
    (ss_Seq (ss_If (st_P (pt_val' (pp_op os_eq (pp_op os_mod pp_var pp_int) pp_int))) (ss_SetK (se_P (pp_if (pt_val' (pp_op os_ge pp_var (pp_op os_pow pp_int pp_int))) pp_var pp_int)) so_var pp_str) ss_Nx)
    (ss_Seq (ss_If (st_P (pt_val' (pp_op os_gt (pp_dget pp_var pp_str) pp_int))) (ss_Seq (ss_Set (se_P (pp_op os_mod (pp_dget pp_var pp_str) pp_var)) (by decide))
      (ss_Seq (ss_SetK (se_P (pp_op os_div (pp_dget pp_var pp_str) pp_var)) so_var pp_str)
      (ss_Rt (se_P pp_var)))) ss_Nx)
    (ss_Seq (ss_Set (se_P (pp_op os_add pp_var (pp_op os_mul pp_int (pp_dget pp_var pp_str)))) (by decide))
    (ss_Rt (se_P (pp_op os_mod (pp_op os_div (pp_op os_add (pp_op os_mul (pp_fn (pp_cons pp_var (pp_cons pp_var pp_nil)) (lp_cons (lp_cons lp_nil))) pp_int) (pp_fn (pp_cons pp_var (pp_cons (pp_op os_add pp_var pp_int) pp_nil)) (lp_cons (lp_cons lp_nil)))) pp_int) pp_var)))))))))
theorem ok_fn__law_bits (D : FnIn K mg "_law_bits" s__law_bits) (T : Txt mg) (TC : TxC K mg A) (F__law_take : Has P w K mg base (L2.CX P w) 2 "_law_take" ["_law_state_here", "_law_many"] (FnM K 2 m__law_take)) : Has P w K mg base (L2.CX P w) 3 "_law_bits" ["_law_state_here", "_law_many", "_law_long", "_law_share"] (FnM K 4 m__law_bits) := by
  refine D.okF (W := [4, 5]) sc__law_bits (by decide) (fun _ _ _ _ _ _ us hl => match us, hl with | [_, _, _, _], _ => rfl) (fun f cdv Ar outer s H E hr => ?_)
  have nd := sc__law_bits.nd
  refine ⟨_, (pss_cons (ps_set (i := 4) nd rfl (Or.inl rfl) (pe_lst pa_nil))
    (pss_cons (ps_for (passes_of rfl) rfl (pi_range1 (by rfl) T.b_range (pa_cons (pv 1) pa_nil)) (pg_name (i := 5) nd rfl (Or.inl rfl))
      (pss_one (ps_expr (pe_bmK K PySem.F.plainAttrs_list PySem.F.slot_list_append PySem.F.type_list_append mt_append (pv 4) (pa_cons (pe_lc (own := [("_law_column", 6)]) (by rfl) nd (pi_range1 (by rfl) T.b_range (pa_cons (pv 2) pa_nil)) (blkOk_by (own := [("_law_column", 6)]) (N := ["_law_state_here", "_law_many", "_law_long", "_law_share", "_law_found", "_law_row", "_law_column"]) (sc := (defScope s__law_bits)) (by decide +kernel)) (fun _ _ _ _ _ => (pg_name (i := 6) nd rfl (Or.inl rfl))) (fun _ _ _ _ _ => pts_nil) (fun _ _ _ _ _ => (pe_callTy call_int1 (by rfl) T.b_int (by decide +kernel) (pa_cons (pe_cmpR op_lt (pe_fnS F__law_take hr (by decide) rfl passE (pa_cons (pv 0) (pa_cons pe_int pa_nil))) (pv 3) (nomark _)) pa_nil)))) pa_nil)))))
    (pss_one (ps_ret (pv 4))))), ?_⟩
  exact (ss_Seq (ss_Set (se_Lst sa_Nil) (by decide))
    (ss_Seq (ss_For (si_rng1 (sa_Cons (se_P pp_var) sa_Nil)) (gt_name (by decide))
      (ss_Ex (se_Mut0 (sa_Cons (se_Lc (si_rng1 (sa_Cons (se_P pp_var) sa_Nil)) (gt_name (by decide)) (st_P pt_yes) (se_Cb cs_int1 (sa_Cons (se_Op os_lt (se_Call (sa_Br (sa_Cons (se_P pp_int) sa_Nil)) (len_Br (len_Cons len_Nil))) (se_P pp_var)) sa_Nil))) sa_Nil) mo_append)))
    (ss_Rt se_Mv)))
theorem ok_fn__law_ties (D : FnIn K mg "_law_ties" s__law_ties) (T : Txt mg) (TC : TxC K mg A) (F__law_take : Has P w K mg base (L2.CX P w) 2 "_law_take" ["_law_state_here", "_law_many"] (FnM K 2 m__law_take)) (F__law_bits : Has P w K mg base (L2.CX P w) 3 "_law_bits" ["_law_state_here", "_law_many", "_law_long", "_law_share"] (FnM K 4 m__law_bits)) : Has P w K mg base (L2.CX P w) 4 "_law_ties" ["_law_state_here", "_law_size"] (FnM K 2 m__law_ties) := by
  refine D.okF (W := [2, 3, 4, 5, 6, 7, 8, 9]) sc__law_ties (by decide) (fun _ _ _ _ _ _ us hl => match us, hl with | [_, _], _ => rfl) (fun f cdv Ar outer s H E hr => ?_)
  have nd := sc__law_ties.nd
  refine ⟨_, (pss_cons (ps_set (i := 2) nd rfl (Or.inl rfl) (pe_ix (ix_listK K) (pe_lst (pa_cons pe_int (pa_cons pe_int (pa_cons pe_int (pa_cons pe_int (pa_cons pe_int (pa_cons pe_int pa_nil))))))) (pe_fnS F__law_take hr (by decide) rfl (fun σ => passAt (takes_of rfl rfl rfl rfl) σ) (pa_cons (pv 0) (pa_cons pe_int pa_nil))) (fun _ _ => rfl)))
    (pss_cons (ps_set (i := 3) nd rfl (Or.inl rfl) (pe_fnS F__law_bits hr (by decide) rfl (fun σ => passAt (takes_of rfl rfl rfl rfl) σ) (pa_cons (pv 0) (pa_cons (pe_op op_add (pv 1) pe_int) (pa_cons (pv 1) (pa_cons (pv 2) pa_nil))))))
    (pss_cons (ps_set (i := 4) nd rfl (Or.inl rfl) (pe_fnS F__law_bits hr (by decide) rfl (fun σ => passAt (takes_of rfl rfl rfl rfl) σ) (pa_cons (pv 0) (pa_cons (pv 1) (pa_cons (pe_op op_add (pv 1) pe_int) (pa_cons (pv 2) pa_nil))))))
    (pss_cons (ps_set (i := 5) nd rfl (Or.inl rfl) (pe_lst pa_nil))
    (pss_cons (ps_for (passes_of rfl) rfl (pi_range1 (by rfl) T.b_range (pa_cons (pv 1) pa_nil)) (pg_name (i := 6) nd rfl (Or.inl rfl))
      (pss_cons (ps_set (i := 7) nd rfl (Or.inl rfl) pe_str)
      (pss_cons (ps_for (passes_of rfl) rfl (pi_range1 (by rfl) T.b_range (pa_cons (pv 1) pa_nil)) (pg_name (i := 8) nd rfl (Or.inl rfl))
        (pss_cons (ps_set (i := 9) nd rfl (Or.inl rfl) (pe_ix (ix_listK K) (pe_ix (ix_listK K) (pv 3) (pv 6) (fun _ _ => rfl)) (pv 8) (fun _ _ => rfl)))
        (pss_cons (ps_set (i := 9) nd rfl (Or.inl rfl) (pe_op op_add (pv 9) (pe_op op_mul pe_int (pe_ix (ix_listK K) (pe_ix (ix_listK K) (pv 4) (pv 6) (fun _ _ => rfl)) (pe_op op_add (pv 8) pe_int) (fun _ _ => rfl)))))
        (pss_cons (ps_set (i := 9) nd rfl (Or.inl rfl) (pe_op op_add (pv 9) (pe_op op_mul pe_int (pe_ix (ix_listK K) (pe_ix (ix_listK K) (pv 3) (pe_op op_add (pv 6) pe_int) (fun _ _ => rfl)) (pv 8) (fun _ _ => rfl)))))
        (pss_cons (ps_set (i := 9) nd rfl (Or.inl rfl) (pe_op op_add (pv 9) (pe_op op_mul pe_int (pe_ix (ix_listK K) (pe_ix (ix_listK K) (pv 4) (pv 6) (fun _ _ => rfl)) (pv 8) (fun _ _ => rfl)))))
        (pss_one (ps_set (i := 7) nd rfl (Or.inl rfl) (pe_op op_add_str (pv 7) (pe_ix ix_str pe_str (pv 9) (fun _ _ => rfl))))))))))
      (pss_one (ps_expr (pe_bmK K PySem.F.plainAttrs_list PySem.F.slot_list_append PySem.F.type_list_append mt_append (pv 5) (pa_cons (pv 7) pa_nil)))))))
    (pss_one (ps_ret (pv 5)))))))), ?_⟩
  exact (ss_Seq (ss_Set (se_Op os_ixL (se_Lst (sa_Cons (se_P pp_int) (sa_Cons (se_P pp_int) (sa_Cons (se_P pp_int) (sa_Cons (se_P pp_int) (sa_Cons (se_P pp_int) (sa_Cons (se_P pp_int) sa_Nil))))))) (se_Call (sa_Br (sa_Cons (se_P pp_int) sa_Nil)) (len_Br (len_Cons len_Nil)))) (by decide))
    (ss_Seq (ss_Set (se_Call (sa_Br (sa_Cons (se_P (pp_op os_add pp_var pp_int)) (sa_Br (sa_Br sa_Nil)))) (len_Br (len_Cons (len_Br (len_Br len_Nil))))) (by decide))
    (ss_Seq (ss_Set (se_Call (sa_Br (sa_Br (sa_Cons (se_P (pp_op os_add pp_var pp_int)) (sa_Br sa_Nil)))) (len_Br (len_Br (len_Cons (len_Br len_Nil))))) (by decide))
    (ss_Seq (ss_Set (se_Lst sa_Nil) (by decide))
    (ss_Seq (ss_For (si_rng1 (sa_Cons (se_P pp_var) sa_Nil)) (gt_name (by decide))
      (ss_Seq (ss_Set (se_P pp_str) (by decide))
      (ss_Seq (ss_For (si_rng1 (sa_Cons (se_P pp_var) sa_Nil)) (gt_name (by decide))
        (ss_Seq (ss_Set (se_P (pp_op os_ixL (pp_op os_ixL pp_var pp_var) pp_var)) (by decide))
        (ss_Seq (ss_Set (se_P (pp_op os_add pp_var (pp_op os_mul pp_int (pp_op os_ixL (pp_op os_ixL pp_var pp_var) (pp_op os_add pp_var pp_int))))) (by decide))
        (ss_Seq (ss_Set (se_P (pp_op os_add pp_var (pp_op os_mul pp_int (pp_op os_ixL (pp_op os_ixL pp_var (pp_op os_add pp_var pp_int)) pp_var)))) (by decide))
        (ss_Seq (ss_Set (se_P (pp_op os_add pp_var (pp_op os_mul pp_int (pp_op os_ixL (pp_op os_ixL pp_var pp_var) pp_var)))) (by decide))
        (ss_Set (se_P (pp_op os_addS pp_var (pp_op os_ixS pp_str pp_var))) (by decide)))))))
      (ss_Ex (se_Mut0 (sa_Cons (se_P pp_var) sa_Nil) mo_append)))))
    (ss_Rt se_Mv))))))
theorem ok_fn__law_turned (D : FnIn K mg "_law_turned" s__law_turned) (T : Txt mg) (TC : TxC K mg A)  : Has P w K mg base (L2.CX P w) 1 "_law_turned" ["_law_rows", "_law_row", "_law_column", "_law_bit"] (FnM K 4 m__law_turned) := by
  refine D.okF (W := [4, 5]) sc__law_turned (by decide) (fun _ _ _ _ _ _ us hl => match us, hl with | [_, _, _, _], _ => rfl) (fun f cdv Ar outer s H E hr => ?_)
  have nd := sc__law_turned.nd
  refine ⟨_, (pss_cons (ps_set (i := 4) nd rfl (Or.inl rfl) (pe_ix ix_str pe_str (pe_op op_xor (pe_m1 PySem.F.slot_str_index PySem.F.type_str_index mt_sindex pe_str (pe_ix ix_str (pe_ix (ix_listK K) (pv 0) (pv 1) (fun _ _ => rfl)) (pv 2) (fun _ _ => rfl))) (pv 3)) (fun _ _ => rfl)))
    (pss_cons (ps_set (i := 5) nd rfl (Or.inl rfl) (pe_op op_add_str (pe_op op_add_str (pe_slice sl_str (pe_ix (ix_listK K) (pv 0) (pv 1) (fun _ _ => rfl)) po_none (po_some (pv 2))) (pv 4)) (pe_slice sl_str (pe_ix (ix_listK K) (pv 0) (pv 1) (fun _ _ => rfl)) (po_some (pe_op op_add (pv 2) pe_int)) po_none)))
    (pss_one (ps_ret (pe_op op_cat (pe_op op_cat (pe_slice (sl_listK K) (pv 0) po_none (po_some (pv 1))) (pe_lst (pa_cons (pv 5) pa_nil))) (pe_slice (sl_listK K) (pv 0) (po_some (pe_op op_add (pv 1) pe_int)) po_none)))))), ?_⟩
  exact (ss_Seq (ss_Set (se_P (pp_op os_ixS pp_str (pp_op os_bxor (pp_m1 ms_sindex pp_str (pp_op os_ixS (pp_op os_ixL pp_var pp_var) pp_var)) pp_var))) (by decide))
    (ss_Seq (ss_Set (se_P (pp_op os_addS (pp_op os_addS (pp_slS (pp_op os_ixL pp_var pp_var) po_none' (po_some' pp_var)) pp_var) (pp_slS (pp_op os_ixL pp_var pp_var) (po_some' (pp_op os_add pp_var pp_int)) po_none'))) (by decide))
    (ss_Rt (se_CatO (se_CatO (se_N (pn_slL pp_var po_none' (po_some' pp_var))) (se_Lst (sa_Cons (se_P pp_var) sa_Nil))) (se_N (pn_slL pp_var (po_some' (pp_op os_add pp_var pp_int)) po_none'))))))
theorem ok_fn__law_spoilt (D : FnIn K mg "_law_spoilt" s__law_spoilt) (T : Txt mg) (TC : TxC K mg A) (F__law_take : Has P w K mg base (L2.CX P w) 2 "_law_take" ["_law_state_here", "_law_many"] (FnM K 2 m__law_take)) (F__law_turned : Has P w K mg base (L2.CX P w) 1 "_law_turned" ["_law_rows", "_law_row", "_law_column", "_law_bit"] (FnM K 4 m__law_turned)) : Has P w K mg base (L2.CX P w) 3 "_law_spoilt" ["_law_rows", "_law_state_here"] (FnM K 2 m__law_spoilt) := by
  refine D.okF (W := [0, 2, 3, 4, 5, 6, 7]) sc__law_spoilt (by decide) (fun _ _ _ _ _ _ us hl => match us, hl with | [_, _], _ => rfl) (fun f cdv Ar outer s H E hr => ?_)
  have nd := sc__law_spoilt.nd
  refine ⟨_, (pss_cons (ps_set (i := 2) nd rfl (Or.inl rfl) (pe_op op_fdiv (pe_callB (call_lenK K) (by rfl) T.b_len (by decide +kernel) (pa_cons (pv 0) pa_nil)) pe_int))
    (pss_cons (ps_set (i := 3) nd rfl (Or.inl rfl) (pe_lst (pa_cons pe_dnewK (pa_cons pe_dnewK (pa_cons pe_dnewK (pa_cons pe_dnewK pa_nil))))))
    (pss_cons (ps_for (passes_of rfl) rfl (pi_range1 (by rfl) T.b_range (pa_cons (pe_fnS F__law_take hr (by decide) rfl (fun σ => passAt (takes_of rfl rfl rfl rfl) σ) (pa_cons (pv 1) (pa_cons pe_int pa_nil))) pa_nil)) (pg_name (i := 4) nd rfl (Or.inl rfl))
      (pss_cons (ps_par3 (i := 5) (j := 6) (l := 7) (by rfl) nd rfl rfl rfl (by decide) (by decide) (by decide) rfl rfl rfl (pa_cons (pe_fnS F__law_take hr (by decide) rfl (fun σ => passAt (takes_of rfl rfl rfl rfl) σ) (pa_cons (pv 1) (pa_cons pe_int pa_nil))) (pa_cons (pe_fnS F__law_take hr (by decide) rfl (fun σ => passAt (takes_of rfl rfl rfl rfl) σ) (pa_cons (pv 1) (pa_cons (pv 2) pa_nil))) (pa_cons (pe_fnS F__law_take hr (by decide) rfl (fun σ => passAt (takes_of rfl rfl rfl rfl) σ) (pa_cons (pv 1) (pa_cons pe_int pa_nil))) pa_nil))) (by rfl))
      (pss_one (ps_if (pt_cmp (pc_dnotin (hu_of hr) (pv 6) (pe_ix (ix_listK K) (pv 3) (pv 5) (fun _ _ => rfl)))) (pss_cons (ps_dput (hu_of hr) (pe_ix (ix_listK K) (pv 3) (pv 5) (fun _ _ => rfl)) (pv 6) pe_bl rfl)
        (pss_one (ps_if (pt_cmpR op_lt (pv 5) pe_int (nomark _)) (pss_one (ps_set (i := 0) nd rfl (Or.inl rfl) (pe_fnS F__law_turned hr (by decide) rfl (fun σ => passAt (takes_of rfl rfl rfl rfl) σ) (pa_cons (pv 0) (pa_cons (pe_op op_add (pe_op op_mul (pv 2) (pv 5)) (pv 6)) (pa_cons (pe_op op_add (pe_op op_sub (pv 2) pe_int) (pv 7)) (pa_cons (pe_ix (ix_listK K) (pe_lst (pa_cons pe_int (pa_cons pe_int pa_nil))) (pv 7) (fun _ _ => rfl)) pa_nil))))))) (pss_one (ps_set (i := 0) nd rfl (Or.inl rfl) (pe_fnS F__law_turned hr (by decide) rfl (fun σ => passAt (takes_of rfl rfl rfl rfl) σ) (pa_cons (pv 0) (pa_cons (pe_op op_add (pe_op op_sub (pv 2) pe_int) (pv 7)) (pa_cons (pe_op op_add (pe_op op_mul (pv 2) (pe_op op_sub (pv 5) pe_int)) (pv 6)) (pa_cons (pe_ix (ix_listK K) (pe_lst (pa_cons pe_int (pa_cons pe_int pa_nil))) (pv 7) (fun _ _ => rfl)) pa_nil)))))))))) pss_nil))))
    (pss_one (ps_ret (pe_tup (pa_cons (pv 0) (pa_cons (pe_lc (own := [("_law_some", 8)]) (by rfl) nd (pi_listK K (pv 3)) (blkOk_by (own := [("_law_some", 8)]) (N := ["_law_rows", "_law_state_here", "_law_half", "_law_clashes", "_law_k", "_law_border", "_law_place", "_law_side", "_law_some"]) (sc := (defScope s__law_spoilt)) (by decide +kernel)) (fun _ _ _ _ _ => (pg_name (i := 8) nd rfl (Or.inl rfl))) (fun _ _ _ _ _ => pts_nil) (fun _ _ _ _ _ => (pe_callB (call_sortedDI rfl) (by rfl) T.b_sorted (by decide +kernel) (pa_cons (pv 8) pa_nil)))) pa_nil)))))))), ?_⟩
  exact (ss_Seq (ss_Set (se_P (pp_op os_div (pp_cb cs_len (pp_cons pp_var pp_nil)) pp_int)) (by decide))
    (ss_Seq (ss_Set (se_Lst (sa_Cons se_DictK (sa_Cons se_DictK (sa_Cons se_DictK (sa_Cons se_DictK sa_Nil))))) (by decide))
    (ss_Seq (ss_For (si_rng1 (sa_Cons (se_Call (sa_Br (sa_Cons (se_P pp_int) sa_Nil)) (len_Br (len_Cons len_Nil))) sa_Nil)) (gt_name (by decide))
      (ss_Seq (ss_Par3 (sa_Cons (se_Call (sa_Br (sa_Cons (se_P pp_int) sa_Nil)) (len_Br (len_Cons len_Nil))) (sa_Cons (se_Call (sa_Br (sa_Br sa_Nil)) (len_Br (len_Br len_Nil))) (sa_Cons (se_Call (sa_Br (sa_Cons (se_P pp_int) sa_Nil)) (len_Br (len_Cons len_Nil))) sa_Nil))) (by decide) (by decide) (by decide))
      (ss_If (st_P (pt_B (pp_dnotin pp_var (pp_op os_ixL pp_var pp_var)))) (ss_Seq (ss_SetK (se_P pp_bl) (so_ix so_var pp_var) pp_var)
        (ss_If (st_P (pt_val' (pp_op os_lt pp_var pp_int))) (ss_Set (se_Call (sa_Br (sa_Cons (se_P (pp_op os_add (pp_op os_mul pp_var pp_var) pp_var)) (sa_Cons (se_P (pp_op os_add (pp_op os_sub pp_var pp_int) pp_var)) (sa_Cons (se_P (pp_op os_ixL (pp_lst (pp_cons pp_int (pp_cons pp_int pp_nil))) pp_var)) sa_Nil)))) (len_Br (len_Cons (len_Cons (len_Cons len_Nil))))) (by decide)) (ss_Set (se_Call (sa_Br (sa_Cons (se_P (pp_op os_add (pp_op os_sub pp_var pp_int) pp_var)) (sa_Cons (se_P (pp_op os_add (pp_op os_mul pp_var (pp_op os_sub pp_var pp_int)) pp_var)) (sa_Cons (se_P (pp_op os_ixL (pp_lst (pp_cons pp_int (pp_cons pp_int pp_nil))) pp_var)) sa_Nil)))) (len_Br (len_Cons (len_Cons (len_Cons len_Nil))))) (by decide)))) ss_Nx)))
    (ss_Rt (se_Tup (sa_Cons se_Mv (sa_Cons (se_Lc (si_list se_Mv) (gt_name (by decide)) (st_P pt_yes) (se_Cb cs_sortDI (sa_Cons se_Mv sa_Nil))) sa_Nil)))))))
theorem ok_cfun_Layer___init__ (D : CfunIn K A.Layer "__init__" "Layer.__init__" s_Layer___init__) (T : Txt mg) (TC : TxC K mg A)  : HasC P w K mg base (L2.CX P w) 1 A.Layer "__init__" ["self", "rows"] (FnM K 2 (m_Layer___init__ A)) := by
  refine D.okF (W := []) sc_Layer___init__ (by decide) (fun _ _ _ _ _ _ us hl => match us, hl with | [_, _], _ => rfl) (fun f cdv Ar outer s H E hr => ?_)
  have nd := sc_Layer___init__.nd
  refine ⟨_, (pss_one (ps_fld (pv 0) (pe_callTy (call_list_ofK K) (by rfl) T.b_list (by decide +kernel) (pa_cons (pv 1) pa_nil)) rfl)), ?_⟩
  exact (ss_SetF (se_N (pn_listC pp_var)) so_var TC.o_Ties.cl TC.n_Ties_lines)
theorem ok_fn_is_among (D : FnIn K mg "is_among" s_is_among) (T : Txt mg) (TC : TxC K mg A)  : Has P w K mg base (L2.CX P w) 1 "is_among" ["thing", "least", "most"] (FnM K 3 m_is_among) := by
  refine D.okF (W := []) sc_is_among (by decide) (fun _ _ _ _ _ _ us hl => match us, hl with | [_, _, _], _ => rfl) (fun f cdv Ar outer s H E hr => ?_)
  have nd := sc_is_among.nd
  refine ⟨_, (pss_one (ps_ret (pe_and (pe_callB (call_isiK' K) (by rfl) T.b_isinstance (by decide +kernel) (pa_cons (pv 0) (pa_cons (pe_bltn (v := .ty "int") (by rfl) T.b_int (by decide +kernel) rfl) pa_nil))) (pe_and (pe_not (pe_callB (call_isiK' K) (by rfl) T.b_isinstance (by decide +kernel) (pa_cons (pv 0) (pa_cons (pe_bltn (v := .ty "bool") (by rfl) T.b_bool (by decide +kernel) rfl) pa_nil)))) (pe_one (pe_chain op_le op_le (pv 1) (pv 0) (pv 2))))))), ?_⟩
  exact (ss_Rt (se_P (pp_and (pp_isi pp_var) (pp_and (pp_not (pp_isi pp_var)) (pp_chain os_le os_le pp_var pp_var pp_var)))))
theorem ok_fn_is_size (D : FnIn K mg "is_size" s_is_size) (T : Txt mg) (TC : TxC K mg A) (F_is_among : Has P w K mg base (L2.CX P w) 1 "is_among" ["thing", "least", "most"] (FnM K 3 m_is_among)) : Has P w K mg base (L2.CX P w) 2 "is_size" ["thing"] (FnM K 1 m_is_size) := by
  refine D.okF (W := []) sc_is_size (by decide) (fun _ _ _ _ _ _ us hl => match us, hl with | [_], _ => rfl) (fun f cdv Ar outer s H E hr => ?_)
  have nd := sc_is_size.nd
  refine ⟨_, (pss_one (ps_ret (pe_fnS F_is_among hr (by decide) rfl (fun σ => passAt (takes_of rfl rfl rfl rfl) σ) (pa_cons (pv 0) (pa_cons (pe_gl rfl T.g_LEAST_SIZE) (pa_cons (pe_gl rfl T.g_MOST_SIZE) pa_nil)))))), ?_⟩
  exact (ss_Rt (se_P (pp_fn (pp_cons pp_var (pp_cons pp_int (pp_cons pp_int pp_nil))) (lp_cons (lp_cons (lp_cons lp_nil))))))
theorem ok_fn_are_rows (D : FnIn K mg "are_rows" s_are_rows) (T : Txt mg) (TC : TxC K mg A) (F_is_size : Has P w K mg base (L2.CX P w) 2 "is_size" ["thing"] (FnM K 1 m_is_size)) : Has P w K mg base (L2.CX P w) 3 "are_rows" ["thing", "signs"] (FnM K 2 m_are_rows) := by
  refine D.okF (W := [2]) sc_are_rows (by decide) (fun _ _ _ _ _ _ us hl => match us, hl with | [_, _], _ => rfl) (fun f cdv Ar outer s H E hr => ?_)
  have nd := sc_are_rows.nd
  refine ⟨_, (pss_cons (ps_if (PW.pt (pw_or (pt_not (pt_val (pe_callB (call_isiK' K) (by rfl) T.b_isinstance (by decide +kernel) (pa_cons (pv 0) (pa_cons (pe_bltn (v := .ty "list") (by rfl) T.b_list (by decide +kernel) rfl) pa_nil))))) (pw_or1 (pt_not (pt_val (pe_fnS F_is_size hr (by decide) rfl (fun σ => passAt (takes_of rfl rfl rfl rfl) σ) (pa_cons (pe_callB (call_lenK K) (by rfl) T.b_len (by decide +kernel) (pa_cons (pv 0) pa_nil)) pa_nil))))))) (pss_one (ps_ret pe_bl)) pss_nil)
    (pss_cons (ps_for (passes_of rfl) rfl (pi_listK K (pv 0)) (pg_name (i := 2) nd rfl (Or.inl rfl))
      (pss_one (ps_if (PW.pt (pw_or (pt_not (pt_val (pe_callB (call_isiK' K) (by rfl) T.b_isinstance (by decide +kernel) (pa_cons (pv 2) (pa_cons (pe_bltn (v := .ty "str") (by rfl) T.b_str (by decide +kernel) rfl) pa_nil))))) (pw_or (pt_cmpR op_ne (pe_callB (call_lenK K) (by rfl) T.b_len (by decide +kernel) (pa_cons (pv 2) pa_nil)) (pe_callB (call_lenK K) (by rfl) T.b_len (by decide +kernel) (pa_cons (pv 0) pa_nil)) (nomark _)) (pw_or1 (pt_not (pt_val (pe_callB (cr_allK K rfl) (by rfl) T.b_all (by decide +kernel) (pa_cons (pe_lc (own := [("sign", 3)]) (by rfl) nd (pi_str (pv 2)) (blkOk_by (own := [("sign", 3)]) (N := ["thing", "signs", "row", "sign"]) (sc := (defScope s_are_rows)) (by decide +kernel)) (fun _ _ _ _ _ => (pg_name (i := 3) nd rfl (Or.inl rfl))) (fun _ _ _ _ _ => pts_nil) (fun _ _ _ _ _ => (pe_cmpR op_in_sign (pv 3) (pv 1) (by rfl)))) pa_nil)))))))) (pss_one (ps_ret pe_bl)) pss_nil)))
    (pss_one (ps_ret pe_bl)))), ?_⟩
  exact (ss_Seq (ss_If (st_P (pt_or (pt_not' (pt_B (pp_isi pp_var))) (pt_not' (pt_B (pp_fn (pp_cons (pp_cb cs_len (pp_cons pp_var pp_nil)) pp_nil) (lp_cons lp_nil)))))) (ss_Rt (se_P pp_bl)) ss_Nx)
    (ss_Seq (ss_For (si_list se_Fz) (gt_name (by decide))
      (ss_If (st_P (pt_or (pt_not' (pt_B (pp_isi pp_var))) (pt_or (pt_val' (pp_op os_ne (pp_cb cs_len (pp_cons pp_var pp_nil)) (pp_cb cs_len (pp_cons pp_var pp_nil)))) (pt_not' (pt_B (pp_cb cs_all (pp_cons (pp_lc (pi_str' pp_var) (pg_name' (by decide)) pt_yes (pp_op os_inS pp_var pp_var)) pp_nil))))))) (ss_Rt (se_P pp_bl)) ss_Nx))
    (ss_Rt (se_P pp_bl))))
theorem ok_fn_bit_of (D : FnIn K mg "bit_of" s_bit_of) (T : Txt mg) (TC : TxC K mg A)  : Has P w K mg base (L2.CX P w) 1 "bit_of" ["way"] (FnM K 1 m_bit_of) := by
  refine D.okF (W := []) sc_bit_of (by decide) (fun _ _ _ _ _ _ us hl => match us, hl with | [_], _ => rfl) (fun f cdv Ar outer s H E hr => ?_)
  have nd := sc_bit_of.nd
  refine ⟨_, (pss_one (ps_ret (pe_op op_shl pe_int (pe_m1 PySem.F.slot_str_index PySem.F.type_str_index mt_sindex (pe_gl rfl T.g_WAYS) (pv 0))))), ?_⟩
  exact (ss_Rt (se_P (pp_op os_shl pp_int (pp_m1 ms_sindex pp_str pp_var))))
theorem ok_fn_ways_in (D : FnIn K mg "ways_in" s_ways_in) (T : Txt mg) (TC : TxC K mg A) (F_bit_of : Has P w K mg base (L2.CX P w) 1 "bit_of" ["way"] (FnM K 1 m_bit_of)) : Has P w K mg base (L2.CX P w) 2 "ways_in" ["bits"] (FnM K 1 m_ways_in) := by
  refine D.okF (W := []) sc_ways_in (by decide) (fun _ _ _ _ _ _ us hl => match us, hl with | [_], _ => rfl) (fun f cdv Ar outer s H E hr => ?_)
  have nd := sc_ways_in.nd
  refine ⟨_, (pss_one (ps_ret (pe_joinK K pe_str (pe_lc (own := [("way", 1)]) (by rfl) nd (pi_str (pe_gl rfl T.g_WAYS)) (blkOk_by (own := [("way", 1)]) (N := ["bits", "way"]) (sc := (defScope s_ways_in)) (by decide +kernel)) (fun _ _ _ _ _ => (pg_name (i := 1) nd rfl (Or.inl rfl))) (fun _ _ _ _ _ => (pts_one (pt_cmpR op_gt (pe_op op_and (pv 0) (pe_fnS F_bit_of hr (by decide) rfl passE (pa_cons (pv 1) pa_nil))) pe_int (nomark _)))) (fun _ _ _ _ _ => (pv 1)))))), ?_⟩
  exact (ss_Rt (se_P (pp_m1 ms_join pp_str (pp_lc (pi_str' pp_str) (pg_name' (by decide)) (pt_val' (pp_op os_gt (pp_op os_band pp_var (pp_fn (pp_cons pp_var pp_nil) (lp_cons lp_nil))) pp_int)) pp_var))))
theorem ok_fn_bits_of (D : FnIn K mg "bits_of" s_bits_of) (T : Txt mg) (TC : TxC K mg A)  : Has P w K mg base (L2.CX P w) 1 "bits_of" ["sign"] (FnM K 1 m_bits_of) := by
  refine D.okF (W := []) sc_bits_of (by decide) (fun _ _ _ _ _ _ us hl => match us, hl with | [_], _ => rfl) (fun f cdv Ar outer s H E hr => ?_)
  have nd := sc_bits_of.nd
  refine ⟨_, (pss_one (ps_ret (pe_m1 PySem.F.slot_str_index PySem.F.type_str_index mt_sindex (pe_gl rfl T.g_SIXTEENS) (pv 0)))), ?_⟩
  exact (ss_Rt (se_P (pp_m1 ms_sindex pp_str pp_var)))
theorem ok_fn_has_way (D : FnIn K mg "has_way" s_has_way) (T : Txt mg) (TC : TxC K mg A) (F_ways_in : Has P w K mg base (L2.CX P w) 2 "ways_in" ["bits"] (FnM K 1 m_ways_in)) (F_bits_of : Has P w K mg base (L2.CX P w) 1 "bits_of" ["sign"] (FnM K 1 m_bits_of)) : Has P w K mg base (L2.CX P w) 3 "has_way" ["sign", "way"] (FnM K 2 m_has_way) := by
  refine D.okF (W := []) sc_has_way (by decide) (fun _ _ _ _ _ _ us hl => match us, hl with | [_, _], _ => rfl) (fun f cdv Ar outer s H E hr => ?_)
  have nd := sc_has_way.nd
  refine ⟨_, (pss_one (ps_ret (pe_cmpR op_in_sign (pv 1) (pe_fnS F_ways_in hr (by decide) rfl (fun σ => passAt (takes_of rfl rfl rfl rfl) σ) (pa_cons (pe_fnS F_bits_of hr (by decide) rfl (fun σ => passAt (takes_of rfl rfl rfl rfl) σ) (pa_cons (pv 0) pa_nil)) pa_nil)) (by rfl)))), ?_⟩
  exact (ss_Rt (se_P (pp_op os_inS pp_var (pp_fn (pp_cons (pp_fn (pp_cons pp_var pp_nil) (lp_cons lp_nil)) pp_nil) (lp_cons lp_nil)))))
theorem ok_fn_agrees (D : FnIn K mg "agrees" s_agrees) (T : Txt mg) (TC : TxC K mg A) (F_has_way : Has P w K mg base (L2.CX P w) 3 "has_way" ["sign", "way"] (FnM K 2 m_has_way)) : Has P w K mg base (L2.CX P w) 4 "agrees" ["ahead", "row"] (FnM K 2 m_agrees) := by
  refine D.okF (W := [2, 3]) sc_agrees (by decide) (fun _ _ _ _ _ _ us hl => match us, hl with | [_, _], _ => rfl) (fun f cdv Ar outer s H E hr => ?_)
  have nd := sc_agrees.nd
  refine ⟨_, (pss_cons (ps_for (passes_of rfl) rfl (pi_zipS (by rfl) T.b_zip (pa_cons (pv 1) (pa_cons (pe_slice sl_str (pv 1) (po_some pe_int) po_none) pa_nil))) (pg_tupK K (n := 2) rfl (pgs_cons (pg_name (i := 2) nd rfl (Or.inl rfl)) (pgs_cons (pg_name (i := 3) nd rfl (Or.inl rfl)) pgs_nil)))
      (pss_one (ps_if (pt_cmpR op_ne (pe_fnS F_has_way hr (by decide) rfl (fun σ => passAt (takes_of rfl rfl rfl rfl) σ) (pa_cons (pv 2) (pa_cons pe_str pa_nil))) (pe_fnS F_has_way hr (by decide) rfl (fun σ => passAt (takes_of rfl rfl rfl rfl) σ) (pa_cons (pv 3) (pa_cons pe_str pa_nil))) (nomark _)) (pss_one (ps_ret pe_bl)) pss_nil)))
    (pss_one (ps_ret (pe_or (pe_cmpR op_isN (pv 0) pe_non (nomark _)) (pe_one (pe_callB (cr_allK K rfl) (by rfl) T.b_all (by decide +kernel) (pa_cons (pe_lc (own := [("one", 2), ("other", 3)]) (by rfl) nd (pi_zipS (by rfl) T.b_zip (pa_cons (pv 0) (pa_cons (pv 1) pa_nil))) (blkOk_by (own := [("one", 2), ("other", 3)]) (N := ["ahead", "row", "one", "other"]) (sc := (defScope s_agrees)) (by decide +kernel)) (fun _ _ _ _ _ => (pg_tupK K (n := 2) rfl (pgs_cons (pg_name (i := 2) nd rfl (Or.inl rfl)) (pgs_cons (pg_name (i := 3) nd rfl (Or.inl rfl)) pgs_nil)))) (fun _ _ _ _ _ => pts_nil) (fun _ _ _ _ _ => (pe_cmpR op_eq (pe_fnS F_has_way hr (by decide) rfl passE (pa_cons (pv 2) (pa_cons pe_str pa_nil))) (pe_fnS F_has_way hr (by decide) rfl passE (pa_cons (pv 3) (pa_cons pe_str pa_nil))) (nomark _)))) pa_nil))))))), ?_⟩
  exact (ss_Seq (ss_For (si_zipS (sa_Cons (se_P pp_var) (sa_Cons (se_P (pp_slS pp_var (po_some' pp_int) po_none')) sa_Nil))) (gt_tup (gts_cons (gt_name (by decide)) (gts_cons (gt_name (by decide)) gts_nil)))
      (ss_If (st_P (pt_val' (pp_op os_ne (pp_fn (pp_cons pp_var (pp_cons pp_str pp_nil)) (lp_cons (lp_cons lp_nil))) (pp_fn (pp_cons pp_var (pp_cons pp_str pp_nil)) (lp_cons (lp_cons lp_nil)))))) (ss_Rt (se_P pp_bl)) ss_Nx))
    (ss_Rt (se_P (pp_or (pp_op os_isN pp_var pp_non) (pp_cb cs_all (pp_cons (pp_lc (pi_zipS' (pp_cons pp_var (pp_cons pp_var pp_nil))) (pg_tup' (pgs_cons' (pg_name' (by decide)) (pgs_cons' (pg_name' (by decide)) pgs_nil'))) pt_yes (pp_op os_eq (pp_fn (pp_cons pp_var (pp_cons pp_str pp_nil)) (lp_cons (lp_cons lp_nil))) (pp_fn (pp_cons pp_var (pp_cons pp_str pp_nil)) (lp_cons (lp_cons lp_nil))))) pp_nil))))))
theorem ok_new_Ties (D : InitIn K mg "Ties" A.Ties "Ties.__init__" s_Ties___init__) (T : Txt mg) (TC : TxC K mg A) (F_are_rows : Has P w K mg base (L2.CX P w) 3 "are_rows" ["thing", "signs"] (FnM K 2 m_are_rows)) (F_agrees : Has P w K mg base (L2.CX P w) 4 "agrees" ["ahead", "row"] (FnM K 2 m_agrees)) (C_Layer___init__ : HasC P w K mg base (L2.CX P w) 1 A.Layer "__init__" ["self", "rows"] (FnM K 2 (m_Layer___init__ A))) : HasI P w K mg base (L2.CX P w) 5 "Ties" A.Ties ["self", "rows"] (FnM K 2 (m_Ties___init__ A)) := by
  refine D.okF (W := []) sc_Ties___init__ (by decide) (fun _ _ _ _ _ _ us hl => match us, hl with | [_, _], _ => rfl) (fun f cdv Ar outer s H E hr => ?_)
  have nd := sc_Ties___init__.nd
  refine ⟨_, (pss_cons (ps_if (pt_not (pt_val (pe_fnS F_are_rows hr (by decide) rfl (fun σ => passAt (takes_of rfl rfl rfl rfl) σ) (pa_cons (pv 1) (pa_cons (pe_gl rfl T.g_SIXTEENS) pa_nil))))) (pss_one (ps_raiseX TC.x_BadSheet (takes_of rfl rfl rfl rfl))) pss_nil)
    (pss_cons (ps_if (pt_not (pt_val (pe_callB (cr_allK K rfl) (by rfl) T.b_all (by decide +kernel) (pa_cons (pe_lc (own := [("ahead", 2), ("row", 3)]) (by rfl) nd (pi_zipK K (by rfl) T.b_zip (pa_cons (pe_op op_cat (pe_lst (pa_cons pe_non pa_nil)) (pv 1)) (pa_cons (pv 1) pa_nil))) (blkOk_by (own := [("ahead", 2), ("row", 3)]) (N := ["self", "rows", "ahead", "row"]) (sc := (defScope s_Ties___init__)) (by decide +kernel)) (fun _ _ _ _ _ => (pg_tupK K (n := 2) rfl (pgs_cons (pg_name (i := 2) nd rfl (Or.inl rfl)) (pgs_cons (pg_name (i := 3) nd rfl (Or.inl rfl)) pgs_nil)))) (fun _ _ _ _ _ => pts_nil) (fun _ _ _ _ _ => (pe_fnS F_agrees hr (by decide) rfl passE (pa_cons (pv 2) (pa_cons (pv 3) pa_nil))))) pa_nil)))) (pss_one (ps_raiseX TC.x_BadSheet (takes_of rfl rfl rfl rfl))) pss_nil)
    (pss_one (ps_expr (pe_cfunS (pe_gl rfl TC.g_Layer) C_Layer___init__ hr (by decide) (fun σ => passAt (takes_of rfl rfl rfl rfl) σ) (pa_cons (pv 0) (pa_cons (pv 1) pa_nil))))))), ?_⟩
  exact (ss_Seq (ss_If (st_P (pt_not' (pt_B (pp_fn (pp_cons pp_var (pp_cons pp_str pp_nil)) (lp_cons (lp_cons lp_nil)))))) ss_RaiseE ss_Nx)
    (ss_Seq (ss_If (st_P (pt_not' (pt_B (pp_cb cs_all (pp_cons (pp_lc (pi_zip' (pp_cons (pp_N (pn_cat (pp_lst (pp_cons pp_non pp_nil)) pp_var)) (pp_cons pp_var pp_nil))) (pg_tup' (pgs_cons' (pg_name' (by decide)) (pgs_cons' (pg_name' (by decide)) pgs_nil'))) pt_yes (pp_fn (pp_cons pp_var (pp_cons pp_var pp_nil)) (lp_cons (lp_cons lp_nil)))) pp_nil))))) ss_RaiseE ss_Nx)
    (ss_Ex (se_CFun (sa_Br (sa_Br sa_Nil)) (len_Br (len_Br len_Nil))))))
theorem ok_fn__law_quarter (D : FnIn K mg "_law_quarter" s__law_quarter) (T : Txt mg) (TC : TxC K mg A)  : Has P w K mg base (L2.CX P w) 1 "_law_quarter" ["_law_rows", "_law_down", "_law_across"] (FnM K 3 m__law_quarter) := by
  refine D.okF (W := [3]) sc__law_quarter (by decide) (fun _ _ _ _ _ _ us hl => match us, hl with | [_, _, _], _ => rfl) (fun f cdv Ar outer s H E hr => ?_)
  have nd := sc__law_quarter.nd
  refine ⟨_, (pss_cons (ps_set (i := 3) nd rfl (Or.inr rfl) (pe_op op_fdiv (pe_callB (call_lenK K) (by rfl) T.b_len (by decide +kernel) (pa_cons (pv 0) pa_nil)) pe_int))
    (pss_one (ps_ret (pe_lc (own := [("_law_row", 4)]) (by rfl) nd (pi_listK K (pe_slice (sl_listK K) (pv 0) (po_some (pe_op op_mul (pv 3) (pv 1))) (po_some (pe_op op_add (pe_op op_mul (pv 3) (pv 1)) (pv 3))))) (blkOk_by (own := [("_law_row", 4)]) (N := ["_law_rows", "_law_down", "_law_across", "_law_half", "_law_row"]) (sc := (defScope s__law_quarter)) (by decide +kernel)) (fun _ _ _ _ _ => (pg_name (i := 4) nd rfl (Or.inl rfl))) (fun _ _ _ _ _ => pts_nil) (fun _ _ _ _ _ => (pe_slice sl_str (pv 4) (po_some (pe_op op_mul (pv 3) (pv 2))) (po_some (pe_op op_add (pe_op op_mul (pv 3) (pv 2)) (pv 3))))))))), ?_⟩
  exact (ss_Seq (ss_Set (se_P (pp_op os_div (pp_cb cs_len (pp_cons pp_var pp_nil)) pp_int)) (by decide))
    (ss_Rt (se_Lc (si_list (se_N (pn_slL pp_var (po_some' (pp_op os_mul pp_var pp_var)) (po_some' (pp_op os_add (pp_op os_mul pp_var pp_var) pp_var))))) (gt_name (by decide)) (st_P pt_yes) (se_P (pp_slS pp_var (po_some' (pp_op os_mul pp_var pp_var)) (po_some' (pp_op os_add (pp_op os_mul pp_var pp_var) pp_var)))))))
theorem ok_meth_Ties_signs_along (D : MethIn K A.Ties "signs_along" "Layer.signs_along" s_Layer_signs_along) (T : Txt mg) (TC : TxC K mg A)  : HasM P w K mg base (L2.CX P w) 1 A.Ties "signs_along" ["self", "way"] (FnM K 2 (m_Layer_signs_along A)) := by
  refine D.okF (W := []) sc_Layer_signs_along (by decide) (fun _ _ _ _ _ _ us hl => match us, hl with | [_, _], _ => rfl) (fun f cdv Ar outer s H E hr => ?_)
  have nd := sc_Layer_signs_along.nd
  refine ⟨_, (pss_cons (ps_if (pt_cmpR op_eq (pv 1) pe_str (nomark _)) (pss_one (ps_ret (pe_ix (ix_listK K) (pe_fldK K (pv 0) rfl) pe_int (fun _ _ => rfl)))) pss_nil)
    (pss_cons (ps_if (pt_cmpR op_eq (pv 1) pe_str (nomark _)) (pss_one (ps_ret (pe_ix (ix_listK K) (pe_fldK K (pv 0) rfl) (pe_un un_neg pe_int) (fun _ _ => rfl)))) pss_nil)
    (pss_cons (ps_if (pt_cmpR op_eq (pv 1) pe_str (nomark _)) (pss_one (ps_ret (pe_joinK K pe_str (pe_lc (own := [("row", 2)]) (by rfl) nd (pi_listK K (pe_fldK K (pv 0) rfl)) (blkOk_by (own := [("row", 2)]) (N := ["self", "way", "row"]) (sc := (defScope s_Layer_signs_along)) (by decide +kernel)) (fun _ _ _ _ _ => (pg_name (i := 2) nd rfl (Or.inl rfl))) (fun _ _ _ _ _ => pts_nil) (fun _ _ _ _ _ => (pe_ix ix_str (pv 2) pe_int (fun _ _ => rfl))))))) pss_nil)
    (pss_one (ps_ret (pe_joinK K pe_str (pe_lc (own := [("row", 2)]) (by rfl) nd (pi_listK K (pe_fldK K (pv 0) rfl)) (blkOk_by (own := [("row", 2)]) (N := ["self", "way", "row"]) (sc := (defScope s_Layer_signs_along)) (by decide +kernel)) (fun _ _ _ _ _ => (pg_name (i := 2) nd rfl (Or.inl rfl))) (fun _ _ _ _ _ => pts_nil) (fun _ _ _ _ _ => (pe_ix ix_str (pv 2) (pe_un un_neg pe_int) (fun _ _ => rfl)))))))))), ?_⟩
  exact (ss_Seq (ss_If (st_P (pt_val' (pp_op os_eq pp_var pp_str))) (ss_Rt (se_P (pp_op os_ixL (pp_fld TC.o_Ties.cl TC.n_Ties_lines pp_var) pp_int))) ss_Nx)
    (ss_Seq (ss_If (st_P (pt_val' (pp_op os_eq pp_var pp_str))) (ss_Rt (se_P (pp_op os_ixL (pp_fld TC.o_Ties.cl TC.n_Ties_lines pp_var) (pp_neg pp_int)))) ss_Nx)
    (ss_Seq (ss_If (st_P (pt_val' (pp_op os_eq pp_var pp_str))) (ss_Rt (se_P (pp_m1 ms_join pp_str (pp_lc (pi_list' (pp_fld TC.o_Ties.cl TC.n_Ties_lines pp_var)) (pg_name' (by decide)) pt_yes (pp_op os_ixS pp_var pp_int))))) ss_Nx)
    (ss_Rt (se_P (pp_m1 ms_join pp_str (pp_lc (pi_list' (pp_fld TC.o_Ties.cl TC.n_Ties_lines pp_var)) (pg_name' (by decide)) pt_yes (pp_op os_ixS pp_var (pp_neg pp_int)))))))))
theorem ok_meth_Ties_edge (D : MethIn K A.Ties "edge" "Ties.edge" s_Ties_edge) (T : Txt mg) (TC : TxC K mg A) (M_Ties_signs_along : HasM P w K mg base (L2.CX P w) 1 A.Ties "signs_along" ["self", "way"] (FnM K 2 (m_Layer_signs_along A))) (F_has_way : Has P w K mg base (L2.CX P w) 3 "has_way" ["sign", "way"] (FnM K 2 m_has_way)) : HasM P w K mg base (L2.CX P w) 4 A.Ties "edge" ["self", "way"] (FnM K 2 (m_Ties_edge A)) := by
  refine D.okF (W := []) sc_Ties_edge (by decide) (fun _ _ _ _ _ _ us hl => match us, hl with | [_, _], _ => rfl) (fun f cdv Ar outer s H E hr => ?_)
  have nd := sc_Ties_edge.nd
  refine ⟨_, (pss_one (ps_ret (pe_joinK K pe_str (pe_lc (own := [("sign", 2)]) (by rfl) nd (pi_str (pe_mthS (pv 0) TC.o_Ties.cl M_Ties_signs_along hr (by decide) (fun σ => passAt (takes_of rfl rfl rfl rfl) σ) (pa_cons (pv 1) pa_nil))) (blkOk_by (own := [("sign", 2)]) (N := ["self", "way", "sign"]) (sc := (defScope s_Ties_edge)) (by decide +kernel)) (fun _ _ _ _ _ => (pg_name (i := 2) nd rfl (Or.inl rfl))) (fun _ _ _ _ _ => pts_nil) (fun _ _ _ _ _ => (pe_ifExp (pt_val (pe_fnS F_has_way hr (by decide) rfl passE (pa_cons (pv 2) (pa_cons (pv 1) pa_nil)))) pe_str pe_str)))))), ?_⟩
  exact (ss_Rt (se_P (pp_m1 ms_join pp_str (pp_lc (pi_str' (pp_meth pp_var (pp_cons pp_var pp_nil) (fun w ds h => congrArg (· + 1) ((lp_cons lp_nil) w ds h)))) (pg_name' (by decide)) pt_yes (pp_if (pt_B (pp_fn (pp_cons pp_var (pp_cons pp_var pp_nil)) (lp_cons (lp_cons lp_nil)))) pp_str pp_str)))))
theorem ok_fn_against (D : FnIn K mg "against" s_against) (T : Txt mg) (TC : TxC K mg A)  : Has P w K mg base (L2.CX P w) 1 "against" ["way"] (FnM K 1 m_against) := by
  refine D.okF (W := []) sc_against (by decide) (fun _ _ _ _ _ _ us hl => match us, hl with | [_], _ => rfl) (fun f cdv Ar outer s H E hr => ?_)
  have nd := sc_against.nd
  refine ⟨_, (pss_one (ps_ret (pe_ix ix_str (pe_gl rfl T.g_WAYS) (pe_op op_mod (pe_op op_add (pe_m1 PySem.F.slot_str_index PySem.F.type_str_index mt_sindex (pe_gl rfl T.g_WAYS) (pv 0)) pe_int) pe_int) (fun _ _ => rfl)))), ?_⟩
  exact (ss_Rt (se_P (pp_op os_ixS pp_str (pp_op os_mod (pp_op os_add (pp_m1 ms_sindex pp_str pp_var) pp_int) pp_int))))
theorem ok_meth_Ties_clash (D : MethIn K A.Ties "clash" "Ties.clash" s_Ties_clash) (T : Txt mg) (TC : TxC K mg A) (M_Ties_edge : HasM P w K mg base (L2.CX P w) 4 A.Ties "edge" ["self", "way"] (FnM K 2 (m_Ties_edge A))) (F_against : Has P w K mg base (L2.CX P w) 1 "against" ["way"] (FnM K 1 m_against)) : HasM P w K mg base (L2.CX P w) 5 A.Ties "clash" ["self", "other", "way"] (FnM K 3 (m_Ties_clash A)) := by
  refine D.okF (W := [3, 4, 5, 6]) sc_Ties_clash (by decide) (fun _ _ _ _ _ _ us hl => match us, hl with | [_, _, _], _ => rfl) (fun f cdv Ar outer s H E hr => ?_)
  have nd := sc_Ties_clash.nd
  refine ⟨_, (pss_cons (ps_set (i := 3) nd rfl (Or.inl rfl) (pe_lst pa_nil))
    (pss_cons (ps_for (passes_of rfl) rfl (pi_enumZipS (by rfl) T.b_enumerate (by rfl) T.b_zip (pa_cons (pe_mthS (pv 0) TC.o_Ties.cl M_Ties_edge hr (by decide) (fun σ => passAt (takes_of rfl rfl rfl rfl) σ) (pa_cons (pv 2) pa_nil)) (pa_cons (pe_mthS (pv 1) TC.o_Ties.cl M_Ties_edge hr (by decide) (fun σ => passAt (takes_of rfl rfl rfl rfl) σ) (pa_cons (pe_fnS F_against hr (by decide) rfl (fun σ => passAt (takes_of rfl rfl rfl rfl) σ) (pa_cons (pv 2) pa_nil)) pa_nil)) pa_nil))) (pg_tupK K (n := 2) rfl (pgs_cons (pg_name (i := 4) nd rfl (Or.inl rfl)) (pgs_cons (pg_tupK K (n := 2) rfl (pgs_cons (pg_name (i := 5) nd rfl (Or.inl rfl)) (pgs_cons (pg_name (i := 6) nd rfl (Or.inl rfl)) pgs_nil))) pgs_nil)))
      (pss_one (ps_if (pt_cmpR op_ne (pv 5) (pv 6) (nomark _)) (pss_one (ps_expr (pe_bmK K PySem.F.plainAttrs_list PySem.F.slot_list_append PySem.F.type_list_append mt_append (pv 3) (pa_cons (pv 4) pa_nil)))) pss_nil)))
    (pss_one (ps_ret (pv 3))))), ?_⟩
  exact (ss_Seq (ss_Set (se_Lst sa_Nil) (by decide))
    (ss_Seq (ss_For (si_enumZipS (sa_Cons (se_P (pp_meth pp_var (pp_cons pp_var pp_nil) (fun w ds h => congrArg (· + 1) ((lp_cons lp_nil) w ds h)))) (sa_Cons (se_P (pp_meth pp_var (pp_cons (pp_fn (pp_cons pp_var pp_nil) (lp_cons lp_nil)) pp_nil) (fun w ds h => congrArg (· + 1) ((lp_cons lp_nil) w ds h)))) sa_Nil))) (gt_tup (gts_cons (gt_name (by decide)) (gts_cons (gt_tup (gts_cons (gt_name (by decide)) (gts_cons (gt_name (by decide)) gts_nil))) gts_nil)))
      (ss_If (st_P (pt_val' (pp_op os_ne pp_var pp_var))) (ss_Ex (se_Mut0 (sa_Cons (se_P pp_var) sa_Nil) mo_append)) ss_Nx))
    (ss_Rt se_Mv)))
theorem ok_fn__law_whole (D : FnIn K mg "_law_whole" s__law_whole) (T : Txt mg) (TC : TxC K mg A)  : Has P w K mg base (L2.CX P w) 1 "_law_whole" ["_law_found"] (FnM K 1 m__law_whole) := by
  refine D.okF (W := []) sc__law_whole (by decide) (fun _ _ _ _ _ _ us hl => match us, hl with | [_], _ => rfl) (fun f cdv Ar outer s H E hr => ?_)
  have nd := sc__law_whole.nd
  refine ⟨_, (pss_one (ps_ret (pe_and (pe_callB (call_isiK' K) (by rfl) T.b_isinstance (by decide +kernel) (pa_cons (pv 0) (pa_cons (pe_bltn (v := .ty "int") (by rfl) T.b_int (by decide +kernel) rfl) pa_nil))) (pe_one (pe_not (pe_callB (call_isiK' K) (by rfl) T.b_isinstance (by decide +kernel) (pa_cons (pv 0) (pa_cons (pe_bltn (v := .ty "bool") (by rfl) T.b_bool (by decide +kernel) rfl) pa_nil)))))))), ?_⟩
  exact (ss_Rt (se_P (pp_and (pp_isi pp_var) (pp_not (pp_isi pp_var)))))
theorem ok_fn__law_clash_right (D : FnIn K mg "_law_clash_right" s__law_clash_right) (T : Txt mg) (TC : TxC K mg A) (M_Ties_clash : HasM P w K mg base (L2.CX P w) 5 A.Ties "clash" ["self", "other", "way"] (FnM K 3 (m_Ties_clash A))) (F__law_whole : Has P w K mg base (L2.CX P w) 1 "_law_whole" ["_law_found"] (FnM K 1 m__law_whole)) : Has P w K mg base (L2.CX P w) 6 "_law_clash_right" ["_law_one", "_law_other", "_law_way", "_law_due"] (FnM K 4 (m__law_clash_right A)) := by
  refine D.okF (W := [4, 5]) sc__law_clash_right (by decide) (fun _ _ _ _ _ _ us hl => match us, hl with | [_, _, _, _], _ => rfl) (fun f cdv Ar outer s H E hr => ?_)
  have nd := sc__law_clash_right.nd
  refine ⟨_, (pss_cons (ps_set (i := 4) nd rfl (Or.inl rfl) (pe_dget (hu_of hr) (pe_disp (pps_cons pe_str pe_str (pps_cons pe_str pe_str pps_nil)) (by rfl) (by rfl) (fun z => by cases z) (by decide)) (pv 2) (fun _ _ => rfl)))
    (pss_cons (ps_for (passes_of rfl) rfl (pi_tupK K (pe_tup (pa_cons (pe_mthS (pv 0) TC.o_Ties.cl M_Ties_clash hr (by decide) (fun σ => passAt (takes_of rfl rfl rfl rfl) σ) (pa_cons (pv 1) (pa_cons (pv 2) pa_nil))) (pa_cons (pe_mthS (pv 1) TC.o_Ties.cl M_Ties_clash hr (by decide) (fun σ => passAt (takes_of rfl rfl rfl rfl) σ) (pa_cons (pv 0) (pa_cons (pv 4) pa_nil))) (pa_cons (pe_mthS (pv 0) TC.o_Ties.cl M_Ties_clash hr (by decide) (fun σ => passAt (takes_of rfl rfl rfl rfl) σ) (pa_cons (pv 1) (pa_cons (pv 2) pa_nil))) pa_nil))))) (pg_name (i := 5) nd rfl (Or.inl rfl))
      (pss_cons (ps_if (PW.pt (pw_or (pt_not (pt_val (pe_callB (call_isiK' K) (by rfl) T.b_isinstance (by decide +kernel) (pa_cons (pv 5) (pa_cons (pe_bltn (v := .ty "list") (by rfl) T.b_list (by decide +kernel) rfl) pa_nil))))) (pw_or (pt_cmpR (op_neDK K hr.units) (pv 5) (pv 3) (nomark _)) (pw_or1 (pt_not (pt_val (pe_callB (cr_allK K rfl) (by rfl) T.b_all (by decide +kernel) (pa_cons (pe_lc (own := [("_law_place", 6)]) (by rfl) nd (pi_listK K (pv 5)) (blkOk_by (own := [("_law_place", 6)]) (N := ["_law_one", "_law_other", "_law_way", "_law_due", "_law_back", "_law_found", "_law_place"]) (sc := (defScope s__law_clash_right)) (by decide +kernel)) (fun _ _ _ _ _ => (pg_name (i := 6) nd rfl (Or.inl rfl))) (fun _ _ _ _ _ => pts_nil) (fun _ _ _ _ _ => (pe_fnS F__law_whole hr (by decide) rfl passE (pa_cons (pv 6) pa_nil)))) pa_nil)))))))) (pss_one (ps_ret pe_bl)) pss_nil)
      (pss_one (ps_expr (pe_bmK K PySem.F.plainAttrs_list PySem.F.slot_list_append PySem.F.type_list_append mt_append (pv 5) (pa_cons pe_int pa_nil))))))
    (pss_one (ps_ret pe_bl)))), ?_⟩
  exact (ss_Seq (ss_Set (se_DGet (se_Disp (sp_cons (se_P pp_str) (sp_cons (se_P pp_str) sp_nil))) (se_P pp_var)) (by decide))
    (ss_Seq (ss_ForO (sa_Cons (se_MethB (sa_Br (sa_Br sa_Nil)) (len_Br (len_Br len_Nil))) (sa_Cons (se_MethB (sa_Br (sa_Br sa_Nil)) (len_Br (len_Br len_Nil))) (sa_Cons (se_MethB (sa_Br (sa_Br sa_Nil)) (len_Br (len_Br len_Nil))) sa_Nil))) (by decide)
      (ss_Seq (ss_If (st_P (pt_or (pt_not' (pt_B (pp_isi pp_var))) (pt_or (pt_val' (pp_op os_neD pp_var pp_var)) (pt_not' (pt_B (pp_cb cs_all (pp_cons (pp_lc (pi_list' pp_var) (pg_name' (by decide)) pt_yes (pp_fn (pp_cons pp_var pp_nil) (lp_cons lp_nil))) pp_nil))))))) (ss_Rt (se_P pp_bl)) ss_Nx)
      (ss_Ex (se_Mut0 (sa_Cons (se_P pp_int) sa_Nil) mo_append))))
    (ss_Rt (se_P pp_bl))))
theorem ok_fn__law_word (D : FnIn K mg "_law_word" s__law_word) (T : Txt mg) (TC : TxC K mg A)  : Has P w K mg base (L2.CX P w) 1 "_law_word" ["_law_e"] (FnM K 1 (m__law_word A)) := by
  refine D.okF (W := [1]) sc__law_word (by decide) (fun _ _ _ _ _ _ us hl => match us, hl with | [_], _ => rfl) (fun f cdv Ar outer s H E hr => ?_)
  have nd := sc__law_word.nd
  refine ⟨_, (pss_cons (ps_set (i := 1) nd rfl (Or.inl rfl) (pe_lst (pa_cons (pe_tup (pa_cons pe_str (pa_cons (pe_callB (call_isX K) (by rfl) T.b_isinstance (by decide +kernel) (pa_cons (pv 0) (pa_cons (pe_gl rfl TC.g_BadSheet) pa_nil))) pa_nil))) (pa_cons (pe_tup (pa_cons pe_str (pa_cons (pe_callB (call_isX K) (by rfl) T.b_isinstance (by decide +kernel) (pa_cons (pv 0) (pa_cons (pe_gl rfl TC.g_BadPlace) pa_nil))) pa_nil))) (pa_cons (pe_tup (pa_cons pe_str (pa_cons (pe_callB (call_isX K) (by rfl) T.b_isinstance (by decide +kernel) (pa_cons (pv 0) (pa_cons (pe_gl rfl TC.g_BadCell) pa_nil))) pa_nil))) pa_nil)))))
    (pss_cons (ps_set (i := 1) nd rfl (Or.inl rfl) (pe_op op_cat (pv 1) (pe_lst (pa_cons (pe_tup (pa_cons pe_str (pa_cons (pe_callB (call_isX K) (by rfl) T.b_isinstance (by decide +kernel) (pa_cons (pv 0) (pa_cons (pe_gl rfl TC.g_BadWindow) pa_nil))) pa_nil))) (pa_cons (pe_tup (pa_cons pe_str (pa_cons (pe_callB (call_isX K) (by rfl) T.b_isinstance (by decide +kernel) (pa_cons (pv 0) (pa_cons (pe_gl rfl TC.g_NoSheet) pa_nil))) pa_nil))) pa_nil)))))
    (pss_cons (ps_set (i := 1) nd rfl (Or.inl rfl) (pe_op op_cat (pv 1) (pe_lst (pa_cons (pe_tup (pa_cons pe_str (pa_cons (pe_callB (call_isX K) (by rfl) T.b_isinstance (by decide +kernel) (pa_cons (pv 0) (pa_cons (pe_gl rfl TC.g_NoWay) pa_nil))) pa_nil))) (pa_cons (pe_tup (pa_cons pe_str (pa_cons (pe_callB (call_isX K) (by rfl) T.b_isinstance (by decide +kernel) (pa_cons (pv 0) (pa_cons (pe_gl rfl TC.g_NoName) pa_nil))) pa_nil))) pa_nil)))))
    (pss_cons (ps_set (i := 1) nd rfl (Or.inl rfl) (pe_op op_cat (pv 1) (pe_lst (pa_cons (pe_tup (pa_cons pe_str (pa_cons (pe_callB (call_isX K) (by rfl) T.b_isinstance (by decide +kernel) (pa_cons (pv 0) (pa_cons (pe_gl rfl TC.g_TooMany) pa_nil))) pa_nil))) (pa_cons (pe_tup (pa_cons pe_str (pa_cons (pe_callB (call_isX K) (by rfl) T.b_isinstance (by decide +kernel) (pa_cons (pv 0) (pa_cons (pe_gl rfl TC.g_BadLine) pa_nil))) pa_nil))) pa_nil)))))
    (pss_cons (ps_set (i := 1) nd rfl (Or.inl rfl) (pe_op op_cat (pv 1) (pe_lst (pa_cons (pe_tup (pa_cons pe_str (pa_cons (pe_callB (call_isX K) (by rfl) T.b_isinstance (by decide +kernel) (pa_cons (pv 0) (pa_cons (pe_gl rfl TC.g_BadText) pa_nil))) pa_nil))) (pa_cons (pe_tup (pa_cons pe_str (pa_cons (pe_not (pe_callB (call_isX K) (by rfl) T.b_isinstance (by decide +kernel) (pa_cons (pv 0) (pa_cons (pe_bltn (v := .ty "ValueError") (by rfl) T.b_ValueError (by decide +kernel) rfl) pa_nil)))) pa_nil))) pa_nil)))))
    (pss_one (ps_ret (pe_lc (own := [("_law_word_here", 2), ("_law_fits", 3)]) (by rfl) nd (pi_listK K (pv 1)) (blkOk_by (own := [("_law_word_here", 2), ("_law_fits", 3)]) (N := ["_law_e", "_law_found", "_law_word_here", "_law_fits"]) (sc := (defScope s__law_word)) (by decide +kernel)) (fun _ _ _ _ _ => (pg_tupK K (n := 2) rfl (pgs_cons (pg_name (i := 2) nd rfl (Or.inl rfl)) (pgs_cons (pg_name (i := 3) nd rfl (Or.inl rfl)) pgs_nil)))) (fun _ _ _ _ _ => (pts_one (pt_val (pv 3)))) (fun _ _ _ _ _ => (pv 2)))))))))), ?_⟩
  exact (ss_Seq (ss_Set (se_Lst (sa_Cons (se_P (pp_tup (pp_cons pp_str (pp_cons (pp_isX (tab_cons ⟨TC.x_BadSheet.c, TC.s_BadSheet_BadSheet⟩ tab_nil) pp_var) pp_nil)))) (sa_Cons (se_P (pp_tup (pp_cons pp_str (pp_cons (pp_isX (tab_cons ⟨TC.x_BadSheet.c, TC.s_BadSheet_BadPlace⟩ tab_nil) pp_var) pp_nil)))) (sa_Cons (se_P (pp_tup (pp_cons pp_str (pp_cons (pp_isX (tab_cons ⟨TC.x_BadSheet.c, TC.s_BadSheet_BadCell⟩ tab_nil) pp_var) pp_nil)))) sa_Nil)))) (by decide))
    (ss_Seq (ss_Set (se_CatO se_Mv (se_Lst (sa_Cons (se_P (pp_tup (pp_cons pp_str (pp_cons (pp_isX (tab_cons ⟨TC.x_BadSheet.c, TC.s_BadSheet_BadWindow⟩ tab_nil) pp_var) pp_nil)))) (sa_Cons (se_P (pp_tup (pp_cons pp_str (pp_cons (pp_isX (tab_cons ⟨TC.x_BadSheet.c, TC.s_BadSheet_NoSheet⟩ tab_nil) pp_var) pp_nil)))) sa_Nil)))) (by decide))
    (ss_Seq (ss_Set (se_CatO se_Mv (se_Lst (sa_Cons (se_P (pp_tup (pp_cons pp_str (pp_cons (pp_isX (tab_cons ⟨TC.x_BadSheet.c, TC.s_BadSheet_NoWay⟩ tab_nil) pp_var) pp_nil)))) (sa_Cons (se_P (pp_tup (pp_cons pp_str (pp_cons (pp_isX (tab_cons ⟨TC.x_BadSheet.c, TC.s_BadSheet_NoName⟩ tab_nil) pp_var) pp_nil)))) sa_Nil)))) (by decide))
    (ss_Seq (ss_Set (se_CatO se_Mv (se_Lst (sa_Cons (se_P (pp_tup (pp_cons pp_str (pp_cons (pp_isX (tab_cons ⟨TC.x_BadSheet.c, TC.s_BadSheet_TooMany⟩ tab_nil) pp_var) pp_nil)))) (sa_Cons (se_P (pp_tup (pp_cons pp_str (pp_cons (pp_isX (tab_cons ⟨TC.x_BadSheet.c, TC.s_BadSheet_BadLine⟩ tab_nil) pp_var) pp_nil)))) sa_Nil)))) (by decide))
    (ss_Seq (ss_Set (se_CatO se_Mv (se_Lst (sa_Cons (se_P (pp_tup (pp_cons pp_str (pp_cons (pp_isX (tab_cons ⟨TC.x_BadSheet.c, TC.s_BadSheet_BadText⟩ tab_nil) pp_var) pp_nil)))) (sa_Cons (se_P (pp_tup (pp_cons pp_str (pp_cons (pp_not (pp_isXT (tab_cons ⟨TC.x_BadSheet.c, TC.v_BadSheet⟩ tab_nil) pp_var)) pp_nil)))) sa_Nil)))) (by decide))
    (ss_Rt (se_Lc (si_list se_Mv) (gt_tup (gts_cons (gt_name (by decide)) (gts_cons (gt_name (by decide)) gts_nil))) (st_P (pt_B pp_var)) (se_P pp_var))))))))
theorem ok_fn__law_refused (D : FnIn K mg "_law_refused" s__law_refused) (T : Txt mg) (TC : TxC K mg A) (N_Ties : HasI P w K mg base (L2.CX P w) 5 "Ties" A.Ties ["self", "rows"] (FnM K 2 (m_Ties___init__ A))) (F__law_word : Has P w K mg base (L2.CX P w) 1 "_law_word" ["_law_e"] (FnM K 1 (m__law_word A))) : Has P w K mg base (L2.CX P w) 7 "_law_refused" ["_law_rows"] (FnM K 1 (m__law_refused A)) := by
  refine D.okF (W := [1, 2]) sc__law_refused (by decide) (fun _ _ _ _ _ _ us hl => match us, hl with | [_], _ => rfl) (fun f cdv Ar outer s H E hr => ?_)
  have nd := sc__law_refused.nd
  refine ⟨_, (pss_cons (ps_set (i := 1) nd rfl (Or.inl rfl) pe_non)
    (pss_cons (ps_try_keep (i := 2) K rfl rfl nd rfl rfl ⟨rfl, by decide, .inl TC.m_MapError⟩ (takes_of rfl rfl rfl rfl) (fun W pn xe tk pa => (pss_one (ps_expr (pe_newX N_Ties hr (by decide) rfl (fun σ => passAt tk σ) (pa_cons (pv 0) pa_nil))))) (fun a oe cls d pn hz hf => (pss_one (ps_set (i := 1) nd rfl (Or.inl rfl) (pv 2)))))
    (pss_one (ps_ret (pe_and (pe_cmpR op_notN (pv 1) pe_non (nomark _)) (pe_one (pe_cmpR (op_eqDK K hr.units) (pe_fnS F__law_word hr (by decide) rfl (fun σ => passAt (takes_of rfl rfl rfl rfl) σ) (pa_cons (pv 1) pa_nil)) (pe_lst (pa_cons pe_str pa_nil)) (nomark _)))))))), ?_⟩
  exact (ss_Seq (ss_Set (se_P pp_non) (by decide))
    (ss_Seq (ss_TryKeep (tab_cons TC.e_BadSheet tab_nil) (by decide) (by decide) (fun W => (ss_Ex (se_Z (se_New (sa_Br sa_Nil) (len_Br len_Nil))))))
    (ss_Rt (se_P (pp_and (pp_op os_notN pp_var pp_non) (pp_op os_eqD (pp_fn (pp_cons pp_var pp_nil) (lp_cons lp_nil)) (pp_lst (pp_cons pp_str pp_nil))))))))
theorem ok_meth_Ties_sign_at (D : MethIn K A.Ties "sign_at" "Layer.sign_at" s_Layer_sign_at) (T : Txt mg) (TC : TxC K mg A)  : HasM P w K mg base (L2.CX P w) 1 A.Ties "sign_at" ["self", "row", "column"] (FnM K 3 (m_Layer_sign_at A)) := by
  refine D.okF (W := []) sc_Layer_sign_at (by decide) (fun _ _ _ _ _ _ us hl => match us, hl with | [_, _, _], _ => rfl) (fun f cdv Ar outer s H E hr => ?_)
  have nd := sc_Layer_sign_at.nd
  refine ⟨_, (pss_one (ps_ret (pe_ix ix_str (pe_ix (ix_listK K) (pe_fldK K (pv 0) rfl) (pv 1) (fun _ _ => rfl)) (pv 2) (fun _ _ => rfl)))), ?_⟩
  exact (ss_Rt (se_P (pp_op os_ixS (pp_op os_ixL (pp_fld TC.o_Ties.cl TC.n_Ties_lines pp_var) pp_var) pp_var)))
theorem ok_meth_Ties_ways_at (D : MethIn K A.Ties "ways_at" "Ties.ways_at" s_Ties_ways_at) (T : Txt mg) (TC : TxC K mg A) (F_ways_in : Has P w K mg base (L2.CX P w) 2 "ways_in" ["bits"] (FnM K 1 m_ways_in)) (F_bits_of : Has P w K mg base (L2.CX P w) 1 "bits_of" ["sign"] (FnM K 1 m_bits_of)) (M_Ties_sign_at : HasM P w K mg base (L2.CX P w) 1 A.Ties "sign_at" ["self", "row", "column"] (FnM K 3 (m_Layer_sign_at A))) : HasM P w K mg base (L2.CX P w) 3 A.Ties "ways_at" ["self", "row", "column"] (FnM K 3 (m_Ties_ways_at A)) := by
  refine D.okF (W := []) sc_Ties_ways_at (by decide) (fun _ _ _ _ _ _ us hl => match us, hl with | [_, _, _], _ => rfl) (fun f cdv Ar outer s H E hr => ?_)
  have nd := sc_Ties_ways_at.nd
  refine ⟨_, (pss_one (ps_ret (pe_fnS F_ways_in hr (by decide) rfl (fun σ => passAt (takes_of rfl rfl rfl rfl) σ) (pa_cons (pe_fnS F_bits_of hr (by decide) rfl (fun σ => passAt (takes_of rfl rfl rfl rfl) σ) (pa_cons (pe_mthS (pv 0) TC.o_Ties.cl M_Ties_sign_at hr (by decide) (fun σ => passAt (takes_of rfl rfl rfl rfl) σ) (pa_cons (pv 1) (pa_cons (pv 2) pa_nil))) pa_nil)) pa_nil)))), ?_⟩
  exact (ss_Rt (se_P (pp_fn (pp_cons (pp_fn (pp_cons (pp_meth pp_var (pp_cons pp_var (pp_cons pp_var pp_nil)) (fun w ds h => congrArg (· + 1) ((lp_cons (lp_cons lp_nil)) w ds h))) pp_nil) (lp_cons lp_nil)) pp_nil) (lp_cons lp_nil))))
theorem ok_fn__law_whole_right (D : FnIn K mg "_law_whole_right" s__law_whole_right) (T : Txt mg) (TC : TxC K mg A) (N_Ties : HasI P w K mg base (L2.CX P w) 5 "Ties" A.Ties ["self", "rows"] (FnM K 2 (m_Ties___init__ A))) (M_Ties_edge : HasM P w K mg base (L2.CX P w) 4 A.Ties "edge" ["self", "way"] (FnM K 2 (m_Ties_edge A))) (M_Ties_ways_at : HasM P w K mg base (L2.CX P w) 3 A.Ties "ways_at" ["self", "row", "column"] (FnM K 3 (m_Ties_ways_at A))) : Has P w K mg base (L2.CX P w) 7 "_law_whole_right" ["_law_rows", "_law_parts"] (FnM K 2 (m__law_whole_right A)) := by
  refine D.okF (W := [2, 3, 4, 5, 6, 7, 8, 9, 10]) sc__law_whole_right (by decide) (fun _ _ _ _ _ _ us hl => match us, hl with | [_, _], _ => rfl) (fun f cdv Ar outer s H E hr => ?_)
  have nd := sc__law_whole_right.nd
  refine ⟨_, (pss_cons (ps_set (i := 2) nd rfl (Or.inl rfl) (pe_op op_fdiv (pe_callB (call_lenK K) (by rfl) T.b_len (by decide +kernel) (pa_cons (pv 0) pa_nil)) pe_int))
    (pss_cons (ps_set (i := 3) nd rfl (Or.inl rfl) (pe_newX N_Ties hr (by decide) rfl (fun σ => passAt (takes_of rfl rfl rfl rfl) σ) (pa_cons (pe_callTy (call_list_ofK K) (by rfl) T.b_list (by decide +kernel) (pa_cons (pv 0) pa_nil)) pa_nil)))
    (pss_cons (ps_set (i := 4) nd rfl (Or.inl rfl) (pe_disp (pps_cons pe_str (pe_tup (pa_cons pe_int (pa_cons pe_int pa_nil))) (pps_cons pe_str (pe_tup (pa_cons pe_int (pa_cons pe_int pa_nil))) (pps_cons pe_str (pe_tup (pa_cons pe_int (pa_cons pe_int pa_nil))) (pps_cons pe_str (pe_tup (pa_cons pe_int (pa_cons pe_int pa_nil))) pps_nil)))) (by rfl) (by rfl) (fun z => by cases z) (by decide)))
    (pss_cons (ps_for (passes_of rfl) rfl (pi_str pe_str) (pg_name (i := 5) nd rfl (Or.inl rfl))
      (pss_cons (ps_asg (pe_dget (hu_of hr) (pv 4) (pv 5) (fun _ _ => rfl)) (pg_tupK K (n := 2) rfl (pgs_cons (pg_name (i := 6) nd rfl (Or.inl rfl)) (pgs_cons (pg_name (i := 7) nd rfl (Or.inl rfl)) pgs_nil))))
      (pss_one (ps_if (pt_cmpR op_ne (pe_mthS (pv 3) TC.o_Ties.cl M_Ties_edge hr (by decide) (fun σ => passAt (takes_of rfl rfl rfl rfl) σ) (pa_cons (pv 5) pa_nil)) (pe_op op_add_str (pe_mthS (pe_ix (ix_listK K) (pv 1) (pv 6) (fun _ _ => rfl)) TC.o_Ties.cl M_Ties_edge hr (by decide) (fun σ => passAt (takes_of rfl rfl rfl rfl) σ) (pa_cons (pv 5) pa_nil)) (pe_mthS (pe_ix (ix_listK K) (pv 1) (pv 7) (fun _ _ => rfl)) TC.o_Ties.cl M_Ties_edge hr (by decide) (fun σ => passAt (takes_of rfl rfl rfl rfl) σ) (pa_cons (pv 5) pa_nil))) (nomark _)) (pss_one (ps_ret pe_bl)) pss_nil))))
    (pss_cons (ps_for (passes_of rfl) rfl (pi_range1 (by rfl) T.b_range (pa_cons (pe_op op_mul pe_int (pv 2)) pa_nil)) (pg_name (i := 8) nd rfl (Or.inl rfl))
      (pss_one (ps_for (passes_of rfl) rfl (pi_range1 (by rfl) T.b_range (pa_cons (pe_op op_mul pe_int (pv 2)) pa_nil)) (pg_name (i := 9) nd rfl (Or.inl rfl))
        (pss_cons (ps_set (i := 10) nd rfl (Or.inl rfl) (pe_ix (ix_listK K) (pv 1) (pe_op op_add (pe_op op_mul (pe_op op_fdiv (pv 8) (pv 2)) pe_int) (pe_op op_fdiv (pv 9) (pv 2))) (fun _ _ => rfl)))
        (pss_one (ps_if (pt_cmpR op_ne (pe_mthS (pv 3) TC.o_Ties.cl M_Ties_ways_at hr (by decide) (fun σ => passAt (takes_of rfl rfl rfl rfl) σ) (pa_cons (pv 8) (pa_cons (pv 9) pa_nil))) (pe_mthS (pv 10) TC.o_Ties.cl M_Ties_ways_at hr (by decide) (fun σ => passAt (takes_of rfl rfl rfl rfl) σ) (pa_cons (pe_op op_mod (pv 8) (pv 2)) (pa_cons (pe_op op_mod (pv 9) (pv 2)) pa_nil))) (nomark _)) (pss_one (ps_ret pe_bl)) pss_nil))))))
    (pss_one (ps_ret pe_bl))))))), ?_⟩
  exact (ss_Seq (ss_Set (se_P (pp_op os_div (pp_cb cs_len (pp_cons pp_var pp_nil)) pp_int)) (by decide))
    (ss_Seq (ss_Set (se_Z (se_New (sa_Cons (se_N (pn_listC pp_var)) sa_Nil) (len_Cons len_Nil))) (by decide))
    (ss_Seq (ss_Set (se_Disp (sp_cons (se_P (pp_tup (pp_cons pp_int (pp_cons pp_int pp_nil)))) (sp_cons (se_P (pp_tup (pp_cons pp_int (pp_cons pp_int pp_nil)))) (sp_cons (se_P (pp_tup (pp_cons pp_int (pp_cons pp_int pp_nil)))) (sp_cons (se_P (pp_tup (pp_cons pp_int (pp_cons pp_int pp_nil)))) sp_nil))))) (by decide))
    (ss_Seq (ss_For (si_str (se_P pp_str)) (gt_name (by decide))
      (ss_Seq (ss_Asg (se_P (pp_dget pp_var pp_var)) (gt_tup (gts_cons (gt_name (by decide)) (gts_cons (gt_name (by decide)) gts_nil))))
      (ss_If (st_P (pt_val' (pp_op os_ne (pp_meth pp_var (pp_cons pp_var pp_nil) (fun w ds h => congrArg (· + 1) ((lp_cons lp_nil) w ds h))) (pp_op os_addS (pp_meth (pp_op os_ixL pp_var pp_var) (pp_cons pp_var pp_nil) (fun w ds h => congrArg (· + 1) ((lp_cons lp_nil) w ds h))) (pp_meth (pp_op os_ixL pp_var pp_var) (pp_cons pp_var pp_nil) (fun w ds h => congrArg (· + 1) ((lp_cons lp_nil) w ds h))))))) (ss_Rt (se_P pp_bl)) ss_Nx)))
    (ss_Seq (ss_For (si_rng1 (sa_Cons (se_P (pp_op os_mul pp_int pp_var)) sa_Nil)) (gt_name (by decide))
      (ss_For (si_rng1 (sa_Cons (se_P (pp_op os_mul pp_int pp_var)) sa_Nil)) (gt_name (by decide))
        (ss_Seq (ss_Set (se_Rd (pp_op os_ixL pp_var (pp_op os_add (pp_op os_mul (pp_op os_div pp_var pp_var) pp_int) (pp_op os_div pp_var pp_var))) (so_ix so_var (pp_op os_add (pp_op os_mul (pp_op os_div pp_var pp_var) pp_int) (pp_op os_div pp_var pp_var)))) (by decide))
        (ss_If (st_P (pt_val' (pp_op os_ne (pp_meth pp_var (pp_cons pp_var (pp_cons pp_var pp_nil)) (fun w ds h => congrArg (· + 1) ((lp_cons (lp_cons lp_nil)) w ds h))) (pp_meth pp_var (pp_cons (pp_op os_mod pp_var pp_var) (pp_cons (pp_op os_mod pp_var pp_var) pp_nil)) (fun w ds h => congrArg (· + 1) ((lp_cons (lp_cons lp_nil)) w ds h)))))) (ss_Rt (se_P pp_bl)) ss_Nx))))
    (ss_Rt (se_P pp_bl)))))))
theorem ok_law {fa : Addr} {fd : FuncData} (F : Fun K "law" "law" s_law fa fd) (T : Txt mg) (TC : TxC K mg A) (F__law_state : Has P w K mg base (L2.CX P w) 1 "_law_state" ["_law_cells", "_law_k"] (FnM K 2 m__law_state)) (F__law_ties : Has P w K mg base (L2.CX P w) 4 "_law_ties" ["_law_state_here", "_law_size"] (FnM K 2 m__law_ties)) (F__law_take : Has P w K mg base (L2.CX P w) 2 "_law_take" ["_law_state_here", "_law_many"] (FnM K 2 m__law_take)) (F__law_spoilt : Has P w K mg base (L2.CX P w) 3 "_law_spoilt" ["_law_rows", "_law_state_here"] (FnM K 2 m__law_spoilt)) (N_Ties : HasI P w K mg base (L2.CX P w) 5 "Ties" A.Ties ["self", "rows"] (FnM K 2 (m_Ties___init__ A))) (F__law_quarter : Has P w K mg base (L2.CX P w) 1 "_law_quarter" ["_law_rows", "_law_down", "_law_across"] (FnM K 3 m__law_quarter)) (F__law_clash_right : Has P w K mg base (L2.CX P w) 6 "_law_clash_right" ["_law_one", "_law_other", "_law_way", "_law_due"] (FnM K 4 (m__law_clash_right A))) (F__law_refused : Has P w K mg base (L2.CX P w) 7 "_law_refused" ["_law_rows"] (FnM K 1 (m__law_refused A))) (F__law_whole_right : Has P w K mg base (L2.CX P w) 7 "_law_whole_right" ["_law_rows", "_law_parts"] (FnM K 2 (m__law_whole_right A))) : FnOk P w K mg base (L2.CX P w) 8 fa fd ["_law_script"] (FnM K 1 (m_law A)) := by
  refine Fun.okM (W := [1, 2, 3, 4, 5, 6, 7, 8, 9, 10, 11]) F sc_law (by decide) (fun cdv Ar outer s H E hr => ?_)
  have nd := sc_law.nd
  refine ⟨_, (pss_cons (ps_set (i := 1) nd rfl (Or.inl rfl) (pe_op op_cat (pe_slice (sl_listK K) (pv 0) po_none (po_some pe_int)) (pe_lst (pa_cons pe_int pa_nil))))
    (pss_cons (ps_for (passes_of rfl) rfl (pi_range1 (by rfl) T.b_range (pa_cons (pe_callB (call_min2 rfl) (by rfl) T.b_min (by decide +kernel) (pa_cons pe_int (pa_cons (pe_callB (call_lenK K) (by rfl) T.b_len (by decide +kernel) (pa_cons (pv 1) pa_nil)) pa_nil))) pa_nil)) (pg_name (i := 2) nd rfl (Or.inl rfl))
      (pss_cons (ps_set (i := 3) nd rfl (Or.inl rfl) (pe_fnS F__law_state hr (by decide) rfl (fun σ => passAt (takes_of rfl rfl rfl rfl) σ) (pa_cons (pe_slice (sl_listK K) (pv 1) (po_some (pv 2)) po_none) (pa_cons (pv 2) pa_nil))))
      (pss_cons (ps_set (i := 4) nd rfl (Or.inr rfl) (pe_fnS F__law_ties hr (by decide) rfl (fun σ => passAt (takes_of rfl rfl rfl rfl) σ) (pa_cons (pv 3) (pa_cons (pe_ix (ix_listK K) (pe_lst (pa_cons pe_int (pa_cons pe_int (pa_cons pe_int (pa_cons pe_int (pa_cons pe_int (pa_cons pe_int (pa_cons pe_int (pa_cons pe_int (pa_cons pe_int (pa_cons pe_int pa_nil))))))))))) (pe_fnS F__law_take hr (by decide) rfl (fun σ => passAt (takes_of rfl rfl rfl rfl) σ) (pa_cons (pv 3) (pa_cons pe_int pa_nil))) (fun _ _ => rfl)) pa_nil))))
      (pss_cons (ps_asg (pe_fnS F__law_spoilt hr (by decide) rfl (fun σ => passAt (takes_of rfl rfl rfl rfl) σ) (pa_cons (pv 4) (pa_cons (pv 3) pa_nil))) (pg_tupK K (n := 2) rfl (pgs_cons (pg_name (i := 4) nd rfl (Or.inr rfl)) (pgs_cons (pg_name (i := 5) nd rfl (Or.inl rfl)) pgs_nil))))
      (pss_cons (ps_setLc (i := 6) (own := [("_law_down", 12), ("_law_across", 13)]) (by rfl) nd rfl rfl (sw_true rfl rfl rfl (by decide +kernel)) (pi_tupK K (pe_tup (pa_cons (pe_tup (pa_cons pe_int (pa_cons pe_int pa_nil))) (pa_cons (pe_tup (pa_cons pe_int (pa_cons pe_int pa_nil))) (pa_cons (pe_tup (pa_cons pe_int (pa_cons pe_int pa_nil))) (pa_cons (pe_tup (pa_cons pe_int (pa_cons pe_int pa_nil))) pa_nil)))))) (blkOk_by (own := [("_law_down", 12), ("_law_across", 13)]) (N := ["_law_script", "_law_cells", "_law_k", "_law_state_here", "_law_rows", "_law_due", "_law_parts", "_law_pairs", "_law_border", "_law_one", "_law_other", "_law_way", "_law_down", "_law_across"]) (sc := (defScope s_law)) (by decide +kernel)) (fun _ _ _ _ _ => (pg_tupK K (n := 2) rfl (pgs_cons (pg_name (i := 12) nd rfl (Or.inl rfl)) (pgs_cons (pg_name (i := 13) nd rfl (Or.inl rfl)) pgs_nil)))) (fun _ _ _ _ _ => pts_nil) (fun _ _ _ _ _ => (pe_newX N_Ties hr (by decide) rfl passE (pa_cons (pe_fnS F__law_quarter hr (by decide) rfl passE (pa_cons (pv 4) (pa_cons (pv 12) (pa_cons (pv 13) pa_nil)))) pa_nil))))
      (pss_cons (ps_set (i := 7) nd rfl (Or.inl rfl) (pe_lst (pa_cons (pe_tup (pa_cons pe_int (pa_cons pe_int (pa_cons pe_str pa_nil)))) (pa_cons (pe_tup (pa_cons pe_int (pa_cons pe_int (pa_cons pe_str pa_nil)))) (pa_cons (pe_tup (pa_cons pe_int (pa_cons pe_int (pa_cons pe_str pa_nil)))) (pa_cons (pe_tup (pa_cons pe_int (pa_cons pe_int (pa_cons pe_str pa_nil)))) pa_nil))))))
      (pss_cons (ps_for (passes_of rfl) rfl (pi_enumK K (by rfl) T.b_enumerate (pa_cons (pv 7) pa_nil)) (pg_tupK K (n := 2) rfl (pgs_cons (pg_name (i := 8) nd rfl (Or.inl rfl)) (pgs_cons (pg_tupK K (n := 3) rfl (pgs_cons (pg_name (i := 9) nd rfl (Or.inl rfl)) (pgs_cons (pg_name (i := 10) nd rfl (Or.inl rfl)) (pgs_cons (pg_name (i := 11) nd rfl (Or.inl rfl)) pgs_nil)))) pgs_nil)))
        (pss_one (ps_if (pt_not (pt_val (pe_fnS F__law_clash_right hr (by decide) rfl (fun σ => passAt (takes_of rfl rfl rfl rfl) σ) (pa_cons (pe_ix (ix_listK K) (pv 6) (pv 9) (fun _ _ => rfl)) (pa_cons (pe_ix (ix_listK K) (pv 6) (pv 10) (fun _ _ => rfl)) (pa_cons (pv 11) (pa_cons (pe_ix (ix_listK K) (pv 5) (pv 8) (fun _ _ => rfl)) pa_nil))))))) (pss_one (ps_ret pe_bl)) pss_nil)))
      (pss_one (ps_if (pt_cmpR (op_neDK K hr.units) (pv 5) (pe_lst (pa_cons (pe_lst pa_nil) (pa_cons (pe_lst pa_nil) (pa_cons (pe_lst pa_nil) (pa_cons (pe_lst pa_nil) pa_nil))))) (nomark _)) (pss_one (ps_if (pt_not (pt_val (pe_fnS F__law_refused hr (by decide) rfl (fun σ => passAt (takes_of rfl rfl rfl rfl) σ) (pa_cons (pv 4) pa_nil)))) (pss_one (ps_ret pe_bl)) pss_nil)) (pss_one (ps_if (pt_not (pt_val (pe_fnS F__law_whole_right hr (by decide) rfl (fun σ => passAt (takes_of rfl rfl rfl rfl) σ) (pa_cons (pv 4) (pa_cons (pv 6) pa_nil))))) (pss_one (ps_ret pe_bl)) pss_nil)))))))))))
    (pss_one (ps_ret pe_bl)))), ?_⟩
  exact (ss_Seq (ss_Set (se_CatO (se_N (pn_slL pp_var po_none' (po_some' pp_int))) (se_Lst (sa_Cons (se_P pp_int) sa_Nil))) (by decide))
    (ss_Seq (ss_For (si_rng1 (sa_Cons (se_P (pp_cb cs_min2 (pp_cons pp_int (pp_cons (pp_cb cs_len (pp_cons pp_var pp_nil)) pp_nil)))) sa_Nil)) (gt_name (by decide))
      (ss_Seq (ss_Set (se_Call (sa_Cons (se_N (pn_slL pp_var (po_some' pp_var) po_none')) (sa_Br sa_Nil)) (len_Cons (len_Br len_Nil))) (by decide))
      (ss_Seq (ss_Set (se_Call (sa_Br (sa_Cons (se_Op os_ixL (se_Lst (sa_Cons (se_P pp_int) (sa_Cons (se_P pp_int) (sa_Cons (se_P pp_int) (sa_Cons (se_P pp_int) (sa_Cons (se_P pp_int) (sa_Cons (se_P pp_int) (sa_Cons (se_P pp_int) (sa_Cons (se_P pp_int) (sa_Cons (se_P pp_int) (sa_Cons (se_P pp_int) sa_Nil))))))))))) (se_Call (sa_Br (sa_Cons (se_P pp_int) sa_Nil)) (len_Br (len_Cons len_Nil)))) sa_Nil)) (len_Br (len_Cons len_Nil))) (by decide))
      (ss_Seq (ss_Asg (se_Call (sa_Cons se_Fz (sa_Br sa_Nil)) (len_Cons (len_Br len_Nil))) (gt_tup (gts_cons (gt_name (by decide)) (gts_cons (gt_name (by decide)) gts_nil))))
      (ss_Seq (ss_Set (se_Lc (si_tup (se_P (pp_tup (pp_cons (pp_tup (pp_cons pp_int (pp_cons pp_int pp_nil))) (pp_cons (pp_tup (pp_cons pp_int (pp_cons pp_int pp_nil))) (pp_cons (pp_tup (pp_cons pp_int (pp_cons pp_int pp_nil))) (pp_cons (pp_tup (pp_cons pp_int (pp_cons pp_int pp_nil))) pp_nil))))))) (gt_tup (gts_cons (gt_name (by decide)) (gts_cons (gt_name (by decide)) gts_nil))) (st_P pt_yes) (se_Z (se_New (sa_Cons (se_Call (sa_Br (sa_Br (sa_Br sa_Nil))) (len_Br (len_Br (len_Br len_Nil)))) sa_Nil) (len_Cons len_Nil)))) (by decide))
      (ss_Seq (ss_Set (se_Lst (sa_Cons (se_P (pp_tup (pp_cons pp_int (pp_cons pp_int (pp_cons pp_str pp_nil))))) (sa_Cons (se_P (pp_tup (pp_cons pp_int (pp_cons pp_int (pp_cons pp_str pp_nil))))) (sa_Cons (se_P (pp_tup (pp_cons pp_int (pp_cons pp_int (pp_cons pp_str pp_nil))))) (sa_Cons (se_P (pp_tup (pp_cons pp_int (pp_cons pp_int (pp_cons pp_str pp_nil))))) sa_Nil))))) (by decide))
      (ss_Seq (ss_For (si_enum (sa_Cons se_Mv sa_Nil)) (gt_tup (gts_cons (gt_name (by decide)) (gts_cons (gt_tup (gts_cons (gt_name (by decide)) (gts_cons (gt_name (by decide)) (gts_cons (gt_name (by decide)) gts_nil)))) gts_nil)))
        (ss_If (st_P (pt_not' (pt_B (pp_fn (pp_cons (pp_op os_ixL pp_var pp_var) (pp_cons (pp_op os_ixL pp_var pp_var) (pp_cons pp_var (pp_cons (pp_op os_ixL pp_var pp_var) pp_nil)))) (lp_cons (lp_cons (lp_cons (lp_cons lp_nil)))))))) (ss_Rt (se_P pp_bl)) ss_Nx))
      (ss_If (st_P (pt_val' (pp_op os_neD pp_var (pp_lst (pp_cons (pp_lst pp_nil) (pp_cons (pp_lst pp_nil) (pp_cons (pp_lst pp_nil) (pp_cons (pp_lst pp_nil) pp_nil)))))))) (ss_If (st_P (pt_not' (pt_B (pp_fn (pp_cons pp_var pp_nil) (lp_cons lp_nil))))) (ss_Rt (se_P pp_bl)) ss_Nx) (ss_If (st_Not (st_B (se_Call (sa_Br (sa_Br sa_Nil)) (len_Br (len_Br len_Nil))))) (ss_Rt (se_P pp_bl)) ss_Nx)))))))))
    (ss_Rt (se_P pp_bl))))
end
end S

namespace S
open PySem L2
/-! ### draws by a dict of cells -/
def stT (cs : List Int) (at' rest k : Int) : T := .dct [(.inr "cells", .lst (cs.map fun c => .d (.int c))), (.inr "at", .d (.int at')), (.inr "rest", .d (.int rest)), (.inr "k", .d (.int k))]
section
variable {a b c d : PyData} {p q r s t : T}
theorem sd_cells : gDGet (.dict [(.str "cells", a), (.str "at", b), (.str "rest", c), (.str "k", d)]) (.str "cells") = some a := by kernel_rfl
theorem sd_at : gDGet (.dict [(.str "cells", a), (.str "at", b), (.str "rest", c), (.str "k", d)]) (.str "at") = some b := by kernel_rfl
theorem sd_rest : gDGet (.dict [(.str "cells", a), (.str "at", b), (.str "rest", c), (.str "k", d)]) (.str "rest") = some c := by kernel_rfl
theorem sd_k : gDGet (.dict [(.str "cells", a), (.str "at", b), (.str "rest", c), (.str "k", d)]) (.str "k") = some d := by kernel_rfl
theorem sp_at : putG [((.inr "cells" : Key), p), (.inr "at", q), (.inr "rest", r), (.inr "k", s)] (.inr "at") t = [(.inr "cells", p), (.inr "at", t), (.inr "rest", r), (.inr "k", s)] := by kernel_rfl
theorem sp_rest : putG [((.inr "cells" : Key), p), (.inr "at", q), (.inr "rest", r), (.inr "k", s)] (.inr "rest") t = [(.inr "cells", p), (.inr "at", q), (.inr "rest", t), (.inr "k", s)] := by kernel_rfl
end
theorem mixed_eq {c k : Int} (h0 : -10000000 < k) (h1 : k < 10000000) : ∃ v, m__law_mixed [.d (.int c), .d (.int k)] = .ok (.d (.int v)) [some (.d (.int c)), some (.d (.int k))] ∧ 0 ≤ v ∧ v < 2147483629 := by
  unfold m__law_mixed
  simp (disch := omega)
  omega
/-- a state, of which at most c draws were taken -/
def St (c : Nat) (t : T) : Prop := ∃ cs a r k, t = stT cs a r k ∧ cs ≠ [] ∧ 0 ≤ a ∧ a ≤ (c : Int) ∧ 0 ≤ r ∧ 0 ≤ k ∧ k ≤ 100
theorem take_spec {t : T} {c : Nat} {n : Int} (h : St c t) (hc : c < 100000) (hn : 0 < n) (hn2 : n < 1073741824) : ∃ v t', m__law_take [t, .d (.int n)] = .ok (.d (.int v)) [some t', some (.d (.int n))] ∧ 0 ≤ v ∧ v < n ∧ St (c + 1) t' := by
  obtain ⟨cs, a, r, k, rfl, hcs, ha, hac, hr, hk, hk2⟩ := h
  have hl : 0 < cs.length := List.length_pos_iff.mpr hcs
  have e1 : 0 ≤ a / 60 % (cs.length : Int) := Int.emod_nonneg _ (by omega)
  have e2 : a / 60 % (cs.length : Int) < cs.length := Int.emod_lt_of_pos _ (by omega)
  obtain ⟨z, hz, _⟩ := atI_some e1 e2
  obtain ⟨v1, m1, b1, b2⟩ := mixed_eq (c := z) (k := a + 60 * k) (by omega) (by omega)
  obtain ⟨v2, m2, b3, b4⟩ := mixed_eq (c := z) (k := a + 60 * k + 9001) (by omega) (by omega)
  have fin : ∀ v r' : Int, m__law_take [stT cs a r k, .d (.int n)] = R.ok (T.d (.int (v % n))) [some (stT cs (a + 1) r' k), some (T.d (.int n))] → 0 ≤ r' → ∃ v t', m__law_take [stT cs a r k, .d (.int n)] = R.ok (.d (.int v)) [some t', some (.d (.int n))] ∧ 0 ≤ v ∧ v < n ∧ St (c + 1) t' := fun v r' e h =>
    ⟨_, _, e, Int.emod_nonneg _ (by omega), Int.emod_lt_of_pos _ hn, ⟨cs, a + 1, r', k, rfl, hcs, by omega, by omega, h, hk, hk2⟩⟩
  by_cases h60 : a % 60 = 0
  · by_cases hb : (1000000000000000000 : Int) ≤ z
    · have hz0 : 0 < z := by omega
      refine fin z (z / n) ?_ (Int.ediv_nonneg (by omega) (by omega))
      unfold m__law_take stT
      simp (disch := omega) [sd_cells, sd_at, sd_rest, sd_k, sp_at, sp_rest, p18, putKy, atI_map, hz, m1, m2, h60, hb, hz0]
    · refine fin ((v1 * 2147483629 + v2) / 11) 0 ?_ (by omega)
      unfold m__law_take stT
      simp (disch := omega) [sd_cells, sd_at, sd_rest, sd_k, sp_at, sp_rest, p18, putKy, atI_map, hz, m1, m2, h60, hb]
  · by_cases hp : 0 < r
    · refine fin r (r / n) ?_ (Int.ediv_nonneg (by omega) (by omega))
      unfold m__law_take stT
      simp (disch := omega) [sd_cells, sd_at, sd_rest, sd_k, sp_at, sp_rest, p18, putKy, atI_map, hz, m1, m2, h60, hp]
    · refine fin ((v1 * 2147483629 + v2) / 11) r ?_ (by omega)
      unfold m__law_take stT
      simp (disch := omega) [sd_cells, sd_at, sd_rest, sd_k, sp_at, sp_rest, p18, putKy, atI_map, hz, m1, m2, h60, hp]
theorem St.nd {c : Nat} {t : T} (h : St c t) : t.isD = false := by
  obtain ⟨cs, a, r, k, rfl, _⟩ := h
  rfl
theorem St.mono {c c' : Nat} {t : T} (h : St c t) (e : c ≤ c') : St c' t := by
  obtain ⟨cs, a, r, k, h0, h1, h2, h3, h4, h5, h6⟩ := h
  exact ⟨cs, a, r, k, h0, h1, h2, by omega, h4, h5, h6⟩
theorem state_spec {cs : List Int} {k : Int} (h : cs ≠ []) (h0 : 0 ≤ k) (h1 : k ≤ 100) : ∃ t, St 0 t ∧ m__law_state [cellsT cs, .d (.int k)] = .ok t [none, some (.d (.int k))] := by
  refine ⟨stT cs 0 0 k, ⟨cs, 0, 0, k, rfl, h, by omega, by omega, by omega, h0, h1⟩, ?_⟩
  unfold m__law_state cellsT stT
  have n1 : ¬ (("cells" : Str) = "at") := by decide +kernel
  have n2 : ¬ (("cells" : Str) = "rest") := by decide +kernel
  have n3 : ¬ (("cells" : Str) = "k") := by decide +kernel
  have n4 : ¬ (("at" : Str) = "rest") := by decide +kernel
  have n5 : ¬ (("at" : Str) = "k") := by decide +kernel
  have n6 : ¬ (("rest" : Str) = "k") := by decide +kernel
  simp [mDisp, n1, n2, n3, n4, n5, n6]
end S

namespace S
open PySem L2
theorem is_size_spec {n : Int} : resD (m_is_size [.d (.int n)]) = some (.bool (decide (2 ≤ n) && decide (n ≤ 12))) := by
  unfold m_is_size m_is_among
  simp [isi_int, isi_bool]
theorem are_rows_spec {d : PyData} (hd : niceD d) : resD (m_are_rows [.d d, .d (.str SIXT)]) = some (.bool (okR d)) := by
  cases hl : isListD d with
  | false =>
    have e : okR d = false := by cases d <;> first | rfl | cases hl
    unfold m_are_rows
    simp [isi_list hd.1, hl, e]
  | true =>
    obtain ⟨ds, rfl⟩ : ∃ ds, d = .list ds := by cases d <;> first | exact ⟨_, rfl⟩ | cases hl
    have hx := hd.2 ds rfl
    obtain ⟨g, hg⟩ := forL_check (a := gN 2) (b := m_are_rows_L1)
      (ds := ds) (fun g : Option T => [some (.d (.list ds)), some (.d (.str SIXT)), g, none]) (rowOk ds.length) (.d (.bool false)) none (by
        intro x m g
        refine ⟨some (.d x), some (.d x), by simp, ?_⟩
        unfold m_are_rows_L1
        have hn := hx x m
        cases hs : isStrD x with
        | false =>
          have e : rowOk ds.length x = false := by cases x <;> first | rfl | cases hs
          simp [isi_str hn.1, hs, e]
        | true =>
          obtain ⟨z, rfl⟩ : ∃ z, x = .str z := by cases x <;> first | exact ⟨_, rfl⟩ | cases hs
          have hz := hn.2 z rfl
          have hlc : lcP [3] (wN 3) cYes (fOp (gInS false) (fVar 3) (fVar 1)) [some (.list ds), some (.str SIXT), some (.str z), none] (signs z) = some (z.cps.toList.map fun c => .bool (decide (c ∈ hexL))) := by
            rw [signs_map]
            refine lcP_map _ _ fun c hc => ⟨[some (.list ds), some (.str SIXT), some (.str z), some (.str (sg c))], by simp, rfl, ?_⟩
            simp [gInS_sg, hexL]
          have hsl : (signs z).length < 100000 := by simp [signs] at hz ⊢; omega
          have hz2 : z.cps.size ≤ 10000 := by simpa using hz
          have hle : gLen [.str z] = some (.int (z.cps.size : Nat)) := by simpa using gLen_s hz
          obtain ⟨b, hb⟩ : ∃ b, b = (z.cps.toList.all fun c => decide (c ∈ hexL)) := ⟨_, rfl⟩
          have hga : gAll [.list (z.cps.toList.map fun c => .bool (decide (c ∈ hexL)))] = some (.bool b) := by rw [gAll_bools, hb]
          have hro : rowOk ds.length (.str z) = (decide (z.cps.size = ds.length) && b) := by rw [hb]; simp [rowOk]
          rw [hro]
          by_cases hq : z.cps.size = ds.length
          · cases b <;> simp [isi_str hn.1, isStrD, hle, hq, hlc, hsl, hga]
          · have hq2 : ¬ ((z.cps.size : Int) = ds.length) := fun h => hq (by omega)
            simp [isi_str hn.1, isStrD, hle, hq2, hq])
    have hsz : resD (m_is_size [.d (.int (ds.length : Nat))]) = some (.bool (decide (2 ≤ ds.length) && decide (ds.length ≤ 12))) := by
      rw [is_size_spec]
      congr 3
      · simp; omega
      · simp; omega
    obtain ⟨b2, hb2⟩ : ∃ b, b = ds.all (rowOk ds.length) := ⟨_, rfl⟩
    have hok : okR (.list ds) = ((decide (2 ≤ ds.length) && decide (ds.length ≤ 12)) && b2) := by rw [hb2]; rfl
    rw [← hb2] at hg
    rw [hok]
    unfold m_are_rows
    cases hb : (decide (2 ≤ ds.length) && decide (ds.length ≤ 12)) with
    | false => simp [isi_list hd.1, isListD, hsz, hb]
    | true => cases b2 <;> simp [isi_list hd.1, isListD, hsz, hb, hg]
end S

namespace S
open PySem L2
theorem row_spec {t : T} {c n : Nat} {m sh : Int} {acc : List T} {rw' : PyData} (h : St c t) (hc : c + n < 90000) (hn : n ≤ 100) : ∃ (r : List Int) (t' : T), r.length = n ∧ (∀ b ∈ r, isBit b) ∧ St (c + n) t' ∧
    mLc (iArgs (aCons (mP (fVar 2)) aNil) cRng1) [6] (gN 6) (bP cYes) m__law_bits_E1 [some t, some (.d (.int m)), some (.d (.int n)), some (.d (.int sh)), some (.lst acc), some (.d rw'), none] =
      .ok (.lst (r.map fun b => .d (.int b))) [some t', some (.d (.int m)), some (.d (.int n)), some (.d (.int sh)), some (.lst acc), some (.d rw'), none] := by
  obtain ⟨s', acc', e, I⟩ := lcL_inv (ws := [6]) (a := gN 6) (c := bP cYes) (e := m__law_bits_E1) (ds := rangeD 0 n) (s := [some t, some (.d (.int m)), some (.d (.int n)), some (.d (.int sh)), some (.lst acc), some (.d rw'), none]) (acc := [])
    (fun i s acc' => ∃ (r : List Int) (t' : T), r.length = i ∧ (∀ b ∈ r, isBit b) ∧ St (c + i) t' ∧ acc' = r.map (fun b => .d (.int b)) ∧ s = [some t', some (.d (.int m)), some (.d (.int n)), some (.d (.int sh)), some (.lst acc), some (.d rw'), none])
    ⟨[], t, rfl, by simp, h, rfl, rfl⟩ (by rw [range_len]; simp; omega) (fun i s acc' ⟨r, t', h1, _, _, h4, _⟩ => by rw [h4]; simp [h1]) (by
      rintro i hi s acc' ⟨r, t1, h1, h2, h3, rfl, rfl⟩
      rw [range_len] at hi
      obtain ⟨v, t2, e2, a2, b2, s2⟩ := take_spec (n := 6) h3 (by omega) (by omega) (by omega)
      refine ⟨_, _, .d (.int (if decide (v < sh) then 1 else 0)), [some t2, some (.d (.int m)), some (.d (.int n)), some (.d (.int sh)), some (.lst acc), some (.d rw'), some (.d (.int (i : Nat)))], by simp [range_get]; rfl, by simp; rfl, by unfold m__law_bits_E1; simp (disch := omega) [h3.nd, e2, gInt1], ?_⟩
      refine ⟨r ++ [if decide (v < sh) then 1 else 0], t2, by simp [h1], fun b hb => ?_, s2.mono (by omega), by simp, by simp⟩
      rw [List.mem_append, List.mem_singleton] at hb
      rcases hb with hb | hb
      · exact h2 b hb
      · subst hb
        unfold isBit
        split <;> simp)
  rw [range_len] at I
  obtain ⟨r, t', h1, h2, h3, rfl, rfl⟩ := I
  refine ⟨r, t', h1, h2, h3, ?_⟩
  simp (disch := omega) [e]
theorem bits_spec {t : T} {c m n : Nat} {sh : Int} (h : St c t) (hc : c < 80000) (hm : m ≤ 13) (hn : n ≤ 13) : ∃ rows t', okBits m n rows ∧ St (c + 169) t' ∧
    m__law_bits [t, .d (.int (m : Nat)), .d (.int (n : Nat)), .d (.int sh)] = .ok (bitsT rows) [some t', some (.d (.int (m : Nat))), some (.d (.int (n : Nat))), some (.d (.int sh))] := by
  obtain ⟨s', e, I⟩ := forL_inv (a := gN 5) (b := m__law_bits_L1)
    (ds := rangeD 0 (m : Nat)) (s := [some t, some (.d (.int (m : Nat))), some (.d (.int (n : Nat))), some (.d (.int sh)), some (.lst []), none, none])
    (fun i s => ∃ (rows : List (List Int)) (t' : T) (g : Option T), okBits i n rows ∧ St (c + 13 * i) t' ∧ s = [some t', some (.d (.int (m : Nat))), some (.d (.int (n : Nat))), some (.d (.int sh)), some (bitsT rows), g, none])
    ⟨[], t, none, ⟨rfl, by simp⟩, h, rfl⟩ (by
      rintro i hi s ⟨rows, t1, g, ⟨h1, h2⟩, h3, rfl⟩
      rw [range_len] at hi
      obtain ⟨r, t2, k1, k2, k3, k4⟩ := row_spec (m := (m : Nat)) (sh := sh) (acc := rows.map fun r => .lst (r.map fun b => .d (.int b))) (rw' := .int (i : Nat)) h3 (n := n) (by omega) (by omega)
      refine ⟨[some t1, some (.d (.int (m : Nat))), some (.d (.int (n : Nat))), some (.d (.int sh)), some (bitsT rows), some (.d (.int (i : Nat))), none], [some t2, some (.d (.int (m : Nat))), some (.d (.int (n : Nat))), some (.d (.int sh)), some (bitsT (rows ++ [r])), some (.d (.int (i : Nat))), none], by simp [range_get], ?_, rows ++ [r], t2, _, ⟨by simp [h1], fun r' hr' => ?_⟩, k3.mono (by omega), rfl⟩
      · unfold bitsT
        have hl : rows.length < 16777216 := by omega
        unfold m__law_bits_L1
        simp only [sEx_eq, mMut0_eq, List.getElem?_cons_succ, List.getElem?_cons_zero]
        simp [k4, hl, -mLc_eq]
      · rw [List.mem_append, List.mem_singleton] at hr'
        rcases hr' with hr' | rfl
        · exact h2 r' hr'
        · exact ⟨k1, k2⟩)
  rw [range_len] at I
  obtain ⟨rows, t', g, h1, h2, rfl⟩ := I
  refine ⟨rows, t', h1, h2.mono (by omega), ?_⟩
  have hnd := h.nd
  unfold m__law_bits
  simp (disch := omega) [e, bitsT]
end S

namespace S
open PySem L2
theorem hw_all : ∀ v : Fin 16, (isB (resD (m_has_way [.d (.str (sg (hx v))), .d (.str "n")])) (Nat.testBit v 0) && isB (resD (m_has_way [.d (.str (sg (hx v))), .d (.str "e")])) (Nat.testBit v 1) &&
    isB (resD (m_has_way [.d (.str (sg (hx v))), .d (.str "s")])) (Nat.testBit v 2) && isB (resD (m_has_way [.d (.str (sg (hx v))), .d (.str "w")])) (Nat.testBit v 3)) = true := by decide +kernel
section
variable {v : Nat}
theorem hw_n (h : v < 16) : resD (m_has_way [.d (.str (sg (hx v))), .d (.str "n")]) = some (.bool (v.testBit 0)) := by
  have := hw_all ⟨v, h⟩
  simp only [Bool.and_eq_true] at this
  exact isB_eq this.1.1.1
theorem hw_e (h : v < 16) : resD (m_has_way [.d (.str (sg (hx v))), .d (.str "e")]) = some (.bool (v.testBit 1)) := by
  have := hw_all ⟨v, h⟩
  simp only [Bool.and_eq_true] at this
  exact isB_eq this.1.1.2
theorem hw_s (h : v < 16) : resD (m_has_way [.d (.str (sg (hx v))), .d (.str "s")]) = some (.bool (v.testBit 2)) := by
  have := hw_all ⟨v, h⟩
  simp only [Bool.and_eq_true] at this
  exact isB_eq this.1.2
theorem hw_w (h : v < 16) : resD (m_has_way [.d (.str (sg (hx v))), .d (.str "w")]) = some (.bool (v.testBit 3)) := by
  have := hw_all ⟨v, h⟩
  simp only [Bool.and_eq_true] at this
  exact isB_eq this.2
end
theorem agrees_spec {us : Option (List Nat)} {vs : List Nat} (hu : ∀ l, us = some l → ∀ v ∈ l, v < 16) (hv : ∀ v ∈ vs, v < 16) (hl : vs.length ≤ 10000) : resD (m_agrees [.d (aheadD us), .d (.str (rowS vs))]) = some (.bool (agrB us vs)) := by
  have hz : ∀ d ∈ ((vs.zip (vs.tail)).map fun p => PyData.tuple [.str (sg (hx p.1)), .str (sg (hx p.2))]), ∃ a b, d = .tuple [.str (sg (hx a)), .str (sg (hx b))] ∧ a < 16 ∧ b < 16 := by
    intro d m
    obtain ⟨p, hp, rfl⟩ := List.mem_map.mp m
    have := List.of_mem_zip hp
    exact ⟨p.1, p.2, rfl, hv _ this.1, hv _ (List.mem_of_mem_tail this.2)⟩
  -- whether two signs side by side agree, by data
  let P : PyData → Bool := fun d => match d with
    | .tuple [.str x, .str y] => (match resD (m_has_way [.d (.str x), .d (.str "e")]), resD (m_has_way [.d (.str y), .d (.str "w")]) with
      | some (.bool a), some (.bool b) => a == b
      | _, _ => false)
    | _ => false
  have hP : ∀ a b, a < 16 → b < 16 → P (.tuple [.str (sg (hx a)), .str (sg (hx b))]) = (a.testBit 1 == b.testBit 3) := fun a b ha hb => by
    simp only [P, hw_e ha, hw_w hb]
  obtain ⟨g, hg⟩ := forL_check (a := gT 2 (gCs (gN 2) (gCs (gN 3) gNl))) (b := m_agrees_L1)
    (ds := (vs.zip (vs.tail)).map fun p => PyData.tuple [.str (sg (hx p.1)), .str (sg (hx p.2))]) (fun g : Option T × Option T => [some (.d (aheadD us)), some (.d (.str (rowS vs))), g.1, g.2]) P (.d (.bool false)) (none, none) (by
      intro d m g
      obtain ⟨a, b, rfl, ha, hb⟩ := hz d m
      refine ⟨(some (.d (.str (sg (hx a)))), some (.d (.str (sg (hx b))))), (some (.d (.str (sg (hx a)))), some (.d (.str (sg (hx b))))), by simp, ?_⟩
      rw [hP a b ha hb]
      unfold m_agrees_L1
      simp [hw_e ha, hw_w hb]
      cases a.testBit 1 <;> cases b.testBit 3 <;> simp)
  have hall : ((vs.zip (vs.tail)).map fun p => PyData.tuple [.str (sg (hx p.1)), .str (sg (hx p.2))]).all P = adjB vs := by
    rw [List.all_map]
    unfold adjB
    rw [Bool.eq_iff_iff, List.all_eq_true, List.all_eq_true]
    constructor
    · intro h p hp
      have := List.of_mem_zip hp
      have q := h p hp
      rw [Function.comp, hP p.1 p.2 (hv _ this.1) (hv _ (List.mem_of_mem_tail this.2))] at q
      exact q
    · intro h p hp
      have := List.of_mem_zip hp
      rw [Function.comp, hP p.1 p.2 (hv _ this.1) (hv _ (List.mem_of_mem_tail this.2))]
      exact h p hp
  rw [hall] at hg
  have hlen : (rowS vs).cps.toList.length ≤ 10000 := by rw [rowS_cps]; simpa using hl
  have hz2 : zipD (signs (rowS vs)) (signs (mkS (cutN (rowS vs).cps.toList (some 1) none))) = (vs.zip (vs.tail)).map fun p => PyData.tuple [.str (sg (hx p.1)), .str (sg (hx p.2))] := by
    rw [cut1, rowS_cps, ← List.map_tail, signs_row, signs_cps, zipD_map]
  unfold m_agrees
  have hlen2 : (rowS vs).cps.size ≤ 10000 := by simpa using hlen
  simp [hlen2, hz2, hg]
  cases ha : adjB vs with
  | false => simp [agrB, ha]
  | true =>
    cases us with
    | none => simp [agrB, ha, aheadD, isNoneD]
    | some us =>
      have hu := hu us rfl
      have hlc : ∀ g1 g2 : Option PyData, lcP [2, 3] (wT 2 (wCs (wN 2) (wCs (wN 3) wNl))) cYes m_agrees_E1 [some (.str (rowS us)), some (.str (rowS vs)), g1, g2] ((us.zip vs).map fun p => PyData.tuple [.str (sg (hx p.1)), .str (sg (hx p.2))]) = some ((us.zip vs).map fun p => .bool (p.1.testBit 2 == p.2.testBit 0)) := fun g1 g2 => lcP_map _ _ fun p hp => by
        have := List.of_mem_zip hp
        refine ⟨[some (.str (rowS us)), some (.str (rowS vs)), some (.str (sg (hx p.1))), some (.str (sg (hx p.2)))], by simp, rfl, ?_⟩
        unfold m_agrees_E1
        simp [hw_s (hu _ this.1), hw_n (hv _ this.2)]
        cases p.1.testBit 2 <;> cases decide (p.2 % 2 = 1) <;> simp
      have hmin : min us.length vs.length < 100000 := by omega
      simp only [Nat.testBit_zero] at hlc
      simp [agrB, ha, aheadD, isNoneD, signs_row, zipD_map, hlc, hmin, gAll_bools]
end S

namespace S
open PySem L2
theorem inner_spec {t : T} {n : Nat} {sh : Int} {dn ac : List (List Int)} {acc : List T} {r : Nat} {g8 g9 : Option T} (hn : n ≤ 12) (hr : r < n) (h1 : okBits (n + 1) n dn) (h2 : okBits n (n + 1) ac) : ∃ g8' g9' : Option T,
    forL (gN 8) m__law_ties_L1 (rangeD 0 (n : Nat)) [some t, some (.d (.int (n : Nat))), some (.d (.int sh)), some (bitsT dn), some (bitsT ac), some (.lst acc), some (.d (.int (r : Nat))), some (.d (.str "")), g8, g9] =
      .ok .nx [some t, some (.d (.int (n : Nat))), some (.d (.int sh)), some (bitsT dn), some (bitsT ac), some (.lst acc), some (.d (.int (r : Nat))), some (.d (.str (rowS (rowN dn ac r n)))), g8', g9'] := by
  obtain ⟨s', e, I⟩ := forL_inv (a := gN 8) (b := m__law_ties_L1)
    (ds := rangeD 0 (n : Nat)) (s := [some t, some (.d (.int (n : Nat))), some (.d (.int sh)), some (bitsT dn), some (bitsT ac), some (.lst acc), some (.d (.int (r : Nat))), some (.d (.str "")), g8, g9])
    (fun i s => ∃ g8' g9' : Option T, s = [some t, some (.d (.int (n : Nat))), some (.d (.int sh)), some (bitsT dn), some (bitsT ac), some (.lst acc), some (.d (.int (r : Nat))), some (.d (.str (rowS (rowN dn ac r i)))), g8', g9'])
    ⟨g8, g9, rfl⟩ (by
      rintro i hi s ⟨g8', g9', rfl⟩
      rw [range_len] at hi
      have e1 := bAt_ix h1 (show r < n + 1 by omega) hi
      have e2 := bAt_ix h2 hr (show i + 1 < n + 1 by omega)
      have e3 := bAt_ix h1 (show r + 1 < n + 1 by omega) hi
      have e4 := bAt_ix h2 hr (show i < n + 1 by omega)
      simp only [Int.natCast_add, Int.natCast_one] at e2 e3
      obtain ⟨q1, q2⟩ := cN_cast (r := r) (c := i) h1 h2
      have b1 := bAt_bit (r := r) (c := i) h1
      have b2 := bAt_bit (r := r) (c := i + 1) h2
      have b3 := bAt_bit (r := r + 1) (c := i) h1
      have b4 := bAt_bit (r := r) (c := i) h2
      unfold isBit at b1 b2 b3 b4
      have e5 := hexs q2
      rw [q1] at e5
      have e6 : gAddS (.str (rowS (rowN dn ac r i))) (.str (sg (hx (cN dn ac r i)))) = some (.str (rowS (rowN dn ac r (i + 1)))) := by
        rw [row_app (by simp [rowN]; omega)]
        unfold rowN
        rw [List.range_succ, List.map_append]
        rfl
      refine ⟨[some t, some (.d (.int (n : Nat))), some (.d (.int sh)), some (bitsT dn), some (bitsT ac), some (.lst acc), some (.d (.int (r : Nat))), some (.d (.str (rowS (rowN dn ac r i)))), some (.d (.int (i : Nat))), g9'], _, by simp [range_get], ?_, some (.d (.int (i : Nat))), some (.d (.int (bAt dn r i + 2 * bAt ac r (i + 1) + 4 * bAt dn (r + 1) i + 8 * bAt ac r i))), rfl⟩
      unfold m__law_ties_L1
      simp (disch := omega) [bits_data, e1, e2, e3, e4, e5, e6, -gIxL_eq])
  rw [range_len] at I
  obtain ⟨g8', g9', rfl⟩ := I
  exact ⟨g8', g9', e⟩
theorem ties_spec {t : T} {c n : Nat} (h : St c t) (hc : c < 70000) (h0 : 2 ≤ n) (hn : n ≤ 12) : ∃ vss t', vss.length = n ∧ sqV vss ∧ tiesB vss = true ∧ St (c + 400) t' ∧ m__law_ties [t, .d (.int (n : Nat))] = .ok (rowsT vss) [some t', some (.d (.int (n : Nat)))] := by
  obtain ⟨v, t1, e1, a1, b1, s1⟩ := take_spec (n := 6) h (by omega) (by omega) (by omega)
  obtain ⟨sh, hsh⟩ : ∃ sh : Int, atI [PyData.int 0, .int 1, .int 3, .int 5, .int 3, .int 6] v = some (.int sh) := by
    obtain ⟨z, hz, e⟩ := at6 (a := PyData.int 0) (b := .int 1) (c := .int 3) (d := .int 5) (e := .int 3) (f := .int 6) a1 b1
    simp only [List.mem_cons, List.not_mem_nil, or_false] at hz
    rcases hz with rfl | rfl | rfl | rfl | rfl | rfl <;> exact ⟨_, e⟩
  obtain ⟨dn, t2, k1, s2, e2⟩ := bits_spec (m := n + 1) (n := n) (sh := sh) s1 (by omega) (by omega) (by omega)
  obtain ⟨ac, t3, k2, s3, e3⟩ := bits_spec (m := n) (n := n + 1) (sh := sh) s2 (by omega) (by omega) (by omega)
  simp only [Int.natCast_add, Int.natCast_one] at e2 e3
  obtain ⟨s', e, I⟩ := forL_inv (a := gN 6) (b := m__law_ties_L2)
    (ds := rangeD 0 (n : Nat)) (s := [some t3, some (.d (.int (n : Nat))), some (.d (.int sh)), some (bitsT dn), some (bitsT ac), some (.lst []), none, none, none, none])
    (fun i s => ∃ g6 g7 g8 g9 : Option T, s = [some t3, some (.d (.int (n : Nat))), some (.d (.int sh)), some (bitsT dn), some (bitsT ac), some (rowsT (vssN dn ac n i)), g6, g7, g8, g9])
    ⟨none, none, none, none, rfl⟩ (by
      rintro i hi s ⟨g6, g7, g8, g9, rfl⟩
      rw [range_len] at hi
      obtain ⟨g8', g9', e4⟩ := inner_spec (t := t3) (sh := sh) (acc := (vssN dn ac n i).map rowT) (g8 := g8) (g9 := g9) hn hi k1 k2
      refine ⟨[some t3, some (.d (.int (n : Nat))), some (.d (.int sh)), some (bitsT dn), some (bitsT ac), some (rowsT (vssN dn ac n i)), some (.d (.int (i : Nat))), g7, g8, g9], _, by simp [range_get], ?_, some (.d (.int (i : Nat))), some (.d (.str (rowS (rowN dn ac i n)))), g8', g9', rfl⟩
      have hl : (vssN dn ac n i).length < 16777216 := by simp [vssN]; omega
      have e5 : (vssN dn ac n i).map rowT ++ [.d (.str (rowS (rowN dn ac i n)))] = (vssN dn ac n (i + 1)).map rowT := by
        unfold vssN
        rw [List.range_succ, List.map_append, List.map_append]
        rfl
      unfold rowsT m__law_ties_L2
      simp (disch := omega) [e4, hl, e5])
  rw [range_len] at I
  obtain ⟨g6, g7, g8, g9, rfl⟩ := I
  refine ⟨vssN dn ac n n, t3, by simp [vssN], vss_sq h0 hn k1 k2, vss_ties h0 hn k1 k2, s3.mono (by omega), ?_⟩
  unfold m__law_ties
  simp (disch := omega) [h.nd, e1, s1.nd, hsh, e2, s2.nd, e3, e, rowsT]
end S

namespace S
open PySem L2
def tieT (A : Adr) (vss : List (List Nat)) : T := .obj A.Ties [("lines", .lst (vss.map fun vs => .d (.str (rowS vs))))]
theorem linit_spec {A : Adr} {vss : List (List Nat)} : m_Layer___init__ A [.obj A.Ties [], .d (rowsD vss)] = .ok (.d .none) [some (tieT A vss), some (.d (rowsD vss))] := by
  unfold m_Layer___init__
  simp [rowsD, putFi, putFG, tieT]
theorem tinit_bad {A : Adr} {d : PyData} (hd : niceD d) (h : okR d = false) : m_Ties___init__ A [.obj A.Ties [], .d d] = .ex (dExc A.BadSheet) [some (.obj A.Ties []), some (.d d)] := by
  unfold m_Ties___init__
  simp [are_rows_spec hd, h, sRaise]
theorem tinit_pre {A : Adr} {vss : List (List Nat)} (h : sqV vss) : (fCb gAll (fCons (fLc (fiArgs (fCons (fN (nCat (fLst (fCons (fC .none) fNil)) (fVar 1))) (fCons (fVar 1) fNil)) cZip) [2, 3] (wT 2 (wCs (wN 2) (wCs (wN 3) wNl))) cYes m_Ties___init___E1) fNil)) [some (dObj A.Ties []), some (rowsD vss), none, none] = some (.bool (tiesB vss)) := by
  have hne : vss ≠ [] := fun e => by have := h.1; rw [e] at this; simp at this
  have hz : zipD (PyData.none :: vss.map fun vs => .str (rowS vs)) (vss.map fun vs => .str (rowS vs)) = ((none :: vss.map some).zip vss).map fun p => .tuple [aheadD p.1, .str (rowS p.2)] := by
    have e : (PyData.none :: vss.map fun vs => PyData.str (rowS vs)) = (none :: vss.map some).map aheadD := by simp [aheadD, Function.comp_def]
    rw [e, zipD_map]
  have hlc : lcP [2, 3] (wT 2 (wCs (wN 2) (wCs (wN 3) wNl))) cYes m_Ties___init___E1 [some (dObj A.Ties []), some (rowsD vss), none, none] (((none :: vss.map some).zip vss).map fun p => PyData.tuple [aheadD p.1, .str (rowS p.2)]) = some (((none :: vss.map some).zip vss).map fun p => .bool (agrB p.1 p.2)) := lcP_map _ _ fun p hp => by
    have hm := List.of_mem_zip hp
    refine ⟨[some (dObj A.Ties []), some (rowsD vss), some (aheadD p.1), some (.str (rowS p.2))], by simp, rfl, ?_⟩
    have := agrees_spec (us := p.1) (vs := p.2) (fun l e => by
      rw [e] at hm
      have := hm.1
      simp at this
      exact (h.2.2 l this).2) (h.2.2 _ hm.2).2 (by have := (h.2.2 _ hm.2).1; have := h.2.1; omega)
    simp [this, m_Ties___init___E1]
  have hlen : min (vss.length + 1) vss.length < 100000 := by have := h.2.1; omega
  have hcat : 1 + vss.length ≤ 16777216 := by have := h.2.1; omega
  have har := are_rows_spec (nice_rows h)
  rw [okR_rows h] at har
  have hga : gAll [.list (((none :: vss.map some).zip vss).map fun p => .bool (agrB p.1 p.2))] = some (.bool (tiesB vss)) := by rw [gAll_bools]; rfl
  have hcat2 : nCat (fLst (fCons (fC .none) fNil)) (fVar 1) [some (dObj A.Ties []), some (rowsD vss), none, none] = some (.none :: vss.map fun vs => .str (rowS vs)) := by
    have h1 : intHead [PyData.none] = false := rfl
    have h2 : 1 + (vss.map fun vs => PyData.str (rowS vs)).length ≤ 16777216 := by simpa using hcat
    simp [nCat, rowsD, h1, intHead_rows hne, hcat]
  have hr : rowsD vss = .list (vss.map fun vs => .str (rowS vs)) := rfl
  simp only [fCb_eq, fCons_eq, fLc_eq, fiArgs_eq, fN_eq, hcat2, fNil_eq, fVar_eq]
  simp [hr, hz]
  rw [hr] at hlc
  have hl3 : vss.length < 100000 := by have := h.2.1; omega
  simp [hl3, hlc, hga]
theorem tinit_good {A : Adr} {vss : List (List Nat)} (h : sqV vss) : m_Ties___init__ A [.obj A.Ties [], .d (rowsD vss)] = if tiesB vss then .ok (.d .none) [some (tieT A vss), some (.d (rowsD vss))] else .ex (dExc A.BadSheet) [some (.obj A.Ties []), some (.d (rowsD vss))] := by
  have hpre := tinit_pre (A := A) h
  have har := are_rows_spec (nice_rows h)
  rw [okR_rows h] at har
  unfold m_Ties___init__
  generalize (fCb gAll (fCons (fLc (fiArgs (fCons (fN (nCat (fLst (fCons (fC .none) fNil)) (fVar 1))) (fCons (fVar 1) fNil)) cZip) [2, 3] (wT 2 (wCs (wN 2) (wCs (wN 3) wNl))) cYes m_Ties___init___E1) fNil)) = f at hpre ⊢
  cases ht : tiesB vss with
  | false =>
    rw [ht] at hpre
    simp [har, sRaise, hpre]
  | true =>
    rw [ht] at hpre
    simp [har, hpre, linit_spec]
theorem tinit_goodT {A : Adr} {vss : List (List Nat)} (h : sqV vss) (ht : tiesB vss = true) : m_Ties___init__ A [.obj A.Ties [], rowsT vss] = .ok (.d .none) [some (tieT A vss), some (rowsT vss)] := by
  have hpre := tinit_pre (A := A) h
  have har := are_rows_spec (nice_rows h)
  rw [okR_rows h] at har
  have dd : (rowsT vss).data = rowsD vss := by
    unfold rowsT rowsD rowT
    rw [data_lst, dataL_mapd]
  have fz : frzD (some (rowsT vss)) = none := rfl
  have li : m_Layer___init__ A [.obj A.Ties [], rowsT vss] = .ok (.d .none) [some (tieT A vss), some (rowsT vss)] := by
    have im : isImmL (vss.map fun vs => PyData.str (rowS vs)) = true := immL_strs
    unfold m_Layer___init__
    simp [dd, fz, rowsD, im, putFi, putFG, tieT]
  have hd : (rowsT vss).isD = false := rfl
  unfold m_Ties___init__
  generalize (fCb gAll (fCons (fLc (fiArgs (fCons (fN (nCat (fLst (fCons (fC .none) fNil)) (fVar 1))) (fCons (fVar 1) fNil)) cZip) [2, 3] (wT 2 (wCs (wN 2) (wCs (wN 3) wNl))) cYes m_Ties___init___E1) fNil)) = f at hpre ⊢
  rw [ht] at hpre
  simp [dd, hd, har, hpre, li]
theorem tinit_ex {A : Adr} {d : PyData} (hd : niceD d) (h : ¬ goodD d) : m_Ties___init__ A [.obj A.Ties [], .d d] = .ex (dExc A.BadSheet) [some (.obj A.Ties []), some (.d d)] := by
  cases e : okR d with
  | false => exact tinit_bad hd e
  | true =>
    obtain ⟨vss, rfl, h1⟩ := okR_iff e
    rw [tinit_good h1, if_neg]
    exact fun z => h ⟨vss, rfl, h1, z⟩
theorem word_spec {A : Adr} : m__law_word A [.d (dExc A.BadSheet)] = .ok (.lst [.d (.str "sheet")]) [some (.d (dExc A.BadSheet))] := by
  unfold m__law_word
  simp [lcL, List.getElem?_cons_succ]
end S

namespace S
open PySem L2
/-! ### edges of a layer of ties -/
def tieD (A : Adr) (vss : List (List Nat)) : PyData := dObj A.Ties [(.str "lines", rowsD vss)]
theorem tieT_data {A : Adr} {vss : List (List Nat)} : (tieT A vss).data = tieD A vss := by
  unfold tieT tieD rowsD
  simp [Function.comp_def]
/-- the sums along a side -/
def alongN (vss : List (List Nat)) : List Nat := vss.getD 0 []
def alongS (vss : List (List Nat)) : List Nat := vss.getD (vss.length - 1) []
def alongW (vss : List (List Nat)) : List Nat := vss.map fun vs => vs.getD 0 0
def alongE (vss : List (List Nat)) : List Nat := vss.map fun vs => vs.getD (vs.length - 1) 0
theorem look_lines {d : PyData} : lookD "lines" [(.str "lines", d)] = some d := by simp [lookD]
theorem along_n {A : Adr} {vss : List (List Nat)} (h : sqV vss) : m_Layer_signs_along A [.d (tieD A vss), .d (.str "n")] = .ok (.d (.str (rowS (alongN vss)))) [some (.d (tieD A vss)), some (.d (.str "n"))] := by
  have e := rows_ix (vss := vss) (r := 0) (by have := h.1; omega)
  unfold rowsD at e
  unfold m_Layer_signs_along tieD rowsD
  simp [look_lines] at e ⊢
  simp [e, alongN]
theorem along_s {A : Adr} {vss : List (List Nat)} (h : sqV vss) : m_Layer_signs_along A [.d (tieD A vss), .d (.str "s")] = .ok (.d (.str (rowS (alongS vss)))) [some (.d (tieD A vss)), some (.d (.str "s"))] := by
  have n1 : ¬ (("s" : Str) = "n") := by decide +kernel
  have e := atI_neg (l := vss.map fun vs => PyData.str (rowS vs)) (n := 1) (by omega) (by have := h.1; simp; omega)
  rw [show (-(1 : Nat) : Int) = -1 by rfl] at e
  have q : vss.length - 1 < vss.length := by have := h.1; omega
  unfold m_Layer_signs_along tieD rowsD
  simp [look_lines, n1, e, alongS, q]
theorem along_w {A : Adr} {vss : List (List Nat)} (h : sqV vss) : m_Layer_signs_along A [.d (tieD A vss), .d (.str "w")] = .ok (.d (.str (rowS (alongW vss)))) [some (.d (tieD A vss)), some (.d (.str "w"))] := by
  have n1 : ¬ (("w" : Str) = "n") := by decide +kernel
  have n2 : ¬ (("w" : Str) = "s") := by decide +kernel
  have hl : vss.length < 100000 := by have := h.2.1; omega
  have hlc : lcP [2] (wN 2) cYes (fOp gIxS (fVar 2) (fC (.int 0))) [some (tieD A vss), some (.str "w"), none] (vss.map fun vs => .str (rowS vs)) = some (vss.map fun vs => .str (sg (hx (vs.getD 0 0)))) := lcP_map _ _ fun vs hv => by
    obtain ⟨h1, h2⟩ := h.2.2 vs hv
    refine ⟨[some (tieD A vss), some (.str "w"), some (.str (rowS vs))], by simp, rfl, ?_⟩
    have := row_ix (vs := vs) (c := 0) (by have := h.1; omega) (by have := h.2.1; omega)
    simpa using this
  have hj := join_sg (l := vss.map fun vs => hx (vs.getD 0 0)) (by have := h.2.1; simp; omega)
  rw [List.map_map] at hj
  unfold tieD rowsD at hlc
  unfold m_Layer_signs_along tieD rowsD
  simp [look_lines, n1, n2, hl, hlc]
  simp only [Function.comp_def] at hj
  simp at hj
  simp [hj, alongW, rowS, Function.comp_def]
theorem along_e {A : Adr} {vss : List (List Nat)} (h : sqV vss) : m_Layer_signs_along A [.d (tieD A vss), .d (.str "e")] = .ok (.d (.str (rowS (alongE vss)))) [some (.d (tieD A vss)), some (.d (.str "e"))] := by
  have n1 : ¬ (("e" : Str) = "n") := by decide +kernel
  have n2 : ¬ (("e" : Str) = "s") := by decide +kernel
  have n3 : ¬ (("e" : Str) = "w") := by decide +kernel
  have hl : vss.length < 100000 := by have := h.2.1; omega
  have hlc : lcP [2] (wN 2) cYes (fOp gIxS (fVar 2) (fNeg (fC (.int 1)))) [some (tieD A vss), some (.str "e"), none] (vss.map fun vs => .str (rowS vs)) = some (vss.map fun vs => .str (sg (hx (vs.getD (vs.length - 1) 0)))) := lcP_map _ _ fun vs hv => by
    obtain ⟨h1, h2⟩ := h.2.2 vs hv
    refine ⟨[some (tieD A vss), some (.str "e"), some (.str (rowS vs))], by simp, rfl, ?_⟩
    have := row_ixn (vs := vs) (by have := h.1; omega) (by have := h.2.1; omega)
    simpa using this
  have hj := join_sg (l := vss.map fun vs => hx (vs.getD (vs.length - 1) 0)) (by have := h.2.1; simp; omega)
  rw [List.map_map] at hj
  unfold tieD rowsD at hlc
  unfold m_Layer_signs_along tieD rowsD
  simp [look_lines, n1, n2, n3, hl, hlc]
  simp only [Function.comp_def] at hj
  simp at hj
  simp [hj, alongE, rowS, Function.comp_def]
/-- the text of an edge: which sums have a bit -/
def edgeS (k : Nat) (vs : List Nat) : Str := mkS (vs.map fun v => if v.testBit k then 49 else 48)
theorem edge_of {A : Adr} {vss : List (List Nat)} {way : Str} {vs : List Nat} {k : Nat} (h16 : ∀ v ∈ vs, v < 16) (hl : vs.length ≤ 10000)
    (hw : ∀ v, v < 16 → resD (m_has_way [.d (.str (sg (hx v))), .d (.str way)]) = some (.bool (v.testBit k)))
    (ha : m_Layer_signs_along A [.d (tieD A vss), .d (.str way)] = .ok (.d (.str (rowS vs))) [some (.d (tieD A vss)), some (.d (.str way))]) :
    m_Ties_edge A [.d (tieD A vss), .d (.str way)] = .ok (.d (.str (edgeS k vs))) [some (.d (tieD A vss)), some (.d (.str way))] := by
  have hlc : lcP [2] (wN 2) cYes m_Ties_edge_E1 [some (tieD A vss), some (.str way), none] (signs (rowS vs)) = some (vs.map fun v => .str (sg (if v.testBit k then 49 else 48))) := by
    rw [signs_row]
    refine lcP_map _ _ fun v hv => ⟨[some (tieD A vss), some (.str way), some (.str (sg (hx v)))], by simp, rfl, ?_⟩
    unfold m_Ties_edge_E1
    have := hw v (h16 v hv)
    cases q : v.testBit k <;> simp [this, q] <;> rfl
  have hj := join_sg (l := vs.map fun v => if v.testBit k then 49 else 48) (by simpa using hl)
  rw [List.map_map] at hj
  simp only [Function.comp_def] at hj
  have hn : (namesD [(PyData.str "lines", rowsD vss)]).contains "signs_along" = false := by simp [namesD]; decide +kernel
  have hlen : (signs (rowS vs)).length < 100000 := by rw [signs_row]; simp; omega
  unfold m_Ties_edge
  unfold tieD at ha hlc ⊢
  simp [methD_some hn, ha, hlc, hlen, hj, edgeS]
section
variable {A : Adr} {vss : List (List Nat)}
theorem along_ok (h : sqV vss) : (∀ v ∈ alongN vss, v < 16) ∧ (∀ v ∈ alongS vss, v < 16) ∧ (∀ v ∈ alongW vss, v < 16) ∧ (∀ v ∈ alongE vss, v < 16) ∧ (alongN vss).length = vss.length ∧ (alongS vss).length = vss.length ∧ (alongW vss).length = vss.length ∧ (alongE vss).length = vss.length := by
  have h1 := h.1
  have h2 := h.2.1
  have g0 : 0 < vss.length := by omega
  have g1 : vss.length - 1 < vss.length := by omega
  have r0 := h.2.2 _ (List.getElem_mem g0)
  have r1 := h.2.2 _ (List.getElem_mem g1)
  unfold alongN alongS alongW alongE
  rw [getD_at g0, getD_at g1]
  refine ⟨r0.2, r1.2, fun v hv => ?_, fun v hv => ?_, r0.1, r1.1, by simp, by simp⟩
  · obtain ⟨vs, hm, rfl⟩ := List.mem_map.mp hv
    obtain ⟨a, b⟩ := h.2.2 vs hm
    rw [getD_at (by omega)]
    exact b _ (List.getElem_mem _)
  · obtain ⟨vs, hm, rfl⟩ := List.mem_map.mp hv
    obtain ⟨a, b⟩ := h.2.2 vs hm
    rw [getD_at (by omega)]
    exact b _ (List.getElem_mem _)
theorem edge_n (h : sqV vss) : m_Ties_edge A [.d (tieD A vss), .d (.str "n")] = .ok (.d (.str (edgeS 0 (alongN vss)))) [some (.d (tieD A vss)), some (.d (.str "n"))] :=
  edge_of (along_ok h).1 (by have := (along_ok h).2.2.2.2.1; have := h.2.1; omega) (fun v => hw_n) (along_n h)
theorem edge_s (h : sqV vss) : m_Ties_edge A [.d (tieD A vss), .d (.str "s")] = .ok (.d (.str (edgeS 2 (alongS vss)))) [some (.d (tieD A vss)), some (.d (.str "s"))] :=
  edge_of (along_ok h).2.1 (by have := (along_ok h).2.2.2.2.2.1; have := h.2.1; omega) (fun v => hw_s) (along_s h)
theorem edge_w (h : sqV vss) : m_Ties_edge A [.d (tieD A vss), .d (.str "w")] = .ok (.d (.str (edgeS 3 (alongW vss)))) [some (.d (tieD A vss)), some (.d (.str "w"))] :=
  edge_of (along_ok h).2.2.1 (by have := (along_ok h).2.2.2.2.2.2.1; have := h.2.1; omega) (fun v => hw_w) (along_w h)
theorem edge_e (h : sqV vss) : m_Ties_edge A [.d (tieD A vss), .d (.str "e")] = .ok (.d (.str (edgeS 1 (alongE vss)))) [some (.d (tieD A vss)), some (.d (.str "e"))] :=
  edge_of (along_ok h).2.2.2.1 (by have := (along_ok h).2.2.2.2.2.2.2; have := h.2.1; omega) (fun v => hw_e) (along_e h)
end
end S

namespace S
open PySem L2
/-! ### clash -/
def isSt (o : Option PyData) (z : Str) : Bool := match o with
  | some (.str c) => decide (c = z)
  | _ => false
theorem isSt_eq {o : Option PyData} {z : Str} (h : isSt o z = true) : o = some (.str z) := by
  unfold isSt at h
  split at h
  · rw [decide_eq_true_eq] at h; rw [h]
  · cases h
theorem against_n : resD (m_against [.d (.str "n")]) = some (.str "s") := isSt_eq (by decide +kernel)
theorem against_s : resD (m_against [.d (.str "s")]) = some (.str "n") := isSt_eq (by decide +kernel)
theorem against_e : resD (m_against [.d (.str "e")]) = some (.str "w") := isSt_eq (by decide +kernel)
theorem against_w : resD (m_against [.d (.str "w")]) = some (.str "e") := isSt_eq (by decide +kernel)
/-- the places at which two rows of truths differ -/
def diffs (bs cs : List Bool) : List Nat := (List.range (min bs.length cs.length)).filter fun i => bs.getD i false != cs.getD i false
theorem diffs_step {bs cs : List Bool} {i : Nat} : (List.range (i + 1)).filter (fun i => bs.getD i false != cs.getD i false) = (List.range i).filter (fun i => bs.getD i false != cs.getD i false) ++ (if bs.getD i false != cs.getD i false then [i] else []) := by
  rw [List.range_succ, List.filter_append]
  congr 1
  cases h : (bs.getD i false != cs.getD i false) <;> simp only [List.filter_cons, List.filter_nil, h, if_true, Bool.false_eq_true, if_false]
def bS (bs : List Bool) : Str := mkS (bs.map fun b => if b then 49 else 48)
theorem edge_bS {k : Nat} {vs : List Nat} : edgeS k vs = bS (vs.map fun v => v.testBit k) := by
  unfold edgeS bS
  rw [List.map_map]
  rfl
def intsT (l : List Nat) : T := .lst (l.map fun i => .d (.int (i : Nat)))
theorem clash_of {A : Adr} {us vs : List (List Nat)} {way back : Str} {bs cs : List Bool} (hb : bs.length ≤ 12) (hc : cs.length ≤ 12)
    (h1 : m_Ties_edge A [.d (tieD A us), .d (.str way)] = .ok (.d (.str (bS bs))) [some (.d (tieD A us)), some (.d (.str way))])
    (h2 : m_Ties_edge A [.d (tieD A vs), .d (.str back)] = .ok (.d (.str (bS cs))) [some (.d (tieD A vs)), some (.d (.str back))])
    (h3 : resD (m_against [.d (.str way)]) = some (.str back)) :
    m_Ties_clash A [.d (tieD A us), .d (tieD A vs), .d (.str way)] = .ok (intsT (diffs bs cs)) [some (.d (tieD A us)), some (.d (tieD A vs)), some (.d (.str way))] := by
  have hn : ∀ ws, (namesD [(PyData.str "lines", rowsD ws)]).contains "edge" = false := fun ws => by simp [namesD]; decide +kernel
  have hz : zipD (signs (bS bs)) (signs (bS cs)) = (bs.zip cs).map fun p => .tuple [.str (sg (if p.1 then 49 else 48)), .str (sg (if p.2 then 49 else 48))] := by
    have e : ∀ l : List Bool, signs (bS l) = l.map fun b => .str (sg (if b then 49 else 48)) := fun l => by rw [bS, signs_mk, List.map_map]; rfl
    rw [e, e, zipD_map]
  have hlz : (enumD 0 (zipD (signs (bS bs)) (signs (bS cs)))).length = min bs.length cs.length := by rw [enumD_len, hz]; simp
  obtain ⟨s', e, I⟩ := forL_inv (a := gT 2 (gCs (gN 4) (gCs (gT 2 (gCs (gN 5) (gCs (gN 6) gNl))) gNl))) (b := m_Ties_clash_L1) (ds := enumD 0 (zipD (signs (bS bs)) (signs (bS cs)))) (s := [some (.d (tieD A us)), some (.d (tieD A vs)), some (.d (.str way)), some (.lst []), none, none, none])
    (fun i s => ∃ g4 g5 g6 : Option T, s = [some (.d (tieD A us)), some (.d (tieD A vs)), some (.d (.str way)), some (intsT ((List.range i).filter fun i => bs.getD i false != cs.getD i false)), g4, g5, g6])
    ⟨none, none, none, rfl⟩ (by
      rintro i hi s ⟨g4, g5, g6, rfl⟩
      have hi' := hi
      rw [hlz] at hi
      have hb1 : i < bs.length := by omega
      have hc1 : i < cs.length := by omega
      have hit : (enumD 0 (zipD (signs (bS bs)) (signs (bS cs))))[i] = .tuple [.int (i : Nat), .tuple [.str (sg (if bs[i] then 49 else 48)), .str (sg (if cs[i] then 49 else 48))]] := by
        rw [← getD_at (d := .none) hi', enumD_at (by rw [hz, List.length_map, List.length_zip]; exact hi), Nat.zero_add, hz, getD_at (by rw [List.length_map, List.length_zip]; exact hi)]
        simp
      rw [hit]
      have ne1 : ¬ (sg 49 = sg 48) := by decide +kernel
      have ne2 : ¬ (sg 48 = sg 49) := by decide +kernel
      have hl : ((List.range i).filter fun i => bs.getD i false != cs.getD i false).length < 16777216 := by
        have := List.length_filter_le (fun i => bs.getD i false != cs.getD i false) (List.range i)
        rw [List.length_range] at this
        omega
      rw [diffs_step]
      have g1 : bs.getD i false = bs[i] := getD_at hb1
      have g2 : cs.getD i false = cs[i] := getD_at hc1
      refine ⟨[some (.d (tieD A us)), some (.d (tieD A vs)), some (.d (.str way)), some (intsT ((List.range i).filter fun i => bs.getD i false != cs.getD i false)), some (.d (.int (i : Nat))), some (.d (.str (sg (if bs[i] then 49 else 48)))), some (.d (.str (sg (if cs[i] then 49 else 48))))], [some (.d (tieD A us)), some (.d (tieD A vs)), some (.d (.str way)), some (intsT ((List.range i).filter (fun i => bs.getD i false != cs.getD i false) ++ if bs.getD i false != cs.getD i false then [i] else [])), some (.d (.int (i : Nat))), some (.d (.str (sg (if bs[i] then 49 else 48)))), some (.d (.str (sg (if cs[i] then 49 else 48))))], by simp, ?_, some (.d (.int (i : Nat))), some (.d (.str (sg (if bs[i] then 49 else 48)))), some (.d (.str (sg (if cs[i] then 49 else 48)))), rfl⟩
      generalize hfl : ((List.range i).filter fun i => bs.getD i false != cs.getD i false) = fl at hl ⊢
      rw [g1, g2]
      unfold m_Ties_clash_L1 intsT
      cases bs[i] <;> cases cs[i] <;> simp [ne1, ne2, hl])
  obtain ⟨g4, g5, g6, rfl⟩ := I
  rw [hlz] at e
  unfold m_Ties_clash
  unfold tieD at h1 h2 e ⊢
  simp [methD_some (hn _), h1, h2, h3, e]
  rfl
end S

namespace S
open PySem L2
/-! ### one tie of one cell put in, or out -/
theorem rowsT_data {vss : List (List Nat)} : (rowsT vss).data = rowsD vss := by
  unfold rowsT rowsD rowT
  rw [data_lst, dataL_mapd]
theorem xor_all : ∀ v : Fin 16, ∀ b : Fin 16, Builtin.bitXor ((v.val : Nat) : Int) ((b.val : Nat) : Int) = ((v.val ^^^ b.val : Nat) : Int) := by decide +kernel
theorem xor_lt : ∀ v : Fin 16, ∀ b : Fin 16, v.val ^^^ b.val < 16 := by decide +kernel
theorem turned_spec {vss : List (List Nat)} {t : T} {r c b : Nat} (h : sqV vss) (ht : t = .d (rowsD vss) ∨ t = rowsT vss) (hr : r < vss.length) (hc : c < vss.length) (hb : b < 16) :
    m__law_turned [t, .d (.int (r : Nat)), .d (.int (c : Nat)), .d (.int (b : Nat))] = .ok (rowsT (setC vss r c (cV vss r c ^^^ b))) [some t, some (.d (.int (r : Nat))), some (.d (.int (c : Nat))), some (.d (.int (b : Nat)))] := by
  have h1 := h.1
  have h2 := h.2.1
  have hl := row_len h hr
  have hv := cV_lt h r c
  have ex := xor_all ⟨_, hv⟩ ⟨_, hb⟩
  have lx := xor_lt ⟨_, hv⟩ ⟨_, hb⟩
  simp only at ex lx
  have e0 := cell_at h hr hc
  have e1 := rows_ix hr
  have e2 := hexs lx
  rw [← ex] at e2
  generalize hrow : vss.getD r [] = vs at *
  have hlen : vs.length ≤ 10000 := by omega
  have s1 : cutN ((rowS vs).cps.toList) none (some (c : Int)) = (vs.take c).map hx := by rw [cutN_to, rowS_cps, List.map_take]
  have s2 : cutN ((rowS vs).cps.toList) (some ((c : Int) + 1)) none = (vs.drop (c + 1)).map hx := by
    have := cutN_from (l := (rowS vs).cps.toList) (k := c + 1)
    rw [show ((c + 1 : Nat) : Int) = (c : Int) + 1 by omega] at this
    rw [this, rowS_cps, List.map_drop]
  have hsz : (rowS vs).cps.size ≤ 10000 := by rw [← Array.length_toList, rowS_cps]; simpa using hlen
  have hll : (rowS vs).cps.toList.length ≤ 10000 := by rw [rowS_cps]; simpa using hlen
  have a1 := addS_mk (l := (vs.take c).map hx) (m := [hx (cV vss r c ^^^ b)]) (by simp; omega)
  have a2 := addS_mk (l := (vs.take c).map hx ++ [hx (cV vss r c ^^^ b)]) (m := (vs.drop (c + 1)).map hx) (by simp; omega)
  have etx : mkS ((vs.take c).map hx ++ [hx (cV vss r c ^^^ b)] ++ (vs.drop (c + 1)).map hx) = rowS (vs.set c (cV vss r c ^^^ b)) := by
    rw [List.set_eq_take_append_cons_drop, if_pos (by omega)]
    simp [rowS]
  have d1 : cutD (vss.map fun vs => .str (rowS vs)) none (some (r : Int)) = (vss.take r).map fun vs => .str (rowS vs) := by rw [cutD_to, List.map_take]
  have d2 : cutD (vss.map fun vs => .str (rowS vs)) (some ((r : Int) + 1)) none = (vss.drop (r + 1)).map fun vs => .str (rowS vs) := by
    have := cutD_from (l := vss.map fun vs => PyData.str (rowS vs)) (k := r + 1)
    rw [show ((r + 1 : Nat) : Int) = (r : Int) + 1 by omega] at this
    rw [this, List.map_drop]
  have fin : rowsT (setC vss r c (cV vss r c ^^^ b)) = .lst (((vss.take r).map fun vs => T.d (.str (rowS vs))) ++ [.d (.str (rowS (vs.set c (cV vss r c ^^^ b))))] ++ (vss.drop (r + 1)).map fun vs => .d (.str (rowS vs))) := by
    unfold rowsT setC
    rw [hrow, List.set_eq_take_append_cons_drop, if_pos hr]
    rw [List.map_append, List.map_cons]
    simp only [rowT, List.append_assoc, List.singleton_append]
    rfl
  have i1 : isImmL ((vss.take r).map fun vs => PyData.str (rowS vs)) = true := immL_strs
  have i2 : isImmL ((vss.drop (r + 1)).map fun vs => PyData.str (rowS vs)) = true := immL_strs
  have l1 : (vss.take r).length ≤ 12 := by simp; omega
  have l2 : (vss.drop (r + 1)).length ≤ 12 := by simp; omega
  rw [fin]
  generalize vss.take r = va at *
  generalize vss.drop (r + 1) = vb at *
  have q1 : va.length + 1 ≤ 16777216 := by omega
  have q2 : va.length + 1 + vb.length ≤ 16777216 := by omega
  have ecv : vs.getD c 0 = cV vss r c := by unfold cV; rw [hrow]
  have x1 := row_ix (vs := vs) (c := c) (by omega) hlen
  rw [ecv] at x1
  have x2 : gSIndex (.str "0123456789abcdef") (.str (sg (hx (cV vss r c)))) = some (.int (cV vss r c : Nat)) := hex_ix hv
  have x3 : gIxS (.str "0123456789abcdef") (.int (Builtin.bitXor (cV vss r c : Nat) b)) = some (.str (mkS [hx (cV vss r c ^^^ b)])) := e2
  rw [etx] at a2
  generalize mkS ((vs.take c).map hx ++ [hx (cV vss r c ^^^ b)]) = z3 at a1 a2
  generalize (vs.take c).map hx = z1 at s1 a1
  generalize (vs.drop (c + 1)).map hx = z2 at s2 a2
  clear etx fin
  rcases ht with rfl | rfl
  · unfold m__law_turned
    unfold rowsD at *
    simp [x1, x2, x3, hsz, hll, s1, s2, a1, a2, d1, d2, q1, q2, e1, Function.comp_def, -gIxL_eq]
  · have dd : (rowsT vss).data = rowsD vss := rowsT_data
    unfold m__law_turned
    unfold rowsD at *
    have fz : frzD (some (rowsT vss)) = none := rfl
    simp [x1, x2, x3, dd, fz, hsz, hll, s1, s2, a1, a2, d1, d2, q1, q2, e1, i1, i2, Function.comp_def, -gIxL_eq]
end S

namespace S
open PySem L2
/-! ### ties between neighbours -/
def HA (vss : List (List Nat)) (r c : Nat) : Prop := cV vss r c / 2 % 2 = cV vss r (c + 1) / 8
def VA (vss : List (List Nat)) (r c : Nat) : Prop := cV vss r c / 4 % 2 = cV vss (r + 1) c % 2
theorem x2 : ∀ v : Fin 16, (v.val ^^^ 2) / 2 % 2 = 1 - v.val / 2 % 2 ∧ (v.val ^^^ 2) / 8 = v.val / 8 ∧ (v.val ^^^ 2) / 4 % 2 = v.val / 4 % 2 ∧ (v.val ^^^ 2) % 2 = v.val % 2 := by decide +kernel
theorem x8 : ∀ v : Fin 16, (v.val ^^^ 8) / 2 % 2 = v.val / 2 % 2 ∧ (v.val ^^^ 8) / 8 = 1 - v.val / 8 ∧ (v.val ^^^ 8) / 4 % 2 = v.val / 4 % 2 ∧ (v.val ^^^ 8) % 2 = v.val % 2 := by decide +kernel
theorem x4 : ∀ v : Fin 16, (v.val ^^^ 4) / 2 % 2 = v.val / 2 % 2 ∧ (v.val ^^^ 4) / 8 = v.val / 8 ∧ (v.val ^^^ 4) / 4 % 2 = 1 - v.val / 4 % 2 ∧ (v.val ^^^ 4) % 2 = v.val % 2 := by decide +kernel
theorem x1 : ∀ v : Fin 16, (v.val ^^^ 1) / 2 % 2 = v.val / 2 % 2 ∧ (v.val ^^^ 1) / 8 = v.val / 8 ∧ (v.val ^^^ 1) / 4 % 2 = v.val / 4 % 2 ∧ (v.val ^^^ 1) % 2 = 1 - v.val % 2 := by decide +kernel
section
variable {vss : List (List Nat)} {r c r' c' : Nat}
theorem flip_e (h : sqV vss) (hr : r < vss.length) (hc : c < vss.length) : (HA (setC vss r c (cV vss r c ^^^ 2)) r' c' ↔ if r' = r ∧ c' = c then ¬ HA vss r' c' else HA vss r' c') ∧ (VA (setC vss r c (cV vss r c ^^^ 2)) r' c' ↔ VA vss r' c') := by
  have hl := row_len h hr
  have e1 := cV_setC (v := cV vss r c ^^^ 2) (r' := r') (c' := c') hr (by rw [hl]; exact hc)
  have e2 := cV_setC (v := cV vss r c ^^^ 2) (r' := r') (c' := c' + 1) hr (by rw [hl]; exact hc)
  have e3 := cV_setC (v := cV vss r c ^^^ 2) (r' := r' + 1) (c' := c') hr (by rw [hl]; exact hc)
  have b1 := cV_lt h r c
  have b2 := cV_lt h r' c'
  have b3 := cV_lt h r' (c' + 1)
  have b4 := cV_lt h (r' + 1) c'
  have q := x2 ⟨_, b1⟩
  unfold HA VA
  rw [e1, e2, e3]
  generalize hx : cV vss r c ^^^ 2 = x at *
  simp only at q
  constructor
  · by_cases z1 : r' = r ∧ c' = c
    · obtain ⟨rfl, rfl⟩ := z1
      simp only [and_self, if_true]
      rw [if_neg (by omega)]
      omega
    · rw [if_neg z1, if_neg z1]
      by_cases z2 : r' = r ∧ c' + 1 = c
      · obtain ⟨rfl, rfl⟩ := z2
        simp only [and_self, if_true]
        omega
      · rw [if_neg z2]
  · by_cases z1 : r' = r ∧ c' = c
    · obtain ⟨rfl, rfl⟩ := z1
      simp only [and_self, if_true]
      rw [if_neg (by omega)]
      omega
    · rw [if_neg z1]
      by_cases z2 : r' + 1 = r ∧ c' = c
      · obtain ⟨rfl, rfl⟩ := z2
        simp only [and_self, if_true]
        omega
      · rw [if_neg z2]
theorem flip_w (h : sqV vss) (hr : r < vss.length) (hc : c < vss.length) : (HA (setC vss r c (cV vss r c ^^^ 8)) r' c' ↔ if r' = r ∧ c' + 1 = c then ¬ HA vss r' c' else HA vss r' c') ∧ (VA (setC vss r c (cV vss r c ^^^ 8)) r' c' ↔ VA vss r' c') := by
  have hl := row_len h hr
  have e1 := cV_setC (v := cV vss r c ^^^ 8) (r' := r') (c' := c') hr (by rw [hl]; exact hc)
  have e2 := cV_setC (v := cV vss r c ^^^ 8) (r' := r') (c' := c' + 1) hr (by rw [hl]; exact hc)
  have e3 := cV_setC (v := cV vss r c ^^^ 8) (r' := r' + 1) (c' := c') hr (by rw [hl]; exact hc)
  have b1 := cV_lt h r c
  have b2 := cV_lt h r' c'
  have b3 := cV_lt h r' (c' + 1)
  have b4 := cV_lt h (r' + 1) c'
  have q := x8 ⟨_, b1⟩
  unfold HA VA
  rw [e1, e2, e3]
  generalize hx : cV vss r c ^^^ 8 = x at *
  simp only at q
  constructor
  · by_cases z1 : r' = r ∧ c' = c
    · obtain ⟨rfl, rfl⟩ := z1
      simp only [and_self, if_true]
      rw [if_neg (by omega), if_neg (by omega)]
      omega
    · rw [if_neg z1]
      by_cases z2 : r' = r ∧ c' + 1 = c
      · obtain ⟨rfl, rfl⟩ := z2
        simp only [and_self, if_true]
        omega
      · rw [if_neg z2, if_neg z2]
  · by_cases z1 : r' = r ∧ c' = c
    · obtain ⟨rfl, rfl⟩ := z1
      simp only [and_self, if_true]
      rw [if_neg (by omega)]
      omega
    · rw [if_neg z1]
      by_cases z2 : r' + 1 = r ∧ c' = c
      · obtain ⟨rfl, rfl⟩ := z2
        simp only [and_self, if_true]
        omega
      · rw [if_neg z2]
theorem flip_s (h : sqV vss) (hr : r < vss.length) (hc : c < vss.length) : (HA (setC vss r c (cV vss r c ^^^ 4)) r' c' ↔ HA vss r' c') ∧ (VA (setC vss r c (cV vss r c ^^^ 4)) r' c' ↔ if r' = r ∧ c' = c then ¬ VA vss r' c' else VA vss r' c') := by
  have hl := row_len h hr
  have e1 := cV_setC (v := cV vss r c ^^^ 4) (r' := r') (c' := c') hr (by rw [hl]; exact hc)
  have e2 := cV_setC (v := cV vss r c ^^^ 4) (r' := r') (c' := c' + 1) hr (by rw [hl]; exact hc)
  have e3 := cV_setC (v := cV vss r c ^^^ 4) (r' := r' + 1) (c' := c') hr (by rw [hl]; exact hc)
  have b1 := cV_lt h r c
  have b2 := cV_lt h r' c'
  have b3 := cV_lt h r' (c' + 1)
  have b4 := cV_lt h (r' + 1) c'
  have q := x4 ⟨_, b1⟩
  unfold HA VA
  rw [e1, e2, e3]
  generalize hx : cV vss r c ^^^ 4 = x at *
  simp only at q
  constructor
  · by_cases z1 : r' = r ∧ c' = c
    · obtain ⟨rfl, rfl⟩ := z1
      simp only [and_self, if_true]
      rw [if_neg (by omega)]
      omega
    · rw [if_neg z1]
      by_cases z2 : r' = r ∧ c' + 1 = c
      · obtain ⟨rfl, rfl⟩ := z2
        simp only [and_self, if_true]
        omega
      · rw [if_neg z2]
  · by_cases z1 : r' = r ∧ c' = c
    · obtain ⟨rfl, rfl⟩ := z1
      simp only [and_self, if_true]
      rw [if_neg (by omega)]
      omega
    · rw [if_neg z1, if_neg z1]
      by_cases z2 : r' + 1 = r ∧ c' = c
      · obtain ⟨rfl, rfl⟩ := z2
        simp only [and_self, if_true]
        omega
      · rw [if_neg z2]
theorem flip_n (h : sqV vss) (hr : r < vss.length) (hc : c < vss.length) : (HA (setC vss r c (cV vss r c ^^^ 1)) r' c' ↔ HA vss r' c') ∧ (VA (setC vss r c (cV vss r c ^^^ 1)) r' c' ↔ if r' + 1 = r ∧ c' = c then ¬ VA vss r' c' else VA vss r' c') := by
  have hl := row_len h hr
  have e1 := cV_setC (v := cV vss r c ^^^ 1) (r' := r') (c' := c') hr (by rw [hl]; exact hc)
  have e2 := cV_setC (v := cV vss r c ^^^ 1) (r' := r') (c' := c' + 1) hr (by rw [hl]; exact hc)
  have e3 := cV_setC (v := cV vss r c ^^^ 1) (r' := r' + 1) (c' := c') hr (by rw [hl]; exact hc)
  have b1 := cV_lt h r c
  have b2 := cV_lt h r' c'
  have b3 := cV_lt h r' (c' + 1)
  have b4 := cV_lt h (r' + 1) c'
  have q := x1 ⟨_, b1⟩
  unfold HA VA
  rw [e1, e2, e3]
  generalize hx : cV vss r c ^^^ 1 = x at *
  simp only at q
  constructor
  · by_cases z1 : r' = r ∧ c' = c
    · obtain ⟨rfl, rfl⟩ := z1
      simp only [and_self, if_true]
      rw [if_neg (by omega)]
      omega
    · rw [if_neg z1]
      by_cases z2 : r' = r ∧ c' + 1 = c
      · obtain ⟨rfl, rfl⟩ := z2
        simp only [and_self, if_true]
        omega
      · rw [if_neg z2]
  · by_cases z1 : r' = r ∧ c' = c
    · obtain ⟨rfl, rfl⟩ := z1
      simp only [and_self, if_true]
      rw [if_neg (by omega), if_neg (by omega)]
      omega
    · rw [if_neg z1]
      by_cases z2 : r' + 1 = r ∧ c' = c
      · obtain ⟨rfl, rfl⟩ := z2
        simp only [and_self, if_true]
        omega
      · rw [if_neg z2, if_neg z2]
end
/-! ### what clashes where: four lists of places -/
def CC (h : Nat) (vss : List (List Nat)) (p : Nat → List Nat) : Prop :=
  (∀ r c, r < 2 * h → c + 1 < 2 * h → (HA vss r c ↔ ¬ (c + 1 = h ∧ r % h ∈ p (r / h)))) ∧
  (∀ r c, r + 1 < 2 * h → c < 2 * h → (VA vss r c ↔ ¬ (r + 1 = h ∧ c % h ∈ p (2 + c / h))))
def put1 (p : Nat → List Nat) (b x : Nat) : Nat → List Nat := fun i => if i = b then p i ++ [x] else p i
theorem divmod {h b x : Nat} (hx : x < h) : (h * b + x) / h = b ∧ (h * b + x) % h = x := by
  have h0 : 0 < h := by omega
  constructor
  · rw [Nat.mul_add_div h0, Nat.div_eq_of_lt hx, Nat.add_zero]
  · rw [Nat.mul_add_mod, Nat.mod_eq_of_lt hx]
theorem div_back {h r : Nat} : h * (r / h) + r % h = r := Nat.div_add_mod r h
theorem cc_row {h : Nat} {vss vss' : List (List Nat)} {p : Nat → List Nat} {b x : Nat} (hb : b < 2) (hx : x < h) (hp : x ∉ p b) (k : CC h vss p)
    (f : ∀ r' c', (HA vss' r' c' ↔ if r' = h * b + x ∧ c' + 1 = h then ¬ HA vss r' c' else HA vss r' c') ∧ (VA vss' r' c' ↔ VA vss r' c')) : CC h vss' (put1 p b x) := by
  have dm := divmod (b := b) hx
  refine ⟨fun r c hr hc => ?_, fun r c hr hc => ?_⟩
  · rw [(f r c).1]
    have k1 := k.1 r c hr hc
    unfold put1
    by_cases z : r = h * b + x ∧ c + 1 = h
    · rw [if_pos z, k1]
      obtain ⟨rfl, z2⟩ := z
      rw [dm.1, dm.2, if_pos rfl]
      simp [z2, hp]
    · rw [if_neg z, k1]
      by_cases z2 : c + 1 = h
      · have z3 : r ≠ h * b + x := fun q => z ⟨q, z2⟩
        by_cases z4 : r / h = b
        · rw [if_pos z4]
          have : r % h ≠ x := fun q => z3 (by rw [← q, ← z4]; exact div_back.symm)
          simp [z2, this]
        · rw [if_neg z4]
      · simp [z2]
  · rw [(f r c).2, k.2 r c hr hc]
    unfold put1
    rw [if_neg (by generalize c / h = q; omega)]
theorem cc_col {h : Nat} {vss vss' : List (List Nat)} {p : Nat → List Nat} {b x : Nat} (hx : x < h) (hp : x ∉ p (2 + b)) (k : CC h vss p)
    (f : ∀ r' c', (HA vss' r' c' ↔ HA vss r' c') ∧ (VA vss' r' c' ↔ if r' + 1 = h ∧ c' = h * b + x then ¬ VA vss r' c' else VA vss r' c')) : CC h vss' (put1 p (2 + b) x) := by
  have dm := divmod (b := b) hx
  refine ⟨fun r c hr hc => ?_, fun r c hr hc => ?_⟩
  · rw [(f r c).1, k.1 r c hr hc]
    unfold put1
    have : r / h < 2 := Nat.div_lt_of_lt_mul (by rw [Nat.mul_comm]; exact hr)
    rw [if_neg (by omega)]
  · rw [(f r c).2]
    have k1 := k.2 r c hr hc
    unfold put1
    by_cases z : r + 1 = h ∧ c = h * b + x
    · rw [if_pos z, k1]
      obtain ⟨z2, rfl⟩ := z
      rw [dm.1, dm.2, if_pos rfl]
      simp [z2, hp]
    · rw [if_neg z, k1]
      by_cases z2 : r + 1 = h
      · have z3 : c ≠ h * b + x := fun q => z ⟨z2, q⟩
        by_cases z4 : c / h = b
        · rw [if_pos (by rw [z4])]
          have : c % h ≠ x := fun q => z3 (by rw [← q, ← z4]; exact div_back.symm)
          simp [z2, this]
        · rw [if_neg (by omega)]
      · simp [z2]
end S

namespace S
open PySem L2
/-! ### dicts of places -/
def dcT (ps : List Nat) : T := .dct (ps.map fun x : Nat => (.inl (x : Int), .d (.bool true)))
def dcD (ps : List Nat) : PyData := .dict (ps.map fun x : Nat => (.int (x : Int), .bool true))
theorem dcT_data {ps : List Nat} : (dcT ps).data = dcD ps := by
  unfold dcT dcD
  rw [data_dct]
  congr 1
  induction ps with
  | nil => simp
  | cons a l ih => simp [ih]
theorem kvs_dc {ps : List Nat} : kvsOf (ps.map fun x : Nat => (PyData.int (x : Int), PyData.bool true)) = some (ps.map fun x : Nat => ((.inl (x : Int) : Key), PyData.bool true)) := by
  induction ps with
  | nil => rfl
  | cons a l ih => simp [kvsOf, ih]
theorem dictD_dc {ps : List Nat} : dictD (dcD ps) = some (.k (ps.map fun x : Nat => ((.inl (x : Int) : Key), PyData.bool true))) := by
  unfold dcD dictD
  cases ps with
  | nil => rfl
  | cons a l =>
    have := kvs_dc (ps := a :: l)
    simp only [List.map_cons] at this ⊢
    rw [this]
    rfl
theorem valG_dc {ps : List Nat} {x : Nat} : valG (ps.map fun x : Nat => ((.inl (x : Int) : Key), PyData.bool true)) (.inl (x : Int)) = if x ∈ ps then some (.bool true) else none := by
  induction ps with
  | nil => rfl
  | cons a l ih =>
    rw [List.map_cons, valG_cons, ih]
    by_cases h : a = x
    · subst h; simp
    · have h1 : ¬ ((Sum.inl (a : Int) : Key) = .inl (x : Int)) := fun q => h (by have := Sum.inl.inj q; omega)
      rw [if_neg h1]
      have h2 : ¬ x = a := fun q => h q.symm
      simp [h2]
theorem dcIn {ps : List Nat} {x : Nat} : gDIn true (.int (x : Int)) (dcD ps) = some (.bool (!decide (x ∈ ps))) := by
  unfold gDIn dGet
  rw [dictD_dc]
  simp only [keyOfD_i, Option.map_some, valG_dc]
  by_cases h : x ∈ ps <;> simp [h]
theorem dcPut {ps : List Nat} {x : Nat} (h : x ∉ ps) : putG (ps.map fun x : Nat => ((.inl (x : Int) : Key), T.d (.bool true))) (.inl (x : Int)) (.d (.bool true)) = (ps ++ [x]).map fun x : Nat => ((.inl (x : Int) : Key), T.d (.bool true)) := by
  unfold putG
  rw [if_neg]
  · simp
  · simp only [List.any_map, List.any_eq_true, Function.comp, decide_eq_true_eq, not_exists, not_and]
    intro y hy q
    have := Sum.inl.inj q
    exact h (by rw [show x = y by omega]; exact hy)
theorem sort_dc {ps : List Nat} (hl : ps.length < 64) : gSortDI [dcD ps] = some (.list ((sortI (ps.map fun x : Nat => (x : Int))).map .int)) := by
  unfold gSortDI
  simp only [dictD_dc, Option.bind_some]
  have : keysI (ps.map fun x : Nat => ((.inl (x : Int) : Key), PyData.bool true)) = some (ps.map fun x : Nat => (x : Int)) := by
    clear hl
    induction ps with
    | nil => rfl
    | cons a l ih => simp [keysI, ih]
  rw [this]
  simp [hl]
/-- sorted: the places one behind the other -/
theorem sort_range {ps : List Nat} {h : Nat} (hn : ps.Nodup) (hx : ∀ x ∈ ps, x < h) : sortI (ps.map fun x : Nat => (x : Int)) = ((List.range h).filter fun x => decide (x ∈ ps)).map fun x : Nat => (x : Int) := by
  symm
  refine sortI_only ?_ ?_
  · refine List.Perm.map _ ?_
    refine (List.perm_ext_iff_of_nodup (List.Nodup.sublist List.filter_sublist List.nodup_range) hn).mpr fun a => ?_
    simp only [List.mem_filter, List.mem_range, decide_eq_true_eq]
    exact ⟨fun q => q.2, fun q => ⟨hx a q, q⟩⟩
  · rw [List.pairwise_map]
    refine List.Pairwise.sublist List.filter_sublist ?_
    refine (List.pairwise_lt_range (n := h)).imp fun {a b} q => by omega
/-! ### one more place that clashes -/
def clT (p : Nat → List Nat) : T := .lst [dcT (p 0), dcT (p 1), dcT (p 2), dcT (p 3)]
theorem clT_data {p : Nat → List Nat} : (clT p).data = .list [dcD (p 0), dcD (p 1), dcD (p 2), dcD (p 3)] := by
  unfold clT
  simp [dcT_data]
theorem clT_put {p : Nat → List Nat} {b x : Nat} (hb : b < 4) : clT (put1 p b x) = .lst ([dcT (p 0), dcT (p 1), dcT (p 2), dcT (p 3)].set b (dcT (p b ++ [x]))) := by
  have : b = 0 ∨ b = 1 ∨ b = 2 ∨ b = 3 := by omega
  rcases this with rfl | rfl | rfl | rfl <;> rfl
theorem cl_at {p : Nat → List Nat} {b : Nat} (hb : b < 4) : gIxL (.list [dcD (p 0), dcD (p 1), dcD (p 2), dcD (p 3)]) (.int (b : Int)) = some (dcD (p b)) := by
  have : b = 0 ∨ b = 1 ∨ b = 2 ∨ b = 3 := by omega
  rcases this with rfl | rfl | rfl | rfl <;> rfl
def okP (h k : Nat) (p : Nat → List Nat) : Prop := ∀ b, b < 4 → (p b).length ≤ k ∧ (p b).Nodup ∧ ∀ x ∈ p b, x < h
theorem okP_put {h k : Nat} {p : Nat → List Nat} {b x : Nat} (o : okP h k p) (hx : x < h) (hp : x ∉ p b) : okP h (k + 1) (put1 p b x) := fun i hi => by
  obtain ⟨o1, o2, o3⟩ := o i hi
  unfold put1
  by_cases z : i = b
  · subst z
    rw [if_pos rfl]
    refine ⟨by rw [List.length_append]; simpa using o1, ?_, fun y hy => ?_⟩
    · rw [List.nodup_append]
      refine ⟨o2, by simp, fun a ha b hb q => ?_⟩
      rw [List.mem_singleton] at hb
      subst hb
      subst q
      exact hp ha
    · rcases List.mem_append.mp hy with hy | hy
      · exact o3 y hy
      · rw [List.mem_singleton] at hy; omega
  · rw [if_neg z]
    exact ⟨by omega, o2, o3⟩
@[simp] theorem sPar3_eq {i j l : Nat} {ms : MA} {s : Sg} : sPar3 i j l ms s = (ms s).bind fun us s => (match tmsOnly us with
  | some [x, y, z] => if i < s.length ∧ j < s.length ∧ l < s.length then .ok .nx (((s.set i (some x)).set j (some y)).set l (some z)) else .bad
  | _ => .bad) := rfl
theorem put_cl {a0 a1 a2 a4 a7 a8 : Option T} {p : Nat → List Nat} {b x : Nat} (hb : b < 4) (hx : x ∉ p b) (hl : (p b).length < 16777216) :
    putKy (pIx (pVar 3) (fVar 5)) (fVar 6) (.d (.bool true)) [a0, a1, a2, some (clT p), a4, some (.d (.int (b : Int))), some (.d (.int (x : Int))), a7, a8] = some [a0, a1, a2, some (clT (put1 p b x)), a4, some (.d (.int (b : Int))), some (.d (.int (x : Int))), a7, a8] := by
  have hlen : (List.map (fun x : Nat => ((.inl (x : Int) : Key), T.d (.bool true))) (p b)).length < 16777216 := by simpa using hl
  have hp := dcPut hx
  have : b = 0 ∨ b = 1 ∨ b = 2 ∨ b = 3 := by omega
  rw [clT_put hb]
  unfold clT dcT
  rcases this with rfl | rfl | rfl | rfl <;> simp [putKy, pIx, ixN, T.get, T.put, hlen, hl, hp]
end S

namespace S
open PySem L2
/-! ### the places that are spoilt -/
theorem ite_cond {P Q a b : Prop} [Decidable P] [Decidable Q] (h : P ↔ Q) : (if P then a else b) ↔ (if Q then a else b) := by
  by_cases p : P
  · rw [if_pos p, if_pos (h.mp p)]
  · rw [if_neg p, if_neg fun q => p (h.mpr q)]
def rwT (t : T) (vss : List (List Nat)) : Prop := t = .d (rowsD vss) ∨ t = rowsT vss
theorem rwT_data {t : T} {vss : List (List Nat)} (h : rwT t vss) : t.data = rowsD vss := by
  rcases h with rfl | rfl
  · simp
  · exact rowsT_data
theorem two_at {γ : Type} {a b : γ} {s : Nat} (h : s < 2) : atI [a, b] (s : Int) = some (if s = 0 then a else b) := by
  have : s = 0 ∨ s = 1 := by omega
  rcases this with rfl | rfl <;> rfl
theorem turn_sp {t st : T} {vss : List (List Nat)} {h k c : Nat} {p : Nat → List Nat} {g5 g6 g7 : Option T} (hsq : sqV vss) (hl : vss.length = 2 * h) (h2 : 2 ≤ h) (h6 : h ≤ 6) (hcc : CC h vss p) (ho : okP h k p) (hk : k < 4) (hst : St c st) (hc : c < 60000) (ht : rwT t vss) :
    ∃ vss' p' st' t', ∃ g5' g6' g7' : Option T, m__law_spoilt_L1 [some t, some st, some (.d (.int (h : Nat))), some (clT p), some (.d (.int (k : Nat))), g5, g6, g7, none] = .ok .nx [some t', some st', some (.d (.int (h : Nat))), some (clT p'), some (.d (.int (k : Nat))), g5', g6', g7', none] ∧
      sqV vss' ∧ vss'.length = 2 * h ∧ CC h vss' p' ∧ okP h (k + 1) p' ∧ St (c + 3) st' ∧ rwT t' vss' := by
  obtain ⟨v1, t1, e1, a1, b1, s1⟩ := take_spec (n := 4) hst (by omega) (by omega) (by omega)
  obtain ⟨v2, t2, e2, a2, b2, s2⟩ := take_spec (n := (h : Nat)) s1 (by omega) (by omega) (by omega)
  obtain ⟨v3, t3, e3, a3, b3, s3⟩ := take_spec (n := 2) s2 (by omega) (by omega) (by omega)
  obtain ⟨b, rfl⟩ : ∃ b : Nat, v1 = (b : Nat) := ⟨v1.toNat, by omega⟩
  obtain ⟨x, rfl⟩ : ∃ x : Nat, v2 = (x : Nat) := ⟨v2.toNat, by omega⟩
  obtain ⟨s, rfl⟩ : ∃ s : Nat, v3 = (s : Nat) := ⟨v3.toNat, by omega⟩
  have hb : b < 4 := by omega
  have hx : x < h := by omega
  have hs : s < 2 := by omega
  have ncl : (clT p).isD = false := rfl
  by_cases hp : x ∈ p b
  · refine ⟨vss, p, t3, t, some (.d (.int (b : Nat))), some (.d (.int (x : Nat))), some (.d (.int (s : Nat))), ?_, hsq, hl, hcc, fun i hi => ⟨by have := (ho i hi).1; omega, (ho i hi).2⟩, s3, ht⟩
    unfold m__law_spoilt_L1
    simp (disch := omega) [hst.nd, s1.nd, s2.nd, s3.nd, e1, e2, e3, clT_data, cl_at hb, dcIn, hp, -gIxL_eq]
  · have hlp : (p b).length < 16777216 := by have := (ho b hb).1; omega
    have hput := put_cl (a0 := some t) (a1 := some t3) (a2 := some (.d (.int (h : Nat)))) (a4 := some (.d (.int (k : Nat)))) (a7 := some (.d (.int (s : Nat)))) (a8 := none) hb hp hlp
    by_cases q : b < 2
    · have hr : h * b + x < vss.length := by
        rw [hl]
        have : b = 0 ∨ b = 1 := by omega
        rcases this with rfl | rfl <;> omega
      have hcc' : h - 1 + s < vss.length := by omega
      have et := turned_spec (r := h * b + x) (c := h - 1 + s) (b := if s = 0 then 2 else 8) hsq ht hr hcc' (by split <;> omega)
      rw [show ((h * b + x : Nat) : Int) = (h : Int) * b + x by simp, show ((h - 1 + s : Nat) : Int) = (h : Int) - 1 + s by omega] at et
      refine ⟨setC vss (h * b + x) (h - 1 + s) (cV vss (h * b + x) (h - 1 + s) ^^^ if s = 0 then 2 else 8), put1 p b x, t3, rowsT (setC vss (h * b + x) (h - 1 + s) (cV vss (h * b + x) (h - 1 + s) ^^^ if s = 0 then 2 else 8)), some (.d (.int (b : Nat))), some (.d (.int (x : Nat))), some (.d (.int (s : Nat))), ?_, setC_sq hsq hr (xor_lt ⟨_, cV_lt hsq _ _⟩ ⟨if s = 0 then 2 else 8, by split <;> omega⟩), by rw [setC_len]; exact hl, ?_, okP_put ho hx hp, s3, .inr rfl⟩
      · have q' : (b : Int) < 2 := by omega
        have ix : atI [PyData.int 2, PyData.int 8] (s : Int) = some (.int ((if s = 0 then 2 else 8 : Nat) : Int)) := by
          rw [two_at hs]
          split <;> rfl
        unfold m__law_spoilt_L1
        rcases ht with rfl | rfl
        · simp (disch := omega) [hst.nd, s1.nd, s2.nd, s3.nd, e1, e2, e3, clT_data, cl_at hb, dcIn, hp, hput, q', -gIxL_eq]
          simp (disch := omega) [ix, et]
        · have nrt : (rowsT vss).isD = false := rfl
          simp (disch := omega) [hst.nd, s1.nd, s2.nd, s3.nd, e1, e2, e3, clT_data, cl_at hb, dcIn, hp, hput, q', nrt, -gIxL_eq]
          simp (disch := omega) [ix, et, nrt]
      · refine cc_row q hx hp hcc fun r' c' => ?_
        by_cases hs0 : s = 0
        · subst hs0
          have f := flip_e (r' := r') (c' := c') hsq hr hcc'
          simp only [if_true, Nat.add_zero] at f ⊢
          exact ⟨f.1.trans (ite_cond (by omega)), f.2⟩
        · have : s = 1 := by omega
          subst this
          have f := flip_w (r' := r') (c' := c') hsq hr hcc'
          simp only [Nat.one_ne_zero, if_false] at f ⊢
          exact ⟨f.1.trans (ite_cond (by omega)), f.2⟩
    · obtain ⟨b', rfl⟩ : ∃ b', b = 2 + b' := ⟨b - 2, by omega⟩
      have hr : h * b' + x < vss.length := by
        rw [hl]
        have : b' = 0 ∨ b' = 1 := by omega
        rcases this with rfl | rfl <;> omega
      have hcc' : h - 1 + s < vss.length := by omega
      have et := turned_spec (r := h - 1 + s) (c := h * b' + x) (b := if s = 0 then 4 else 1) hsq ht hcc' hr (by split <;> omega)
      rw [show ((h * b' + x : Nat) : Int) = (h : Int) * (((2 + b' : Nat) : Int) - 2) + x by rw [show (((2 + b' : Nat) : Int) - 2) = b' by omega]; simp, show ((h - 1 + s : Nat) : Int) = (h : Int) - 1 + s by omega] at et
      refine ⟨setC vss (h - 1 + s) (h * b' + x) (cV vss (h - 1 + s) (h * b' + x) ^^^ if s = 0 then 4 else 1), put1 p (2 + b') x, t3, rowsT (setC vss (h - 1 + s) (h * b' + x) (cV vss (h - 1 + s) (h * b' + x) ^^^ if s = 0 then 4 else 1)), some (.d (.int ((2 + b' : Nat) : Int))), some (.d (.int (x : Nat))), some (.d (.int (s : Nat))), ?_, setC_sq hsq hcc' (xor_lt ⟨_, cV_lt hsq _ _⟩ ⟨if s = 0 then 4 else 1, by split <;> omega⟩), by rw [setC_len]; exact hl, ?_, okP_put ho hx hp, s3, .inr rfl⟩
      · have q' : ¬ ((2 + b' : Nat) : Int) < 2 := by omega
        have ix : atI [PyData.int 4, PyData.int 1] (s : Int) = some (.int ((if s = 0 then 4 else 1 : Nat) : Int)) := by
          rw [two_at hs]
          split <;> rfl
        generalize hbb : ((2 + b' : Nat) : Int) = bb at *
        have clb := cl_at (p := p) hb
        rw [hbb] at clb
        unfold m__law_spoilt_L1
        rcases ht with rfl | rfl
        · simp (disch := omega) [hst.nd, s1.nd, s2.nd, s3.nd, e1, e2, e3, clT_data, clb, dcIn, hp, hput, q', -gIxL_eq]
          simp (disch := omega) [ix, et]
        · have nrt : (rowsT vss).isD = false := rfl
          simp (disch := omega) [hst.nd, s1.nd, s2.nd, s3.nd, e1, e2, e3, clT_data, clb, dcIn, hp, hput, q', nrt, -gIxL_eq]
          simp (disch := omega) [ix, et, nrt]
      · refine cc_col hx hp hcc fun r' c' => ?_
        by_cases hs0 : s = 0
        · subst hs0
          have f := flip_s (r' := r') (c' := c') hsq hcc' hr
          simp only [if_true, Nat.add_zero] at f ⊢
          exact ⟨f.1, f.2.trans (ite_cond (by omega))⟩
        · have : s = 1 := by omega
          subst this
          have f := flip_n (r' := r') (c' := c') hsq hcc' hr
          simp only [Nat.one_ne_zero, if_false] at f ⊢
          exact ⟨f.1, f.2.trans (ite_cond (by omega))⟩
end S

namespace S
open PySem L2
def dueL (h : Nat) (ps : List Nat) : List Nat := (List.range h).filter fun x => decide (x ∈ ps)
def dueD' (h : Nat) (ps : List Nat) : PyData := .list ((dueL h ps).map fun x => .int (x : Nat))
def duesD (h : Nat) (p : Nat → List Nat) : PyData := .list [dueD' h (p 0), dueD' h (p 1), dueD' h (p 2), dueD' h (p 3)]
theorem sort_due {h : Nat} {ps : List Nat} (hl : ps.length < 64) (hn : ps.Nodup) (hx : ∀ x ∈ ps, x < h) : gSortDI [dcD ps] = some (dueD' h ps) := by
  rw [sort_dc hl, sort_range hn hx, List.map_map]
  rfl
theorem len_rows {vss : List (List Nat)} : gLen [rowsD vss] = some (.int (vss.length : Nat)) := by
  unfold rowsD
  rw [gLen_l, List.length_map]
theorem cc_start {h : Nat} {vss : List (List Nat)} (hsq : sqV vss) (hl : vss.length = 2 * h) (hti : tiesB vss = true) : CC h vss fun _ => [] := by
  rw [← law_ties hsq, law_iff] at hti
  refine ⟨fun r c hr hc => ?_, fun r c hr hc => ?_⟩
  · have := (hti r (by omega) c (by omega)).1 (by omega)
    unfold HA
    simpa using this
  · have := (hti r (by omega) c (by omega)).2 (by omega)
    unfold VA
    simpa using this
theorem spoilt_spec {st : T} {vss : List (List Nat)} {h c : Nat} (hsq : sqV vss) (hti : tiesB vss = true) (hl : vss.length = 2 * h) (h2 : 2 ≤ h) (h6 : h ≤ 6) (hst : St c st) (hc : c < 50000) :
    ∃ vss' p st', m__law_spoilt [.d (rowsD vss), st] = .ok (.d (.tuple [rowsD vss', duesD h p])) [some (.d (rowsD vss)), some st'] ∧ sqV vss' ∧ vss'.length = 2 * h ∧ CC h vss' p ∧ okP h 4 p ∧ St (c + 20) st' := by
  obtain ⟨v, t1, e1, a1, b1, s1⟩ := take_spec (n := 4) hst (by omega) (by omega) (by omega)
  obtain ⟨n, rfl⟩ : ∃ n : Nat, v = (n : Nat) := ⟨v.toNat, by omega⟩
  obtain ⟨s', e, I⟩ := forL_inv (a := gN 4) (b := m__law_spoilt_L1) (ds := rangeD 0 (n : Nat)) (s := [some (.d (rowsD vss)), some t1, some (.d (.int (h : Nat))), some (clT fun _ => []), none, none, none, none, none])
    (fun i s => ∃ vss' p st' t', ∃ g4 g5 g6 g7 : Option T, s = [some t', some st', some (.d (.int (h : Nat))), some (clT p), g4, g5, g6, g7, none] ∧ sqV vss' ∧ vss'.length = 2 * h ∧ CC h vss' p ∧ okP h i p ∧ St (c + 1 + 3 * i) st' ∧ rwT t' vss')
    ⟨vss, fun _ => [], t1, .d (rowsD vss), none, none, none, none, rfl, hsq, hl, cc_start hsq hl hti, fun b _ => ⟨by simp, by simp, by simp⟩, s1, .inl rfl⟩ (by
      rintro i hi s ⟨vss', p, st', t', g4, g5, g6, g7, rfl, k1, k2, k3, k4, k5, k6⟩
      rw [range_len] at hi
      obtain ⟨vss2, p2, st2, t2, g5', g6', g7', e2, j1, j2, j3, j4, j5, j6⟩ := turn_sp (k := i) (g5 := g5) (g6 := g6) (g7 := g7) k1 k2 h2 h6 k3 k4 (by omega) k5 (by omega) k6
      exact ⟨_, _, by simp [range_get], e2, vss2, p2, st2, t2, _, g5', g6', g7', rfl, j1, j2, j3, j4, j5.mono (by omega), j6⟩)
  rw [range_len] at I
  obtain ⟨vss', p, st', t', g4, g5, g6, g7, rfl, k1, k2, k3, k4, k5, k6⟩ := I
  refine ⟨vss', p, st', ?_, k1, k2, k3, fun b hb => ⟨by have := (k4 b hb).1; omega, (k4 b hb).2⟩, k5.mono (by omega)⟩
  have hlen : gLen [rowsD vss] = some (.int ((2 * h : Nat) : Int)) := by rw [len_rows, hl]
  have hdiv : ((2 * h : Nat) : Int) / 2 = (h : Nat) := by omega
  have hd := rwT_data k6
  have so : ∀ b, b < 4 → gSortDI [dcD (p b)] = some (dueD' h (p b)) := fun b hb => sort_due (by have := (k4 b hb).1; omega) (k4 b hb).2.1 (k4 b hb).2.2
  have q0 := so 0 (by omega)
  have q1 := so 1 (by omega)
  have q2 := so 2 (by omega)
  have q3 := so 3 (by omega)
  have ecl : clT (fun _ => []) = .lst [.dct [], .dct [], .dct [], .dct []] := rfl
  rw [ecl] at e
  unfold m__law_spoilt
  simp (disch := omega) [hst.nd, s1.nd, e1, hlen, e, hd, clT_data, lcL, q0, q1, q2, q3, duesD]
/-! ### a quarter -/
def quartV (h d a : Nat) (vss : List (List Nat)) : List (List Nat) := ((vss.drop (h * d)).take h).map fun vs => (vs.drop (h * a)).take h
theorem quart_spec {vss : List (List Nat)} {h d a : Nat} (hsq : sqV vss) (hl : vss.length = 2 * h) (h2 : 2 ≤ h) (h6 : h ≤ 6) (hd : d < 2) (ha : a < 2) :
    m__law_quarter [.d (rowsD vss), .d (.int (d : Nat)), .d (.int (a : Nat))] = .ok (rowsT (quartV h d a vss)) [some (.d (rowsD vss)), some (.d (.int (d : Nat))), some (.d (.int (a : Nat)))] := by
  have hhd : h * d + h ≤ 2 * h := by
    have : d = 0 ∨ d = 1 := by omega
    rcases this with rfl | rfl <;> omega
  have hha : h * a + h ≤ 2 * h := by
    have : a = 0 ∨ a = 1 := by omega
    rcases this with rfl | rfl <;> omega
  have hlen : gLen [rowsD vss] = some (.int ((2 * h : Nat) : Int)) := by rw [len_rows, hl]
  have c1 : cutD (vss.map fun vs => .str (rowS vs)) (some ((h : Int) * d)) (some ((h : Int) * d + h)) = ((vss.drop (h * d)).take h).map fun vs => .str (rowS vs) := by
    have := cutD_mid (l := vss.map fun vs => PyData.str (rowS vs)) (k := h * d) (m := h) (by rw [List.length_map]; omega)
    rw [show ((h * d : Nat) : Int) = (h : Int) * d by simp, show ((h * d + h : Nat) : Int) = (h : Int) * d + h by simp] at this
    rw [this, ← List.map_drop, ← List.map_take]
  have hsub : ∀ vs ∈ (vss.drop (h * d)).take h, vs.length = 2 * h := fun vs hv => by
    rw [← hl]
    exact (hsq.2.2 vs (List.mem_of_mem_drop (List.mem_of_mem_take hv))).1
  have hls : ((vss.drop (h * d)).take h).length ≤ 12 := by rw [List.length_take]; omega
  unfold quartV
  generalize (vss.drop (h * d)).take h = us at c1 hsub hls ⊢
  have hlc : lcL [4] (gN 4) (bP cYes) m__law_quarter_E1 (us.map fun vs => .str (rowS vs)) [] [some (.d (rowsD vss)), some (.d (.int (d : Nat))), some (.d (.int (a : Nat))), some (.d (.int (h : Nat))), none] = .ok ([] ++ (us.map fun vs => PyData.str (rowS vs)).map fun x => match x with | .str z => .d (.str (mkS ((z.cps.toList.drop (h * a)).take h))) | _ => .d .none) [some (.d (rowsD vss)), some (.d (.int (d : Nat))), some (.d (.int (a : Nat))), some (.d (.int (h : Nat))), none] := by
    refine lcL_map (by simp) (fun x hx => ?_) (by simp; omega)
    obtain ⟨vs, hv, rfl⟩ := List.mem_map.mp hx
    have hvl := hsub vs hv
    refine ⟨[some (.d (rowsD vss)), some (.d (.int (d : Nat))), some (.d (.int (a : Nat))), some (.d (.int (h : Nat))), some (.d (.str (rowS vs)))], [some (.d (rowsD vss)), some (.d (.int (d : Nat))), some (.d (.int (a : Nat))), some (.d (.int (h : Nat))), some (.d (.str (rowS vs)))], by simp, by simp, ?_, by simp⟩
    have hll : (rowS vs).cps.toList.length ≤ 10000 := by rw [rowS_cps, List.length_map]; omega
    have hsz : (rowS vs).cps.size ≤ 10000 := by simpa using hll
    have c2 : cutN ((rowS vs).cps.toList) (some ((h : Int) * a)) (some ((h : Int) * a + h)) = ((rowS vs).cps.toList.drop (h * a)).take h := by
      have := cutN_mid (l := (rowS vs).cps.toList) (k := h * a) (m := h) (by rw [rowS_cps, List.length_map]; omega)
      rwa [show ((h * a : Nat) : Int) = (h : Int) * a by simp, show ((h * a + h : Nat) : Int) = (h : Int) * a + h by simp] at this
    unfold m__law_quarter_E1
    simp (disch := omega) [hsz, c2]
  have fin : (us.map fun vs => PyData.str (rowS vs)).map (fun x => match x with | .str z => T.d (.str (mkS ((z.cps.toList.drop (h * a)).take h))) | _ => .d .none) = (us.map fun vs => (vs.drop (h * a)).take h).map rowT := by
    rw [List.map_map, List.map_map]
    refine List.map_congr_left fun vs _ => ?_
    show T.d (.str (mkS (((rowS vs).cps.toList.drop (h * a)).take h))) = rowT _
    rw [rowS_cps, ← List.map_drop, ← List.map_take]
    rfl
  rw [List.nil_append, fin] at hlc
  have hdiv : ((2 * h : Nat) : Int) / 2 = (h : Nat) := by omega
  have himm : isImmL (us.map fun vs => PyData.str (rowS vs)) = true := immL_strs
  unfold m__law_quarter rowsT
  unfold rowsD at hlen hlc ⊢
  have hdl : T.dataL (List.map (fun vs => T.d (.str (rowS vs))) us) = us.map fun vs => .str (rowS vs) := dataL_mapd
  simp (disch := omega) [hlen, c1, hlc, Function.comp_def, dataL_mapd]
end S

namespace S
open PySem L2
/-! ### the four quarters -/
section
variable {vss : List (List Nat)} {h d a : Nat}
theorem quart_len (hl : vss.length = 2 * h) (hd : d < 2) : (quartV h d a vss).length = h := by
  have : d = 0 ∨ d = 1 := by omega
  unfold quartV
  rw [List.length_map, List.length_take, List.length_drop]
  rcases this with rfl | rfl <;> omega
theorem quart_row {r : Nat} (hl : vss.length = 2 * h) (hd : d < 2) (hr : r < h) : (quartV h d a vss).getD r [] = ((vss.getD (h * d + r) []).drop (h * a)).take h := by
  have hlt : h * d + r < vss.length := by
    have : d = 0 ∨ d = 1 := by omega
    rcases this with rfl | rfl <;> omega
  unfold quartV
  rw [getD_at (by have := quart_len (a := a) hl hd; unfold quartV at this; omega), getD_at hlt]
  simp
theorem quart_cell {r c : Nat} (hsq : sqV vss) (hl : vss.length = 2 * h) (hd : d < 2) (ha : a < 2) (hr : r < h) (hc : c < h) : cV (quartV h d a vss) r c = cV vss (h * d + r) (h * a + c) := by
  have hlt : h * d + r < vss.length := by
    have : d = 0 ∨ d = 1 := by omega
    rcases this with rfl | rfl <;> omega
  have hla : h * a + c < vss.length := by
    have : a = 0 ∨ a = 1 := by omega
    rcases this with rfl | rfl <;> omega
  have hrl := row_len hsq hlt
  unfold cV
  rw [quart_row hl hd hr]
  generalize vss.getD (h * d + r) [] = vs at *
  rw [getD_at (by rw [List.length_take, List.length_drop]; omega), getD_at (by omega)]
  simp
theorem quart_sq (hsq : sqV vss) (hl : vss.length = 2 * h) (h2 : 2 ≤ h) (h6 : h ≤ 6) (hd : d < 2) (ha : a < 2) : sqV (quartV h d a vss) := by
  have hq := quart_len (a := a) hl hd
  refine ⟨by omega, by omega, fun vs hv => ?_⟩
  rw [hq]
  unfold quartV at hv
  obtain ⟨us, hu, rfl⟩ := List.mem_map.mp hv
  obtain ⟨k1, k2⟩ := hsq.2.2 us (List.mem_of_mem_drop (List.mem_of_mem_take hu))
  refine ⟨?_, fun v hv => k2 v (List.mem_of_mem_drop (List.mem_of_mem_take hv))⟩
  rw [List.length_take, List.length_drop]
  have : a = 0 ∨ a = 1 := by omega
  rcases this with rfl | rfl <;> omega
theorem quart_ties {p : Nat → List Nat} (hsq : sqV vss) (hl : vss.length = 2 * h) (h2 : 2 ≤ h) (h6 : h ≤ 6) (hd : d < 2) (ha : a < 2) (k : CC h vss p) : tiesB (quartV h d a vss) = true := by
  rw [← law_ties (quart_sq hsq hl h2 h6 hd ha), law_iff, quart_len hl hd]
  have hd' : h * d = 0 ∨ h * d = h := by
    have : d = 0 ∨ d = 1 := by omega
    rcases this with rfl | rfl <;> omega
  have ha' : h * a = 0 ∨ h * a = h := by
    have : a = 0 ∨ a = 1 := by omega
    rcases this with rfl | rfl <;> omega
  intro r hr c hc
  refine ⟨fun q => ?_, fun q => ?_⟩
  · rw [quart_cell hsq hl hd ha hr hc, quart_cell hsq hl hd ha hr q]
    have := (k.1 (h * d + r) (h * a + c) (by omega) (by omega)).mpr (by omega)
    unfold HA at this
    rwa [Nat.add_assoc] at this
  · rw [quart_cell hsq hl hd ha hr hc, quart_cell hsq hl hd ha q hc]
    have := (k.2 (h * d + r) (h * a + c) (by omega) (by omega)).mpr (by omega)
    unfold VA at this
    rwa [Nat.add_assoc] at this
end
/-! ### what clashes between two quarters -/
theorem tb_eq {v : Nat} : v.testBit 1 = decide (v / 2 % 2 = 1) ∧ v.testBit 3 = decide (v / 8 % 2 = 1) ∧ v.testBit 2 = decide (v / 4 % 2 = 1) ∧ v.testBit 0 = decide (v % 2 = 1) := by
  simp [Nat.testBit_eq_decide_div_mod_eq]
theorem along_e_at {us : List (List Nat)} {i : Nat} (hsq : sqV us) (hi : i < us.length) : (alongE us).getD i 0 = cV us i (us.length - 1) := by
  unfold alongE cV
  have := row_len hsq hi
  rw [getD_at hi] at this
  rw [getD_at (by rw [List.length_map]; exact hi), List.getElem_map, getD_at hi, this]
theorem along_w_at {us : List (List Nat)} {i : Nat} (hi : i < us.length) : (alongW us).getD i 0 = cV us i 0 := by
  unfold alongW cV
  rw [getD_at (by rw [List.length_map]; exact hi), List.getElem_map, getD_at hi]
theorem along_s_at {us : List (List Nat)} {i : Nat} : (alongS us).getD i 0 = cV us (us.length - 1) i := rfl
theorem along_n_at {us : List (List Nat)} {i : Nat} : (alongN us).getD i 0 = cV us 0 i := rfl
theorem diffs_due {bs cs : List Bool} {h : Nat} {ps : List Nat} (h1 : bs.length = h) (h2 : cs.length = h) (k : ∀ i, i < h → (bs.getD i false = cs.getD i false ↔ i ∉ ps)) : diffs bs cs = dueL h ps := by
  unfold diffs dueL
  rw [h1, h2, Nat.min_self]
  refine List.filter_congr fun i hi => ?_
  rw [List.mem_range] at hi
  have := k i hi
  by_cases q : i ∈ ps
  · have n : ¬ bs.getD i false = cs.getD i false := fun z => this.mp z q
    simp only [bne_iff_ne, ne_eq, n, not_false_eq_true, q, decide_true]
  · have n := this.mpr q
    simp only [n, bne_self_eq_false, q, decide_false]
theorem getD_map {f : Nat → Bool} {l : List Nat} {i : Nat} (hi : i < l.length) : (l.map f).getD i false = f (l.getD i 0) := by
  rw [getD_at (by rw [List.length_map]; exact hi), List.getElem_map, getD_at hi]
theorem dec_eq {x y : Nat} (hx : x < 2) (hy : y < 2) : (decide (x = 1) = decide (y = 1)) ↔ x = y := by
  rw [decide_eq_decide]
  omega
section
variable {A : Adr} {vss : List (List Nat)} {h : Nat} {p : Nat → List Nat}
theorem clash_rows {d : Nat} (hsq : sqV vss) (hl : vss.length = 2 * h) (h2 : 2 ≤ h) (h6 : h ≤ 6) (hd : d < 2) (k : CC h vss p) :
    m_Ties_clash A [.d (tieD A (quartV h d 0 vss)), .d (tieD A (quartV h d 1 vss)), .d (.str "e")] = .ok (intsT (dueL h (p d))) [some (.d (tieD A (quartV h d 0 vss))), some (.d (tieD A (quartV h d 1 vss))), some (.d (.str "e"))] ∧
    m_Ties_clash A [.d (tieD A (quartV h d 1 vss)), .d (tieD A (quartV h d 0 vss)), .d (.str "w")] = .ok (intsT (dueL h (p d))) [some (.d (tieD A (quartV h d 1 vss))), some (.d (tieD A (quartV h d 0 vss))), some (.d (.str "w"))] := by
  have q0 := quart_sq hsq hl h2 h6 hd (show 0 < 2 by omega)
  have q1 := quart_sq hsq hl h2 h6 hd (show 1 < 2 by omega)
  have l0 := quart_len (a := 0) hl hd
  have l1 := quart_len (a := 1) hl hd
  have ha := along_ok q0
  have hb := along_ok q1
  have e0 := edge_e (A := A) q0
  have e1 := edge_w (A := A) q1
  rw [edge_bS] at e0 e1
  have n0 : ((alongE (quartV h d 0 vss)).map fun v => v.testBit 1).length = h := by rw [List.length_map, ha.2.2.2.2.2.2.2, l0]
  have n1 : ((alongW (quartV h d 1 vss)).map fun v => v.testBit 3).length = h := by rw [List.length_map, hb.2.2.2.2.2.2.1, l1]
  have key : ∀ i, i < h → (((alongE (quartV h d 0 vss)).map fun v => v.testBit 1).getD i false = ((alongW (quartV h d 1 vss)).map fun v => v.testBit 3).getD i false ↔ i ∉ p d) := fun i hi => by
    rw [List.length_map] at n0 n1
    rw [getD_map (by omega), getD_map (by omega), along_e_at q0 (by omega), along_w_at (by omega), l0, quart_cell hsq hl hd (by omega) hi (by omega), quart_cell hsq hl hd (by omega) hi (by omega), tb_eq.1, tb_eq.2.1]
    have c1 := cV_lt hsq (h * d + i) (h * 1 + 0)
    rw [dec_eq (by omega) (by omega)]
    have hlt : h * d + i < 2 * h := by
      have : d = 0 ∨ d = 1 := by omega
      rcases this with rfl | rfl <;> omega
    have := k.1 (h * d + i) (h - 1) hlt (by omega)
    have dm := divmod (h := h) (b := d) hi
    rw [dm.1, dm.2] at this
    unfold HA at this
    rw [show h - 1 + 1 = h by omega] at this
    simp only [true_and] at this
    rw [Nat.mul_zero, Nat.zero_add, Nat.mul_one, Nat.add_zero, ← this]
    rw [Nat.mul_one, Nat.add_zero] at c1
    omega
  constructor
  · have := clash_of (A := A) (by omega) (by omega) e0 e1 against_e
    rwa [diffs_due n0 n1 key] at this
  · have := clash_of (A := A) (by omega) (by omega) e1 e0 against_w
    rwa [diffs_due n1 n0 fun i hi => by rw [← key i hi]; exact eq_comm] at this
theorem clash_cols {a : Nat} (hsq : sqV vss) (hl : vss.length = 2 * h) (h2 : 2 ≤ h) (h6 : h ≤ 6) (ha : a < 2) (k : CC h vss p) :
    m_Ties_clash A [.d (tieD A (quartV h 0 a vss)), .d (tieD A (quartV h 1 a vss)), .d (.str "s")] = .ok (intsT (dueL h (p (2 + a)))) [some (.d (tieD A (quartV h 0 a vss))), some (.d (tieD A (quartV h 1 a vss))), some (.d (.str "s"))] ∧
    m_Ties_clash A [.d (tieD A (quartV h 1 a vss)), .d (tieD A (quartV h 0 a vss)), .d (.str "n")] = .ok (intsT (dueL h (p (2 + a)))) [some (.d (tieD A (quartV h 1 a vss))), some (.d (tieD A (quartV h 0 a vss))), some (.d (.str "n"))] := by
  have q0 := quart_sq hsq hl h2 h6 (show 0 < 2 by omega) ha
  have q1 := quart_sq hsq hl h2 h6 (show 1 < 2 by omega) ha
  have l0 := quart_len (a := a) hl (show 0 < 2 by omega)
  have l1 := quart_len (a := a) hl (show 1 < 2 by omega)
  have ka := along_ok q0
  have kb := along_ok q1
  have e0 := edge_s (A := A) q0
  have e1 := edge_n (A := A) q1
  rw [edge_bS] at e0 e1
  have n0 : ((alongS (quartV h 0 a vss)).map fun v => v.testBit 2).length = h := by rw [List.length_map, ka.2.2.2.2.2.1, l0]
  have n1 : ((alongN (quartV h 1 a vss)).map fun v => v.testBit 0).length = h := by rw [List.length_map, kb.2.2.2.2.1, l1]
  have key : ∀ i, i < h → (((alongS (quartV h 0 a vss)).map fun v => v.testBit 2).getD i false = ((alongN (quartV h 1 a vss)).map fun v => v.testBit 0).getD i false ↔ i ∉ p (2 + a)) := fun i hi => by
    rw [List.length_map] at n0 n1
    rw [getD_map (by omega), getD_map (by omega), along_s_at, along_n_at, l0, quart_cell hsq hl (by omega) ha (by omega) hi, quart_cell hsq hl (by omega) ha (by omega) hi, tb_eq.2.2.1, tb_eq.2.2.2]
    rw [dec_eq (by omega) (by omega)]
    have hlt : h * a + i < 2 * h := by
      have : a = 0 ∨ a = 1 := by omega
      rcases this with rfl | rfl <;> omega
    have := k.2 (h - 1) (h * a + i) (by omega) hlt
    have dm := divmod (h := h) (b := a) hi
    rw [dm.1, dm.2] at this
    unfold VA at this
    rw [show h - 1 + 1 = h by omega] at this
    simp only [true_and] at this
    rw [Nat.mul_zero, Nat.zero_add, Nat.mul_one, Nat.add_zero, ← this]
  constructor
  · have := clash_of (A := A) (by omega) (by omega) e0 e1 against_s
    rwa [diffs_due n0 n1 key] at this
  · have := clash_of (A := A) (by omega) (by omega) e1 e0 against_n
    rwa [diffs_due n1 n0 fun i hi => by rw [← key i hi]; exact eq_comm] at this
end
end S

namespace S
open PySem L2
/-! ### what the law asks of two quarters -/
@[simp] theorem sForO_eq {ms : MA} {j : Nat} {b : MS} {s : Sg} : sForO ms j b s = (ms s).bind fun us s => (match tmsOnly us with
  | some ts => if ts.length ≤ 1000 then forO j b ts s else .bad
  | none => .bad) := rfl
theorem forO_nx {j : Nat} {b : MS} {t : T} {ts : List T} {s s2 : Sg} (hj : j < s.length) (h : b (s.set j (some t)) = .ok .nx s2) : forO j b (t :: ts) s = forO j b ts s2 := by
  conv => { lhs; unfold forO; simp only [hj, h, if_true] }
theorem intsT_data {l : List Nat} : (intsT l).data = .list (l.map fun x => .int (x : Nat)) := by
  unfold intsT
  rw [data_lst, dataL_mapd]
theorem whole_int {n : Int} : resD (m__law_whole [.d (.int n)]) = some (.bool true) := by
  unfold m__law_whole
  simp [isi_int, isi_bool]
theorem due_ne {l : List Nat} : gNeD (.list (l.map fun x => .int (x : Nat))) (.list (l.map fun x => .int (x : Nat))) = some (.bool false) :=
  neD_self (n := 1) (sh_list fun x hx => by obtain ⟨i, _, rfl⟩ := List.mem_map.mp hx; exact sh_int) (by omega)
theorem cr_turn {a0 a1 a2 a4 : Option T} {l : List Nat} (hl : l.length ≤ 12) : m__law_clash_right_L1 [a0, a1, a2, some (.d (.list (l.map fun x => .int (x : Nat)))), a4, some (intsT l), none] = .ok .nx [a0, a1, a2, some (.d (.list (l.map fun x => .int (x : Nat)))), a4, some (.lst ((l.map fun x => T.d (.int (x : Nat))) ++ [.d (.int 0)])), none] := by
  have hlc : lcP [6] (wN 6) cYes (fFn m__law_whole (fCons (fVar 6) fNil)) [a0.map T.data, a1.map T.data, a2.map T.data, some (.list (l.map fun x => .int (x : Nat))), a4.map T.data, some (.list (l.map fun x => .int (x : Nat))), none] (l.map fun x => .int (x : Nat)) = some (l.map fun _ => .bool true) := lcP_map _ _ fun x hx => by
    refine ⟨[a0.map T.data, a1.map T.data, a2.map T.data, some (.list (l.map fun x => .int (x : Nat))), a4.map T.data, some (.list (l.map fun x => .int (x : Nat))), some (.int (x : Nat))], by simp, rfl, ?_⟩
    simp [whole_int]
  have hga : gAll [.list (l.map fun _ => .bool true)] = some (.bool true) := by
    rw [gAll_bools (f := fun _ : Nat => true) (l := l)]
    congr 2
    rw [List.all_eq_true]
    exact fun _ _ => rfl
  have hls : l.length < 16777216 := by omega
  have hls2 : l.length < 100000 := by omega
  have hil : isiD "list" (.list (l.map fun x => .int (x : Nat))) = some (.bool true) := isi_list rfl
  unfold m__law_clash_right_L1
  simp [intsT_data, hil, due_ne, hls2, hlc, hga]
  unfold intsT
  simp [hls]
theorem cr_of {A : Adr} {us vs : List (List Nat)} {way back : Str} {l : List Nat} (hl : l.length ≤ 12)
    (hb : (mOp gDGet (mDisp ["e", "s"] (aCons (mP (fC (.str "w"))) (aCons (mP (fC (.str "n"))) aNil))) (mP (fVar 2))) [some (.d (tieD A us)), some (.d (tieD A vs)), some (.d (.str way)), some (.d (.list (l.map fun x => .int (x : Nat)))), none, none, none] = .ok (.d (.str back)) [some (.d (tieD A us)), some (.d (tieD A vs)), some (.d (.str way)), some (.d (.list (l.map fun x => .int (x : Nat)))), none, none, none])
    (h1 : m_Ties_clash A [.d (tieD A us), .d (tieD A vs), .d (.str way)] = .ok (intsT l) [some (.d (tieD A us)), some (.d (tieD A vs)), some (.d (.str way))])
    (h2 : m_Ties_clash A [.d (tieD A vs), .d (tieD A us), .d (.str back)] = .ok (intsT l) [some (.d (tieD A vs)), some (.d (tieD A us)), some (.d (.str back))]) :
    resD (m__law_clash_right A [.d (tieD A us), .d (tieD A vs), .d (.str way), .d (.list (l.map fun x => .int (x : Nat)))]) = some (.bool true) := by
  have hic : ∀ ws, isC A.Ties "clash" (.d (tieD A ws)) = true := fun ws => by
    unfold tieD isC
    simp [clsT, namesD]
    decide +kernel
  have t1 := cr_turn (a0 := some (.d (tieD A us))) (a1 := some (.d (tieD A vs))) (a2 := some (.d (.str way))) (a4 := some (.d (.str back))) hl
  have lp : forO 5 m__law_clash_right_L1 [intsT l, intsT l, intsT l] [some (.d (tieD A us)), some (.d (tieD A vs)), some (.d (.str way)), some (.d (.list (l.map fun x => .int (x : Nat)))), some (.d (.str back)), none, none] = .ok .nx [some (.d (tieD A us)), some (.d (tieD A vs)), some (.d (.str way)), some (.d (.list (l.map fun x => .int (x : Nat)))), some (.d (.str back)), some (.lst ((l.map fun x => T.d (.int (x : Nat))) ++ [.d (.int 0)])), none] := by
    rw [forO_nx (by simp) t1, forO_nx (by simp) t1, forO_nx (by simp) t1]
    rfl
  unfold m__law_clash_right
  simp only [runF_eq, sSeq_eq, sSet_eq]
  simp [hb, -mOp_eq]
  simp [hic, h1, h2, lp]
theorem back_e {A : Adr} {a b : Option T} {l : T} : (mOp gDGet (mDisp ["e", "s"] (aCons (mP (fC (.str "w"))) (aCons (mP (fC (.str "n"))) aNil))) (mP (fVar 2))) [a, b, some (.d (.str "e")), some l, none, none, none] = .ok (.d (.str "w")) [a, b, some (.d (.str "e")), some l, none, none, none] := by
  have n1 : ¬ (("e" : Str) = "s") := by decide +kernel
  have g : gDGet (.dict [(.str "e", .str "w"), (.str "s", .str "n")]) (.str "e") = some (.str "w") := by kernel_rfl
  simp [mDisp, n1, g]
theorem back_s {A : Adr} {a b : Option T} {l : T} : (mOp gDGet (mDisp ["e", "s"] (aCons (mP (fC (.str "w"))) (aCons (mP (fC (.str "n"))) aNil))) (mP (fVar 2))) [a, b, some (.d (.str "s")), some l, none, none, none] = .ok (.d (.str "n")) [a, b, some (.d (.str "s")), some l, none, none, none] := by
  have n1 : ¬ (("e" : Str) = "s") := by decide +kernel
  have g : gDGet (.dict [(.str "e", .str "w"), (.str "s", .str "n")]) (.str "s") = some (.str "n") := by kernel_rfl
  simp [mDisp, n1, g]
theorem refused_spec {A : Adr} {vss : List (List Nat)} (h : sqV vss) (ht : tiesB vss = false) : resD (m__law_refused A [.d (rowsD vss)]) = some (.bool true) := by
  have e := tinit_ex (A := A) (nice_rows h) fun ⟨vss', e, h1, h2⟩ => by
    have : vss = vss' := by
      rw [← un_rows h, ← un_rows h1]
      exact congrArg unD e
    rw [this, h2] at ht
    cases ht
  have w := word_spec (A := A)
  have q : gEqD (.list [.str "sheet"]) (.list [.str "sheet"]) = some (.bool true) := by kernel_rfl
  unfold m__law_refused
  simp [mZ, e, w, isNoneD, q]
end S

namespace S
open PySem L2
/-! ### the whole layer against its parts -/
theorem rd_ix {f fi : FP} {s : Sg} {i : Nat} {ts : List T} {n : Int} {x : PyData} (hv : f (viewF s) = none) (hs : s[i]? = some (some (.lst ts))) (hf : fi (view s) = some (.int n)) (ha : atI ts n = some (.d x)) : mRd f (pIx (pVar i) fi) s = .ok (.d x) s := by
  unfold atI at ha
  unfold mRd mPath pIx pVar
  rw [hv]
  cases e : ixN ts.length n with
  | none => rw [e] at ha; cases ha
  | some j =>
    rw [e] at ha
    simp only [Option.bind_some] at ha
    simp [hs, hf, e, T.get, ha]
def isStr1 : Option PyData → Bool
  | some (.str _) => true
  | _ => false
def waysS (v : Nat) : Str := match resD (m_ways_in [.d (.int (v : Nat))]) with
  | some (.str z) => z
  | _ => ""
theorem ways_all : ∀ v : Fin 16, isStr1 (resD (m_ways_in [.d (.int (v.val : Nat))])) = true := by decide +kernel
theorem ways_ok {v : Nat} (h : v < 16) : resD (m_ways_in [.d (.int (v : Nat))]) = some (.str (waysS v)) := by
  have := ways_all ⟨v, h⟩
  simp only at this
  unfold waysS
  generalize resD (m_ways_in [.d (.int (v : Nat))]) = o at *
  match o, this with
  | some (.str z), _ => rfl
theorem sign_at {A : Adr} {vss : List (List Nat)} {r c : Nat} (h : sqV vss) (hr : r < vss.length) (hc : c < vss.length) :
    resD (m_Layer_sign_at A [.d (tieD A vss), .d (.int (r : Nat)), .d (.int (c : Nat))]) = some (.str (sg (hx (cV vss r c)))) := by
  have e1 := rows_ix hr
  have hl := row_len h hr
  have e2 := row_ix (vs := vss.getD r []) (c := c) (by omega) (by have := h.2.1; omega)
  have ec : cV vss r c = (vss.getD r []).getD c 0 := rfl
  rw [← ec] at e2
  generalize vss.getD r [] = vs at *
  unfold m_Layer_sign_at tieD
  unfold rowsD at e1 ⊢
  simp [look_lines, e1, e2, -gIxL_eq]
theorem ways_at {A : Adr} {vss : List (List Nat)} {r c : Nat} (h : sqV vss) (hr : r < vss.length) (hc : c < vss.length) :
    resD (m_Ties_ways_at A [.d (tieD A vss), .d (.int (r : Nat)), .d (.int (c : Nat))]) = some (.str (waysS (cV vss r c))) := by
  have e1 := sign_at (A := A) h hr hc
  have hb : resD (m_bits_of [.d (.str (sg (hx (cV vss r c))))]) = some (.int (cV vss r c : Nat)) := by
    have := hex_ix (cV_lt h r c)
    unfold m_bits_of
    unfold SIXT at this
    simp [this]
  have hn : (namesD [(PyData.str "lines", rowsD vss)]).contains "sign_at" = false := by simp [namesD]; decide +kernel
  have hw := ways_ok (cV_lt h r c)
  unfold m_Ties_ways_at
  unfold tieD at e1 ⊢
  simp [methD_some hn, e1, hb, hw]
theorem cat_of {us a b : List Nat} {h : Nat} (hu : us.length = 2 * h) (ha : a.length = h) (hb : b.length = h) (e1 : ∀ i, i < h → us.getD i 0 = a.getD i 0) (e2 : ∀ i, i < h → us.getD (h + i) 0 = b.getD i 0) : us = a ++ b := by
  refine List.ext_getElem (by simp; omega) fun i h1 h2 => ?_
  rw [List.getElem_append]
  split
  · next q =>
    have := e1 i (by omega)
    rwa [getD_at h1, getD_at q] at this
  · next q =>
    have := e2 (i - h) (by omega)
    rw [show h + (i - h) = i by omega, getD_at h1, getD_at (by omega)] at this
    rw [this]
    congr 1
    omega
section
variable {A : Adr} {vss : List (List Nat)} {h : Nat}
theorem cat_n (hsq : sqV vss) (hl : vss.length = 2 * h) (h2 : 2 ≤ h) (h6 : h ≤ 6) : alongN vss = alongN (quartV h 0 0 vss) ++ alongN (quartV h 0 1 vss) := by
  have q0 := quart_sq hsq hl h2 h6 (show 0 < 2 by omega) (show 0 < 2 by omega)
  have q1 := quart_sq hsq hl h2 h6 (show 0 < 2 by omega) (show 1 < 2 by omega)
  have l0 := quart_len (a := 0) hl (show 0 < 2 by omega)
  have l1 := quart_len (a := 1) hl (show 0 < 2 by omega)
  refine cat_of (h := h) (by rw [(along_ok hsq).2.2.2.2.1, hl]) (by rw [(along_ok q0).2.2.2.2.1, l0]) (by rw [(along_ok q1).2.2.2.2.1, l1]) (fun i hi => ?_) fun i hi => ?_
  · rw [along_n_at, along_n_at, quart_cell hsq hl (by omega) (by omega) (by omega) hi]; simp
  · rw [along_n_at, along_n_at, quart_cell hsq hl (by omega) (by omega) (by omega) hi]; simp
theorem cat_s (hsq : sqV vss) (hl : vss.length = 2 * h) (h2 : 2 ≤ h) (h6 : h ≤ 6) : alongS vss = alongS (quartV h 1 0 vss) ++ alongS (quartV h 1 1 vss) := by
  have q0 := quart_sq hsq hl h2 h6 (show 1 < 2 by omega) (show 0 < 2 by omega)
  have q1 := quart_sq hsq hl h2 h6 (show 1 < 2 by omega) (show 1 < 2 by omega)
  have l0 := quart_len (a := 0) hl (show 1 < 2 by omega)
  have l1 := quart_len (a := 1) hl (show 1 < 2 by omega)
  refine cat_of (h := h) (by rw [(along_ok hsq).2.2.2.2.2.1, hl]) (by rw [(along_ok q0).2.2.2.2.2.1, l0]) (by rw [(along_ok q1).2.2.2.2.2.1, l1]) (fun i hi => ?_) fun i hi => ?_
  · rw [along_s_at, along_s_at, l0, quart_cell hsq hl (by omega) (by omega) (by omega) hi, hl]
    rw [show h * 1 + (h - 1) = 2 * h - 1 by omega]; simp
  · rw [along_s_at, along_s_at, l1, quart_cell hsq hl (by omega) (by omega) (by omega) hi, hl]
    rw [show h * 1 + (h - 1) = 2 * h - 1 by omega]; simp
theorem cat_w (hsq : sqV vss) (hl : vss.length = 2 * h) (h2 : 2 ≤ h) (h6 : h ≤ 6) : alongW vss = alongW (quartV h 0 0 vss) ++ alongW (quartV h 1 0 vss) := by
  have q0 := quart_sq hsq hl h2 h6 (show 0 < 2 by omega) (show 0 < 2 by omega)
  have q1 := quart_sq hsq hl h2 h6 (show 1 < 2 by omega) (show 0 < 2 by omega)
  have l0 := quart_len (a := 0) hl (show 0 < 2 by omega)
  have l1 := quart_len (a := 0) hl (show 1 < 2 by omega)
  refine cat_of (h := h) (by rw [(along_ok hsq).2.2.2.2.2.2.1, hl]) (by rw [(along_ok q0).2.2.2.2.2.2.1, l0]) (by rw [(along_ok q1).2.2.2.2.2.2.1, l1]) (fun i hi => ?_) fun i hi => ?_
  · rw [along_w_at (by omega), along_w_at (by omega), quart_cell hsq hl (by omega) (by omega) hi (by omega)]; simp
  · rw [along_w_at (by omega), along_w_at (by omega), quart_cell hsq hl (by omega) (by omega) hi (by omega)]; simp
theorem cat_e (hsq : sqV vss) (hl : vss.length = 2 * h) (h2 : 2 ≤ h) (h6 : h ≤ 6) : alongE vss = alongE (quartV h 0 1 vss) ++ alongE (quartV h 1 1 vss) := by
  have q0 := quart_sq hsq hl h2 h6 (show 0 < 2 by omega) (show 1 < 2 by omega)
  have q1 := quart_sq hsq hl h2 h6 (show 1 < 2 by omega) (show 1 < 2 by omega)
  have l0 := quart_len (a := 1) hl (show 0 < 2 by omega)
  have l1 := quart_len (a := 1) hl (show 1 < 2 by omega)
  refine cat_of (h := h) (by rw [(along_ok hsq).2.2.2.2.2.2.2, hl]) (by rw [(along_ok q0).2.2.2.2.2.2.2, l0]) (by rw [(along_ok q1).2.2.2.2.2.2.2, l1]) (fun i hi => ?_) fun i hi => ?_
  · rw [along_e_at hsq (by omega), along_e_at q0 (by omega), l0, quart_cell hsq hl (by omega) (by omega) hi (by omega), hl]
    rw [show h * 1 + (h - 1) = 2 * h - 1 by omega]; simp
  · rw [along_e_at hsq (by omega), along_e_at q1 (by omega), l1, quart_cell hsq hl (by omega) (by omega) hi (by omega), hl]
    rw [show h * 1 + (h - 1) = 2 * h - 1 by omega]; simp
def partsT (A : Adr) (h : Nat) (vss : List (List Nat)) : T := .lst [.d (tieD A (quartV h 0 0 vss)), .d (tieD A (quartV h 0 1 vss)), .d (tieD A (quartV h 1 0 vss)), .d (tieD A (quartV h 1 1 vss))]
def sidesT : T := .dct [(.inr "n", .d (.tuple [.int 0, .int 1])), (.inr "s", .d (.tuple [.int 2, .int 3])), (.inr "w", .d (.tuple [.int 0, .int 2])), (.inr "e", .d (.tuple [.int 1, .int 3]))]
theorem wr1 {way : Str} {a b : Int} {us vs : List (List Nat)} {z z1 z2 : Str} {g6 g7 g8 g9 g10 : Option T} {hh : Int}
    (hg : gDGet sidesT.data (.str way) = some (.tuple [.int a, .int b]))
    (ea : atI [tieD A (quartV h 0 0 vss), tieD A (quartV h 0 1 vss), tieD A (quartV h 1 0 vss), tieD A (quartV h 1 1 vss)] a = some (tieD A us))
    (eb : atI [tieD A (quartV h 0 0 vss), tieD A (quartV h 0 1 vss), tieD A (quartV h 1 0 vss), tieD A (quartV h 1 1 vss)] b = some (tieD A vs))
    (e0 : m_Ties_edge A [.d (tieD A vss), .d (.str way)] = .ok (.d (.str z)) [some (.d (tieD A vss)), some (.d (.str way))])
    (e1 : m_Ties_edge A [.d (tieD A us), .d (.str way)] = .ok (.d (.str z1)) [some (.d (tieD A us)), some (.d (.str way))])
    (e2 : m_Ties_edge A [.d (tieD A vs), .d (.str way)] = .ok (.d (.str z2)) [some (.d (tieD A vs)), some (.d (.str way))])
    (ez : gAddS (.str z1) (.str z2) = some (.str z)) :
    m__law_whole_right_L1 A [some (.d (rowsD vss)), some (partsT A h vss), some (.d (.int hh)), some (.d (tieD A vss)), some sidesT, some (.d (.str way)), g6, g7, g8, g9, g10] = .ok .nx [some (.d (rowsD vss)), some (partsT A h vss), some (.d (.int hh)), some (.d (tieD A vss)), some sidesT, some (.d (.str way)), some (.d (.int a)), some (.d (.int b)), g8, g9, g10] := by
  have hn : ∀ ws, (namesD [(PyData.str "lines", rowsD ws)]).contains "edge" = false := fun ws => by simp [namesD]; decide +kernel
  have hm : ∀ ws zz, m_Ties_edge A [.d (tieD A ws), .d (.str way)] = .ok (.d (.str zz)) [some (.d (tieD A ws)), some (.d (.str way))] → methD A.Ties "edge" (m_Ties_edge A) (some (tieD A ws)) (some [.str way]) = some (.str zz) := fun ws zz e => by
    unfold tieD at e ⊢
    simp [methD_some (hn _), e]
  have hp : (partsT A h vss).data = .list [tieD A (quartV h 0 0 vss), tieD A (quartV h 0 1 vss), tieD A (quartV h 1 0 vss), tieD A (quartV h 1 1 vss)] := by unfold partsT; simp
  unfold m__law_whole_right_L1
  simp [sAsg, hg, hp, ea, eb, hm _ _ e0, hm _ _ e1, hm _ _ e2, ez]
theorem edge_cat {k : Nat} {a b : List Nat} (hl : a.length + b.length ≤ 10000) : gAddS (.str (edgeS k a)) (.str (edgeS k b)) = some (.str (edgeS k (a ++ b))) := by
  unfold edgeS
  rw [List.map_append]
  exact addS_mk (by simpa using hl)
theorem cells_at {r c : Nat} (hsq : sqV vss) (hl : vss.length = 2 * h) (h2 : 2 ≤ h) (h6 : h ≤ 6) (hr : r < 2 * h) (hc : c < 2 * h) :
    ∃ us, atI [tieD A (quartV h 0 0 vss), tieD A (quartV h 0 1 vss), tieD A (quartV h 1 0 vss), tieD A (quartV h 1 1 vss)] (((r : Nat) : Int) / ((h : Nat) : Int) * 2 + ((c : Nat) : Int) / ((h : Nat) : Int)) = some (tieD A us) ∧ sqV us ∧ us.length = h ∧ cV us (r % h) (c % h) = cV vss r c := by
  have hd : r / h < 2 := Nat.div_lt_of_lt_mul (by rw [Nat.mul_comm]; exact hr)
  have ha : c / h < 2 := Nat.div_lt_of_lt_mul (by rw [Nat.mul_comm]; exact hc)
  refine ⟨quartV h (r / h) (c / h) vss, ?_, quart_sq hsq hl h2 h6 hd ha, quart_len hl hd, ?_⟩
  · rw [show ((r : Nat) : Int) / ((h : Nat) : Int) * 2 + ((c : Nat) : Int) / ((h : Nat) : Int) = ((r / h * 2 + c / h : Nat) : Int) by simp]
    generalize r / h = x at *
    generalize c / h = y at *
    have : (x = 0 ∨ x = 1) ∧ (y = 0 ∨ y = 1) := by omega
    rcases this with ⟨rfl | rfl, rfl | rfl⟩ <;> rfl
  · rw [quart_cell hsq hl hd ha (Nat.mod_lt _ (by omega)) (Nat.mod_lt _ (by omega)), Nat.div_add_mod, Nat.div_add_mod]
theorem wr2 {r c : Nat} {g5 g6 g7 g10 : Option T} (hsq : sqV vss) (hl : vss.length = 2 * h) (h2 : 2 ≤ h) (h6 : h ≤ 6) (hr : r < 2 * h) (hc : c < 2 * h) : ∃ g : Option T,
    m__law_whole_right_L2 A [some (.d (rowsD vss)), some (partsT A h vss), some (.d (.int (h : Nat))), some (.d (tieD A vss)), some sidesT, g5, g6, g7, some (.d (.int (r : Nat))), some (.d (.int (c : Nat))), g10] = .ok .nx [some (.d (rowsD vss)), some (partsT A h vss), some (.d (.int (h : Nat))), some (.d (tieD A vss)), some sidesT, g5, g6, g7, some (.d (.int (r : Nat))), some (.d (.int (c : Nat))), g] := by
  obtain ⟨us, e1, s1, l1, c1⟩ := cells_at (A := A) hsq hl h2 h6 hr hc
  have hn : ∀ ws, (namesD [(PyData.str "lines", rowsD ws)]).contains "ways_at" = false := fun ws => by simp [namesD]; decide +kernel
  have w0 := ways_at (A := A) hsq (r := r) (c := c) (by omega) (by omega)
  have w1 := ways_at (A := A) s1 (r := r % h) (c := c % h) (by rw [l1]; exact Nat.mod_lt _ (by omega)) (by rw [l1]; exact Nat.mod_lt _ (by omega))
  rw [c1] at w1
  have hm : ∀ ws x y zz, resD (m_Ties_ways_at A [.d (tieD A ws), .d (.int x), .d (.int y)]) = some (.str zz) → methD A.Ties "ways_at" (m_Ties_ways_at A) (some (tieD A ws)) (some [.int x, .int y]) = some (.str zz) := fun ws x y zz e => by
    unfold tieD at e ⊢
    simp [methD_some (hn _), e]
  have hm0 := hm _ _ _ _ w0
  have hm1 := hm _ _ _ _ w1
  rw [show ((r % h : Nat) : Int) = (r : Int) % (h : Int) by simp, show ((c % h : Nat) : Int) = (c : Int) % (h : Int) by simp] at hm1
  have hp : (partsT A h vss).data = .list [tieD A (quartV h 0 0 vss), tieD A (quartV h 0 1 vss), tieD A (quartV h 1 0 vss), tieD A (quartV h 1 1 vss)] := by unfold partsT; simp
  generalize cV vss r c = v at *
  have e1' : atI [T.d (tieD A (quartV h 0 0 vss)), .d (tieD A (quartV h 0 1 vss)), .d (tieD A (quartV h 1 0 vss)), .d (tieD A (quartV h 1 1 vss))] (((r : Nat) : Int) / ((h : Nat) : Int) * 2 + ((c : Nat) : Int) / ((h : Nat) : Int)) = some (.d (tieD A us)) := by
    have := atI_map (f := T.d) (l := [tieD A (quartV h 0 0 vss), tieD A (quartV h 0 1 vss), tieD A (quartV h 1 0 vss), tieD A (quartV h 1 1 vss)]) (n := ((r : Nat) : Int) / ((h : Nat) : Int) * 2 + ((c : Nat) : Int) / ((h : Nat) : Int))
    rw [e1] at this
    exact this
  have fz : frzD (some (partsT A h vss)) = none := rfl
  refine ⟨some (.d (tieD A us)), ?_⟩
  unfold m__law_whole_right_L2
  simp only [sSeq_eq, sSet_eq]
  rw [rd_ix (ts := [T.d (tieD A (quartV h 0 0 vss)), .d (tieD A (quartV h 0 1 vss)), .d (tieD A (quartV h 1 0 vss)), .d (tieD A (quartV h 1 1 vss))]) (n := ((r : Nat) : Int) / ((h : Nat) : Int) * 2 + ((c : Nat) : Int) / ((h : Nat) : Int)) (by simp [fz]) rfl (by simp (disch := omega)) e1']
  simp (disch := omega) [hp, hm0, hm1]
theorem wr_sides {g5 : Option T} (hsq : sqV vss) (hl : vss.length = 2 * h) (h2 : 2 ≤ h) (h6 : h ≤ 6) :
    forL (gN 5) (m__law_whole_right_L1 A) (signs "nesw") [some (.d (rowsD vss)), some (partsT A h vss), some (.d (.int (h : Nat))), some (.d (tieD A vss)), some sidesT, none, none, none, none, none, none] = .ok .nx [some (.d (rowsD vss)), some (partsT A h vss), some (.d (.int (h : Nat))), some (.d (tieD A vss)), some sidesT, some (.d (.str "w")), some (.d (.int 0)), some (.d (.int 2)), none, none, none] := by
  have q (d a : Nat) (hd : d < 2) (ha : a < 2) := quart_sq hsq hl h2 h6 hd ha
  have ln (d a : Nat) (hd : d < 2) := quart_len (a := a) hl hd
  have ok (d a : Nat) (hd : d < 2) (ha : a < 2) := along_ok (q d a hd ha)
  have es : signs "nesw" = [.str "n", .str "e", .str "s", .str "w"] := by kernel_rfl
  have i0 : (0 : Nat) < 2 := by omega
  have i1 : (1 : Nat) < 2 := by omega
  rw [es]
  have zn := edge_cat (k := 0) (a := alongN (quartV h 0 0 vss)) (b := alongN (quartV h 0 1 vss)) (by rw [(ok 0 0 i0 i0).2.2.2.2.1, (ok 0 1 i0 i1).2.2.2.2.1, ln _ _ i0, ln _ _ i0]; omega)
  have zs := edge_cat (k := 2) (a := alongS (quartV h 1 0 vss)) (b := alongS (quartV h 1 1 vss)) (by rw [(ok 1 0 i1 i0).2.2.2.2.2.1, (ok 1 1 i1 i1).2.2.2.2.2.1, ln _ _ i1, ln _ _ i1]; omega)
  have zw := edge_cat (k := 3) (a := alongW (quartV h 0 0 vss)) (b := alongW (quartV h 1 0 vss)) (by rw [(ok 0 0 i0 i0).2.2.2.2.2.2.1, (ok 1 0 i1 i0).2.2.2.2.2.2.1, ln _ _ i0, ln _ _ i1]; omega)
  have ze := edge_cat (k := 1) (a := alongE (quartV h 0 1 vss)) (b := alongE (quartV h 1 1 vss)) (by rw [(ok 0 1 i0 i1).2.2.2.2.2.2.2, (ok 1 1 i1 i1).2.2.2.2.2.2.2, ln _ _ i0, ln _ _ i1]; omega)
  rw [← cat_n hsq hl h2 h6] at zn
  rw [← cat_s hsq hl h2 h6] at zs
  rw [← cat_w hsq hl h2 h6] at zw
  rw [← cat_e hsq hl h2 h6] at ze
  rw [forL_nx (s1 := [some (.d (rowsD vss)), some (partsT A h vss), some (.d (.int (h : Nat))), some (.d (tieD A vss)), some sidesT, some (.d (.str "n")), none, none, none, none, none]) (by simp) (wr1 (a := 0) (b := 1) (by kernel_rfl) rfl rfl (edge_n hsq) (edge_n (q 0 0 i0 i0)) (edge_n (q 0 1 i0 i1)) zn)]
  rw [forL_nx (s1 := [some (.d (rowsD vss)), some (partsT A h vss), some (.d (.int (h : Nat))), some (.d (tieD A vss)), some sidesT, some (.d (.str "e")), some (.d (.int 0)), some (.d (.int 1)), none, none, none]) (by simp) (wr1 (a := 1) (b := 3) (by kernel_rfl) rfl rfl (edge_e hsq) (edge_e (q 0 1 i0 i1)) (edge_e (q 1 1 i1 i1)) ze)]
  rw [forL_nx (s1 := [some (.d (rowsD vss)), some (partsT A h vss), some (.d (.int (h : Nat))), some (.d (tieD A vss)), some sidesT, some (.d (.str "s")), some (.d (.int 1)), some (.d (.int 3)), none, none, none]) (by simp) (wr1 (a := 2) (b := 3) (by kernel_rfl) rfl rfl (edge_s hsq) (edge_s (q 1 0 i1 i0)) (edge_s (q 1 1 i1 i1)) zs)]
  rw [forL_nx (s1 := [some (.d (rowsD vss)), some (partsT A h vss), some (.d (.int (h : Nat))), some (.d (tieD A vss)), some sidesT, some (.d (.str "w")), some (.d (.int 2)), some (.d (.int 3)), none, none, none]) (by simp) (wr1 (a := 0) (b := 2) (by kernel_rfl) rfl rfl (edge_w hsq) (edge_w (q 0 0 i0 i0)) (edge_w (q 1 0 i1 i0)) zw)]
  rfl
theorem wr_rows {g5 g6 g7 g8 g9 g10 : Option T} (hsq : sqV vss) (hl : vss.length = 2 * h) (h2 : 2 ≤ h) (h6 : h ≤ 6) : ∃ g8' g9' g10' : Option T,
    forL (gN 8) (m__law_whole_right_L3 A) (rangeD 0 ((2 * h : Nat) : Int)) [some (.d (rowsD vss)), some (partsT A h vss), some (.d (.int (h : Nat))), some (.d (tieD A vss)), some sidesT, g5, g6, g7, g8, g9, g10] = .ok .nx [some (.d (rowsD vss)), some (partsT A h vss), some (.d (.int (h : Nat))), some (.d (tieD A vss)), some sidesT, g5, g6, g7, g8', g9', g10'] := by
  obtain ⟨s', e, g8', g9', g10', rfl⟩ := forL_inv (a := gN 8) (b := m__law_whole_right_L3 A) (ds := rangeD 0 ((2 * h : Nat) : Int)) (s := [some (.d (rowsD vss)), some (partsT A h vss), some (.d (.int (h : Nat))), some (.d (tieD A vss)), some sidesT, g5, g6, g7, g8, g9, g10])
    (fun i s => ∃ g8' g9' g10' : Option T, s = [some (.d (rowsD vss)), some (partsT A h vss), some (.d (.int (h : Nat))), some (.d (tieD A vss)), some sidesT, g5, g6, g7, g8', g9', g10'])
    ⟨_, _, _, rfl⟩ (by
      rintro i hi s ⟨g8, g9, g10, rfl⟩
      rw [range_len] at hi
      obtain ⟨s', e, g9', g10', rfl⟩ := forL_inv (a := gN 9) (b := m__law_whole_right_L2 A) (ds := rangeD 0 ((2 * h : Nat) : Int)) (s := [some (.d (rowsD vss)), some (partsT A h vss), some (.d (.int (h : Nat))), some (.d (tieD A vss)), some sidesT, g5, g6, g7, some (.d (.int (i : Nat))), g9, g10])
        (fun _ s => ∃ g9' g10' : Option T, s = [some (.d (rowsD vss)), some (partsT A h vss), some (.d (.int (h : Nat))), some (.d (tieD A vss)), some sidesT, g5, g6, g7, some (.d (.int (i : Nat))), g9', g10'])
        ⟨_, _, rfl⟩ (by
          rintro j hj s ⟨g9, g10, rfl⟩
          rw [range_len] at hj
          obtain ⟨g, e⟩ := wr2 (A := A) (g5 := g5) (g6 := g6) (g7 := g7) (g10 := g10) hsq hl h2 h6 hi hj
          exact ⟨_, _, by simp [range_get], e, _, _, rfl⟩)
      refine ⟨[some (.d (rowsD vss)), some (partsT A h vss), some (.d (.int (h : Nat))), some (.d (tieD A vss)), some sidesT, g5, g6, g7, some (.d (.int (i : Nat))), g9, g10], [some (.d (rowsD vss)), some (partsT A h vss), some (.d (.int (h : Nat))), some (.d (tieD A vss)), some sidesT, g5, g6, g7, some (.d (.int (i : Nat))), g9', g10'], by simp [range_get], ?_, _, _, _, rfl⟩
      unfold m__law_whole_right_L3
      rw [show ((2 * h : Nat) : Int) = 2 * (h : Int) by omega] at e
      simp (disch := omega) [e])
  exact ⟨_, _, _, e⟩
theorem whole_right (hsq : sqV vss) (hl : vss.length = 2 * h) (h2 : 2 ≤ h) (h6 : h ≤ 6) (hti : tiesB vss = true) : m__law_whole_right A [.d (rowsD vss), partsT A h vss] = .ok (.d (.bool true)) [some (.d (rowsD vss)), some (partsT A h vss)] := by
  have e0 := tinit_goodT (A := A) hsq hti
  have e1 := wr_sides (A := A) (g5 := none) hsq hl h2 h6
  obtain ⟨g8, g9, g10, e2⟩ := wr_rows (A := A) (g5 := some (.d (.str "w"))) (g6 := some (.d (.int 0))) (g7 := some (.d (.int 2))) (g8 := none) (g9 := none) (g10 := none) hsq hl h2 h6
  rw [show ((2 * h : Nat) : Int) = 2 * (h : Int) by omega] at e2
  have hlen : gLen [rowsD vss] = some (.int (2 * (h : Int))) := by rw [len_rows, hl]; simp
  have hnl : nListC (fVar 0) [some (rowsD vss), some (partsT A h vss).data, some (.int (h : Nat)), none, none, none, none, none, none, none, none] = some (vss.map fun vs => .str (rowS vs)) := rfl
  have ert : T.lst ((vss.map fun vs => PyData.str (rowS vs)).map .d) = rowsT vss := by unfold rowsT; rw [List.map_map]; rfl
  have fz : frzD (some (partsT A h vss)) = none := rfl
  have hpd : (partsT A h vss).isD = false := rfl
  have n1 : ¬ (("n" : Str) = "s") := by decide +kernel
  have n2 : ¬ (("n" : Str) = "w") := by decide +kernel
  have n3 : ¬ (("n" : Str) = "e") := by decide +kernel
  have n4 : ¬ (("s" : Str) = "w") := by decide +kernel
  have n5 : ¬ (("s" : Str) = "e") := by decide +kernel
  have n6 : ¬ (("w" : Str) = "e") := by decide +kernel
  have hdi : (2 * (h : Int)) / 2 = h := by omega
  have htd := tieT_data (A := A) (vss := vss)
  unfold m__law_whole_right
  simp only [sidesT] at e1 e2
  have r0 : rowsD vss = .list (vss.map fun vs => .str (rowS vs)) := rfl
  have mn : mN (nListC (fVar 0)) [some (.d (rowsD vss)), some (partsT A h vss), some (.d (.int (h : Nat))), none, none, none, none, none, none, none, none] = .ok (rowsT vss) [some (.d (rowsD vss)), some (partsT A h vss), some (.d (.int (h : Nat))), none, none, none, none, none, none, none, none] := by
    simp [r0]
    rw [← ert]; simp
  simp (disch := omega) [hlen, hdi, mn, mZ, e0, htd, e1, e2, mDisp, n1, n2, n3, n4, n5, n6, -mN_eq]
end
end S

namespace S
open PySem L2
/-! ### the law -/
theorem due_nil {h : Nat} {ps : List Nat} (hx : ∀ x ∈ ps, x < h) : (dueL h ps).isEmpty = ps.isEmpty := by
  unfold dueL
  cases ps with
  | nil => simp
  | cons x l =>
    have : x ∈ (List.range h).filter fun y => decide (y ∈ x :: l) := by
      rw [List.mem_filter, List.mem_range]
      exact ⟨hx x (by simp), by simp⟩
    rw [List.isEmpty_cons, Bool.eq_false_iff]
    intro q
    rw [List.isEmpty_iff] at q
    rw [q] at this
    cases this
theorem emp_map {l : List Nat} : (l.map fun x => PyData.int (x : Nat)).isEmpty = l.isEmpty := by cases l <;> rfl
theorem dues_ne {h : Nat} {p : Nat → List Nat} (o : okP h 4 p) : gNeD (duesD h p) (.list [.list [], .list [], .list [], .list []]) = some (.bool (!((p 0).isEmpty && ((p 1).isEmpty && ((p 2).isEmpty && (p 3).isEmpty))))) := by
  have s1 : ∀ l : List Nat, ShD 1 (.list (l.map fun x => .int (x : Nat))) := fun l => sh_list fun x hx => by obtain ⟨i, _, rfl⟩ := List.mem_map.mp hx; exact sh_int
  have s2 : SeqAt.shaped (duesD h p) = true := ShD.ok (n := 2) (sh_list fun x hx => by
    simp only [List.mem_cons, List.not_mem_nil, or_false] at hx
    rcases hx with rfl | rfl | rfl | rfl <;> exact s1 _) (by omega)
  have s3 : SeqAt.shaped (.list [.list [], .list [], .list [], .list []]) = true := by decide +kernel
  unfold gNeD
  rw [if_pos ⟨s2, s3⟩]
  unfold duesD dueD'
  rw [PyData.eqv]
  simp only [PyData.eqvAll, eqv_nil, emp_map, due_nil (o 0 (by omega)).2.2, due_nil (o 1 (by omega)).2.2, due_nil (o 2 (by omega)).2.2, due_nil (o 3 (by omega)).2.2, Bool.and_true]
theorem cc_ties {h : Nat} {vss : List (List Nat)} {p : Nat → List Nat} (hsq : sqV vss) (hl : vss.length = 2 * h) (h2 : 2 ≤ h) (o : okP h 4 p) (k : CC h vss p) : tiesB vss = ((p 0).isEmpty && ((p 1).isEmpty && ((p 2).isEmpty && (p 3).isEmpty))) := by
  rw [← law_ties hsq, Bool.eq_iff_iff, law_iff]
  simp only [Bool.and_eq_true, List.isEmpty_iff]
  constructor
  · intro q
    have rows : ∀ b, b < 2 → p b = [] := fun b hb => by
      cases e : p b with
      | nil => rfl
      | cons x l =>
        have hx := (o b (by omega)).2.2 x (by rw [e]; simp)
        have hlt : h * b + x < 2 * h := by
          have : b = 0 ∨ b = 1 := by omega
          rcases this with rfl | rfl <;> omega
        have := (q (h * b + x) (by omega) (h - 1) (by omega)).1 (by omega)
        have z := (k.1 (h * b + x) (h - 1) hlt (by omega)).mp this
        have dm := divmod (b := b) hx
        rw [dm.1, dm.2, e] at z
        exact absurd ⟨by omega, by simp⟩ z
    have cols : ∀ b, b < 2 → p (2 + b) = [] := fun b hb => by
      cases e : p (2 + b) with
      | nil => rfl
      | cons x l =>
        have hx := (o (2 + b) (by omega)).2.2 x (by rw [e]; simp)
        have hlt : h * b + x < 2 * h := by
          have : b = 0 ∨ b = 1 := by omega
          rcases this with rfl | rfl <;> omega
        have := (q (h - 1) (by omega) (h * b + x) (by omega)).2 (by omega)
        have z := (k.2 (h - 1) (h * b + x) (by omega) hlt).mp this
        have dm := divmod (b := b) hx
        rw [dm.1, dm.2, e] at z
        exact absurd ⟨by omega, by simp⟩ z
    exact ⟨rows 0 (by omega), rows 1 (by omega), cols 0 (by omega), cols 1 (by omega)⟩
  · rintro ⟨e0, e1, e2, e3⟩ r hr c hc
    refine ⟨fun q => (k.1 r c (by omega) (by omega)).mpr ?_, fun q => (k.2 r c (by omega) (by omega)).mpr ?_⟩
    · have hd : r / h < 2 := Nat.div_lt_of_lt_mul (by rw [Nat.mul_comm, ← hl]; exact hr)
      have : p (r / h) = [] := by
        have : r / h = 0 ∨ r / h = 1 := by generalize r / h = q at hd; omega
        rcases this with z | z <;> rw [z] <;> assumption
      rw [this]
      simp
    · have hd : c / h < 2 := Nat.div_lt_of_lt_mul (by rw [Nat.mul_comm, ← hl]; exact hc)
      have : p (2 + c / h) = [] := by
        have : c / h = 0 ∨ c / h = 1 := by generalize c / h = q at hd; omega
        rcases this with z | z <;> rw [z] <;> assumption
      rw [this]
      simp
section
variable {A : Adr} {vss : List (List Nat)} {h : Nat} {p : Nat → List Nat} {s0 s1 s2 s3 s5 s6 s7 s8 s9 s10 s11 : Option T}
theorem part_spec {d a : Nat} (hsq : sqV vss) (hl : vss.length = 2 * h) (h2 : 2 ≤ h) (h6 : h ≤ 6) (hd : d < 2) (ha : a < 2) (k : CC h vss p) :
    m_law_E1 A [s0, s1, s2, s3, some (.d (rowsD vss)), s5, s6, s7, s8, s9, s10, s11, some (.d (.int (d : Nat))), some (.d (.int (a : Nat)))] = .ok (.d (tieD A (quartV h d a vss))) [s0, s1, s2, s3, some (.d (rowsD vss)), s5, s6, s7, s8, s9, s10, s11, some (.d (.int (d : Nat))), some (.d (.int (a : Nat)))] := by
  have e1 := quart_spec hsq hl h2 h6 hd ha
  have e2 := tinit_goodT (A := A) (quart_sq hsq hl h2 h6 hd ha) (quart_ties hsq hl h2 h6 hd ha k)
  have e3 := tieT_data (A := A) (vss := quartV h d a vss)
  unfold m_law_E1
  simp [mZ, e1, e2, e3]
theorem parts_spec (hsq : sqV vss) (hl : vss.length = 2 * h) (h2 : 2 ≤ h) (h6 : h ≤ 6) (k : CC h vss p) :
    lcL [12, 13] (gT 2 (gCs (gN 12) (gCs (gN 13) gNl))) (bP cYes) (m_law_E1 A) [.tuple [.int 0, .int 0], .tuple [.int 0, .int 1], .tuple [.int 1, .int 0], .tuple [.int 1, .int 1]] [] [s0, s1, s2, s3, some (.d (rowsD vss)), s5, s6, s7, s8, s9, s10, s11, none, none] =
      .ok [.d (tieD A (quartV h 0 0 vss)), .d (tieD A (quartV h 0 1 vss)), .d (tieD A (quartV h 1 0 vss)), .d (tieD A (quartV h 1 1 vss))] [s0, s1, s2, s3, some (.d (rowsD vss)), s5, s6, s7, s8, s9, s10, s11, none, none] := by
  have e (d a : Nat) (hd : d < 2) (ha : a < 2) := part_spec (A := A) (s0 := s0) (s1 := s1) (s2 := s2) (s3 := s3) (s5 := s5) (s6 := s6) (s7 := s7) (s8 := s8) (s9 := s9) (s10 := s10) (s11 := s11) hsq hl h2 h6 hd ha k
  rw [lcL_yes (s1 := [s0, s1, s2, s3, some (.d (rowsD vss)), s5, s6, s7, s8, s9, s10, s11, some (.d (.int ((0 : Nat) : Int))), some (.d (.int ((0 : Nat) : Int)))]) (by simp) (by simp) (e 0 0 (by omega) (by omega)) (by simp)]
  simp only [wipeS_nil, wipeS_cons, List.set_cons_succ, List.set_cons_zero, List.nil_append]
  rw [lcL_yes (s1 := [s0, s1, s2, s3, some (.d (rowsD vss)), s5, s6, s7, s8, s9, s10, s11, some (.d (.int ((0 : Nat) : Int))), some (.d (.int ((1 : Nat) : Int)))]) (by simp) (by simp) (e 0 1 (by omega) (by omega)) (by simp)]
  simp only [wipeS_nil, wipeS_cons, List.set_cons_succ, List.set_cons_zero, List.cons_append, List.nil_append]
  rw [lcL_yes (s1 := [s0, s1, s2, s3, some (.d (rowsD vss)), s5, s6, s7, s8, s9, s10, s11, some (.d (.int ((1 : Nat) : Int))), some (.d (.int ((0 : Nat) : Int)))]) (by simp) (by simp) (e 1 0 (by omega) (by omega)) (by simp)]
  simp only [wipeS_nil, wipeS_cons, List.set_cons_succ, List.set_cons_zero, List.cons_append, List.nil_append]
  rw [lcL_yes (s1 := [s0, s1, s2, s3, some (.d (rowsD vss)), s5, s6, s7, s8, s9, s10, s11, some (.d (.int ((1 : Nat) : Int))), some (.d (.int ((1 : Nat) : Int)))]) (by simp) (by simp) (e 1 1 (by omega) (by omega)) (by simp)]
  simp only [wipeS_nil, wipeS_cons, List.set_cons_succ, List.set_cons_zero, List.cons_append, List.nil_append]
  rfl
theorem cl1 {b i j : Int} {way : Str} {us vs : List (List Nat)} {l : List Nat} {s4 s7 s12 s13 : Option T}
    (hi : atI [tieD A (quartV h 0 0 vss), tieD A (quartV h 0 1 vss), tieD A (quartV h 1 0 vss), tieD A (quartV h 1 1 vss)] i = some (tieD A us))
    (hj : atI [tieD A (quartV h 0 0 vss), tieD A (quartV h 0 1 vss), tieD A (quartV h 1 0 vss), tieD A (quartV h 1 1 vss)] j = some (tieD A vs))
    (hb : atI [dueD' h (p 0), dueD' h (p 1), dueD' h (p 2), dueD' h (p 3)] b = some (.list (l.map fun x => .int (x : Nat))))
    (e : resD (m__law_clash_right A [.d (tieD A us), .d (tieD A vs), .d (.str way), .d (.list (l.map fun x => .int (x : Nat)))]) = some (.bool true)) :
    m_law_L1 A [s0, s1, s2, s3, s4, some (.d (duesD h p)), some (partsT A h vss), s7, some (.d (.int b)), some (.d (.int i)), some (.d (.int j)), some (.d (.str way)), s12, s13] = .ok .nx [s0, s1, s2, s3, s4, some (.d (duesD h p)), some (partsT A h vss), s7, some (.d (.int b)), some (.d (.int i)), some (.d (.int j)), some (.d (.str way)), s12, s13] := by
  have hp : (partsT A h vss).data = .list [tieD A (quartV h 0 0 vss), tieD A (quartV h 0 1 vss), tieD A (quartV h 1 0 vss), tieD A (quartV h 1 1 vss)] := by unfold partsT; simp
  unfold m_law_L1
  unfold duesD
  simp [hp, hi, hj, hb, e]
theorem pairs_spec {s4 s7 s8 s9 s10 s11 s12 s13 : Option T} (hsq : sqV vss) (hl : vss.length = 2 * h) (h2 : 2 ≤ h) (h6 : h ≤ 6) (k : CC h vss p) :
    ∃ g8 g9 g10 g11, forL (gT 2 (gCs (gN 8) (gCs (gT 3 (gCs (gN 9) (gCs (gN 10) (gCs (gN 11) gNl)))) gNl))) (m_law_L1 A) (enumD 0 [.tuple [.int 0, .int 1, .str "e"], .tuple [.int 2, .int 3, .str "e"], .tuple [.int 0, .int 2, .str "s"], .tuple [.int 1, .int 3, .str "s"]]) [s0, s1, s2, s3, s4, some (.d (duesD h p)), some (partsT A h vss), s7, s8, s9, s10, s11, s12, s13] =
      .ok .nx [s0, s1, s2, s3, s4, some (.d (duesD h p)), some (partsT A h vss), s7, g8, g9, g10, g11, s12, s13] := by
  have dl : ∀ b, (dueL h (p b)).length ≤ 12 := fun b => by
    have := List.length_filter_le (fun x => decide (x ∈ p b)) (List.range h)
    rw [List.length_range] at this
    unfold dueL
    omega
  have r0 := clash_rows (A := A) (d := 0) hsq hl h2 h6 (by omega) k
  have r1 := clash_rows (A := A) (d := 1) hsq hl h2 h6 (by omega) k
  have c0 := clash_cols (A := A) (a := 0) hsq hl h2 h6 (by omega) k
  have c1 := clash_cols (A := A) (a := 1) hsq hl h2 h6 (by omega) k
  refine ⟨some (.d (.int 3)), some (.d (.int 1)), some (.d (.int 3)), some (.d (.str "s")), ?_⟩
  have en : enumD 0 [PyData.tuple [.int 0, .int 1, .str "e"], .tuple [.int 2, .int 3, .str "e"], .tuple [.int 0, .int 2, .str "s"], .tuple [.int 1, .int 3, .str "s"]] = [.tuple [.int 0, .tuple [.int 0, .int 1, .str "e"]], .tuple [.int 1, .tuple [.int 2, .int 3, .str "e"]], .tuple [.int 2, .tuple [.int 0, .int 2, .str "s"]], .tuple [.int 3, .tuple [.int 1, .int 3, .str "s"]]] := rfl
  rw [en]
  rw [forL_nx (s1 := [s0, s1, s2, s3, s4, some (.d (duesD h p)), some (partsT A h vss), s7, some (.d (.int 0)), some (.d (.int 0)), some (.d (.int 1)), some (.d (.str "e")), s12, s13]) (by simp) (cl1 (l := dueL h (p 0)) rfl rfl rfl (cr_of (dl 0) (back_e (A := A)) r0.1 r0.2))]
  rw [forL_nx (s1 := [s0, s1, s2, s3, s4, some (.d (duesD h p)), some (partsT A h vss), s7, some (.d (.int 1)), some (.d (.int 2)), some (.d (.int 3)), some (.d (.str "e")), s12, s13]) (by simp) (cl1 (l := dueL h (p 1)) rfl rfl rfl (cr_of (dl 1) (back_e (A := A)) r1.1 r1.2))]
  rw [forL_nx (s1 := [s0, s1, s2, s3, s4, some (.d (duesD h p)), some (partsT A h vss), s7, some (.d (.int 2)), some (.d (.int 0)), some (.d (.int 2)), some (.d (.str "s")), s12, s13]) (by simp) (cl1 (l := dueL h (p 2)) rfl rfl rfl (cr_of (dl 2) (back_s (A := A)) c0.1 c0.2))]
  rw [forL_nx (s1 := [s0, s1, s2, s3, s4, some (.d (duesD h p)), some (partsT A h vss), s7, some (.d (.int 3)), some (.d (.int 1)), some (.d (.int 3)), some (.d (.str "s")), s12, s13]) (by simp) (cl1 (l := dueL h (p 3)) rfl rfl rfl (cr_of (dl 3) (back_s (A := A)) c1.1 c1.2))]
  rfl
end
theorem size_at {v : Int} (h0 : 0 ≤ v) (h1 : v < 10) : ∃ h : Nat, atI [PyData.int 4, .int 6, .int 4, .int 8, .int 4, .int 6, .int 4, .int 4, .int 6, .int 12] v = some (.int ((2 * h : Nat) : Int)) ∧ 2 ≤ h ∧ h ≤ 6 := by
  have : v = 0 ∨ v = 1 ∨ v = 2 ∨ v = 3 ∨ v = 4 ∨ v = 5 ∨ v = 6 ∨ v = 7 ∨ v = 8 ∨ v = 9 := by omega
  rcases this with rfl | rfl | rfl | rfl | rfl | rfl | rfl | rfl | rfl | rfl
  · exact ⟨2, rfl, by omega, by omega⟩
  · exact ⟨3, rfl, by omega, by omega⟩
  · exact ⟨2, rfl, by omega, by omega⟩
  · exact ⟨4, rfl, by omega, by omega⟩
  · exact ⟨2, rfl, by omega, by omega⟩
  · exact ⟨3, rfl, by omega, by omega⟩
  · exact ⟨2, rfl, by omega, by omega⟩
  · exact ⟨2, rfl, by omega, by omega⟩
  · exact ⟨3, rfl, by omega, by omega⟩
  · exact ⟨6, rfl, by omega, by omega⟩
theorem turn {A : Adr} {sc : T} {cs : List Int} {k : Nat} {g3 g4 g5 g6 g7 g8 g9 g10 g11 : Option T} (hk : k < cs.length) (hk2 : k < 30) : ∃ g3' g4' g5' g6' g7' g8' g9' g10' g11' : Option T,
    m_law_L2 A [some sc, some (cellsT cs), some (.d (.int (k : Nat))), g3, g4, g5, g6, g7, g8, g9, g10, g11, none, none] = .ok .nx [some sc, some (cellsT cs), some (.d (.int (k : Nat))), g3', g4', g5', g6', g7', g8', g9', g10', g11', none, none] := by
  obtain ⟨t0, s0, e0⟩ := state_spec (cs := cs.drop k) (k := (k : Nat)) (by
    intro q
    have := congrArg List.length q
    rw [List.length_drop, List.length_nil] at this
    omega) (by omega) (by omega)
  obtain ⟨v, t1, e1, a1, b1, s1⟩ := take_spec (n := 10) s0 (by omega) (by omega) (by omega)
  obtain ⟨h, eh, h2, h6⟩ := size_at a1 b1
  obtain ⟨vss, t2, hl, hsq, hti, s2, e2⟩ := ties_spec (n := 2 * h) s1 (by omega) (by omega) (by omega)
  obtain ⟨vs', p, t3, e3, hsq', hl', hcc, ho, s3⟩ := spoilt_spec hsq hti hl h2 h6 s2 (by omega)
  have hd2 : (rowsT vss).data = rowsD vss := rowsT_data
  have hcut : cutD (cs.map fun c => .int c) (some (k : Int)) none = (cs.drop k).map .int := cut_ints
  have himm : isImmL ((cs.drop k).map PyData.int) = true := by
    generalize cs.drop k = l
    induction l with
    | nil => rfl
    | cons a l ih => simp [ih]
  have ecT : T.lst ((((cs.drop k).map PyData.int)).map .d) = cellsT (cs.drop k) := by unfold cellsT; rw [List.map_map]; rfl
  have e4 := parts_spec (A := A) (s0 := some sc) (s1 := some (cellsT cs)) (s2 := some (.d (.int (k : Nat)))) (s3 := some t3) (s5 := some (.d (duesD h p))) (s6 := g6) (s7 := g7) (s8 := g8) (s9 := g9) (s10 := g10) (s11 := g11) hsq' hl' h2 h6 hcc
  obtain ⟨g8', g9', g10', g11', e5⟩ := pairs_spec (A := A) (s0 := some sc) (s1 := some (cellsT cs)) (s2 := some (.d (.int (k : Nat)))) (s3 := some t3) (s4 := some (.d (rowsD vs'))) (s7 := none) (s8 := g8) (s9 := g9) (s10 := g10) (s11 := g11) (s12 := none) (s13 := none) hsq' hl' h2 h6 hcc
  have e6 := dues_ne ho
  have ct := cc_ties hsq' hl' h2 ho hcc
  have pz : (partsT A h vs').isD = false := rfl
  refine ⟨some t3, some (.d (rowsD vs')), some (.d (duesD h p)), some (partsT A h vs'), none, g8', g9', g10', g11', ?_⟩
  have n0 := s0.nd
  have n1 := s1.nd
  have n2 := s2.nd
  have n3 := s3.nd
  have cd : (cellsT cs).data = .list (cs.map fun c => .int c) := by unfold cellsT; simp
  have cz : frzD (some (cellsT cs)) = none := rfl
  have mn : mN (nSlL (fVar 1) (oSome (fVar 2)) oNone) [some sc, some (cellsT cs), some (.d (.int (k : Nat))), g3, g4, g5, g6, g7, g8, g9, g10, g11, none, none] = .ok (cellsT (cs.drop k)) [some sc, some (cellsT cs), some (.d (.int (k : Nat))), g3, g4, g5, g6, g7, g8, g9, g10, g11, none, none] := by
    simp [cd, cz, hcut, himm, -List.map_drop, -List.map_map]
    exact ecT
  have c2 : ((2 * h : Nat) : Int) = 2 * (h : Int) := by omega
  rw [c2] at eh e2
  unfold partsT at e5
  cases hb : ((p 0).isEmpty && ((p 1).isEmpty && ((p 2).isEmpty && (p 3).isEmpty))) with
  | true =>
    rw [hb] at ct e6
    have e7 := whole_right (A := A) hsq' hl' h2 h6 ct
    unfold partsT at e7 ⊢
    unfold m_law_L2
    simp (disch := omega) [sAsg, mn, e0, n0, e1, n1, eh, e2, n2, hd2, e3, e4, e5, e6, e7, -mN_eq]
  | false =>
    rw [hb] at ct e6
    have e7 := refused_spec (A := A) hsq' ct
    unfold partsT
    unfold m_law_L2
    simp (disch := omega) [sAsg, mn, e0, n0, e1, n1, eh, e2, n2, hd2, e3, e4, e5, e6, e7, -mN_eq]
theorem law_true {A : Adr} (d : [A.Layer, A.Ties, A.MapError, A.BadSheet, A.BadPlace, A.BadCell, A.BadWindow, A.NoSheet, A.NoWay, A.NoName, A.TooMany, A.BadLine, A.BadText].Nodup) (ns : List Int) (hl : ns.length ≤ 63) : ∃ s, m_law A [.d (.list (ns.map .int))] = .ok (.d (.bool true)) s := by
  obtain ⟨cs0, hc0⟩ := cut_pre (ns := ns)
  obtain ⟨cs, hcs⟩ : ∃ cs, cs = cs0 ++ [(6 : Int)] := ⟨_, rfl⟩
  have h0 : cs0.length ≤ 63 := by
    have := congrArg List.length hc0
    have h2 := (cutD_sub (l := ns.map PyData.int) (lo := none) (hi := some 63)).1
    rw [List.length_map] at this h2
    omega
  have hcl : cs.length ≤ 64 := by rw [hcs, List.length_append, List.length_singleton]; omega
  have ecs : (cs0.map PyData.int).map T.d ++ [.d (.int 6)] = cs.map fun c => T.d (.int c) := by rw [hcs, List.map_append, List.map_map]; rfl
  have hmin : gMin2 [.int 30, .int (cs.length : Nat)] = some (.int ((min 30 cs.length : Nat))) := by
    show some (PyData.int _) = _
    congr 2
    split <;> omega
  obtain ⟨s', e, I⟩ := forL_inv (a := gN 2) (b := m_law_L2 A) (ds := rangeD 0 ((min 30 cs.length : Nat))) (s := [some (.d (.list (ns.map .int))), some (cellsT cs), none, none, none, none, none, none, none, none, none, none, none, none])
    (fun i s => ∃ g2 g3 g4 g5 g6 g7 g8 g9 g10 g11 : Option T, s = [some (.d (.list (ns.map .int))), some (cellsT cs), g2, g3, g4, g5, g6, g7, g8, g9, g10, g11, none, none])
    ⟨none, none, none, none, none, none, none, none, none, none, rfl⟩ (by
      rintro i hi s ⟨g2, g3, g4, g5, g6, g7, g8, g9, g10, g11, rfl⟩
      rw [range_len] at hi
      obtain ⟨g3', g4', g5', g6', g7', g8', g9', g10', g11', e⟩ := turn (A := A) (sc := .d (.list (ns.map .int))) (cs := cs) (k := i) (g3 := g3) (g4 := g4) (g5 := g5) (g6 := g6) (g7 := g7) (g8 := g8) (g9 := g9) (g10 := g10) (g11 := g11) (by omega) (by omega)
      exact ⟨_, _, by simp [range_get], e, _, _, _, _, _, _, _, _, _, _, rfl⟩)
  obtain ⟨g2, g3, g4, g5, g6, g7, g8, g9, g10, g11, rfl⟩ := I
  unfold cellsT at e
  have hk : cs0.length + 1 ≤ 16777216 := by omega
  have hm : min 30 cs.length ≤ 30 := by omega
  refine ⟨[some (.d (.list (ns.map .int)))], ?_⟩
  unfold m_law
  simp (disch := omega) [hc0, ecs, hk, hmin, e, -List.map_map]
end S

namespace S
open PySem L2
def spLaw (K : PySem.W.Frag) : Sp := fun vs H Q E => ∃ (a : Addr) (ns : List Int), vs = [.ref a] ∧ SqL K H a (ns.map V.int) ∧ ns.length ≤ 63 ∧ (∀ z ∈ ns, Builtin.Int.intBits z ≤ 1048576) ∧ ∀ H', Q (.bl true) H'
theorem law_sp {K : PySem.W.Frag} {A : Adr} (d : [A.Layer, A.Ties, A.MapError, A.BadSheet, A.BadPlace, A.BadCell, A.BadWindow, A.NoSheet, A.NoWay, A.NoName, A.TooMany, A.BadLine, A.BadText].Nodup) : ∀ vs H Q E, spLaw K vs H Q E → FnM K 1 (m_law A) vs H Q E := fun vs H Q E ⟨a, ns, e1, hS, hl, hb, q⟩ => by
  subst e1
  obtain ⟨s, hs⟩ := law_true d ns hl
  exact spL_fnM hS hs q
theorem all_mk {l : PySem.W.OpenLaw} {w : World} {K : PySem.W.Frag} {h : Heap} {mg : Str → Option Value} {fa : Addr} {c_Layer c_Ties c_MapError c_BadSheet c_BadPlace c_BadCell c_BadWindow c_NoSheet c_NoWay c_NoName c_TooMany c_BadLine c_BadText : Addr} {u_LEAST_SIZE u_MOST_SIZE u_SIXTEENS u_WAYS : Value} (X : K.In h) (G : h.Ns mainGlobals mg) (hfa : mg "law" = some (.ref fa))
    (gc_Layer : PySem.W.nsIn K mainGlobals "Layer" = some (some (.ref c_Layer)))
    (pg_Layer : PySem.W.plainGet K c_Layer Str.empty = true)
    (hd_Layer : PySem.W.hasDictIn K c_Layer = true)
    (po_Layer : PySem.W.plainOver K c_Layer = true)
    (sa_Layer : PySem.W.findIn K (.ref c_Layer) "__setattr__" = some (some (.builtin "object.__setattr__")))
    (ha_Layer : PySem.W.findIn K (.ref c_Layer) "__class__" = some (some (.builtin "object.__class__")))
    (hn_Layer : PySem.W.specialIn K (.builtin "object.__class__") "__get__" = some (some (.builtin "getset_descriptor.__get__")))
    (tk_Layer : PySem.W.takesIn K (.builtin "object.__class__") = some true)
    (hm_Layer : PySem.W.mroIn K c_Layer (.type "object") = some true)
    (na_Layer_lines : PySem.W.findIn K (.ref c_Layer) "lines" = some none)
    (gc_Ties : PySem.W.nsIn K mainGlobals "Ties" = some (some (.ref c_Ties)))
    (pg_Ties : PySem.W.plainGet K c_Ties Str.empty = true)
    (hd_Ties : PySem.W.hasDictIn K c_Ties = true)
    (po_Ties : PySem.W.plainOver K c_Ties = true)
    (sa_Ties : PySem.W.findIn K (.ref c_Ties) "__setattr__" = some (some (.builtin "object.__setattr__")))
    (ha_Ties : PySem.W.findIn K (.ref c_Ties) "__class__" = some (some (.builtin "object.__class__")))
    (hn_Ties : PySem.W.specialIn K (.builtin "object.__class__") "__get__" = some (some (.builtin "getset_descriptor.__get__")))
    (tk_Ties : PySem.W.takesIn K (.builtin "object.__class__") = some true)
    (hm_Ties : PySem.W.mroIn K c_Ties (.type "object") = some true)
    (na_Ties_lines : PySem.W.findIn K (.ref c_Ties) "lines" = some none)
    (ko_Layer_Layer : PySem.W.kitOne K (.ref c_Layer) (.ref c_Layer) = some true)
    (ko_Layer_Ties : PySem.W.kitOne K (.ref c_Layer) (.ref c_Ties) = some false)
    (ko_Ties_Layer : PySem.W.kitOne K (.ref c_Ties) (.ref c_Layer) = some true)
    (ko_Ties_Ties : PySem.W.kitOne K (.ref c_Ties) (.ref c_Ties) = some true)
    (gc_MapError : PySem.W.nsIn K mainGlobals "MapError" = some (some (.ref c_MapError)))
    (gc_BadSheet : PySem.W.nsIn K mainGlobals "BadSheet" = some (some (.ref c_BadSheet)))
    (gc_BadPlace : PySem.W.nsIn K mainGlobals "BadPlace" = some (some (.ref c_BadPlace)))
    (gc_BadCell : PySem.W.nsIn K mainGlobals "BadCell" = some (some (.ref c_BadCell)))
    (gc_BadWindow : PySem.W.nsIn K mainGlobals "BadWindow" = some (some (.ref c_BadWindow)))
    (gc_NoSheet : PySem.W.nsIn K mainGlobals "NoSheet" = some (some (.ref c_NoSheet)))
    (gc_NoWay : PySem.W.nsIn K mainGlobals "NoWay" = some (some (.ref c_NoWay)))
    (gc_NoName : PySem.W.nsIn K mainGlobals "NoName" = some (some (.ref c_NoName)))
    (gc_TooMany : PySem.W.nsIn K mainGlobals "TooMany" = some (some (.ref c_TooMany)))
    (gc_BadLine : PySem.W.nsIn K mainGlobals "BadLine" = some (some (.ref c_BadLine)))
    (gc_BadText : PySem.W.nsIn K mainGlobals "BadText" = some (some (.ref c_BadText)))
    (xn : PySem.W.specialIn K (.builtin "object.__class__") "__get__" = some (some (.builtin "getset_descriptor.__get__")))
    (xk : PySem.W.takesIn K (.builtin "object.__class__") = some true)
    (xb : PySem.W.subIn K (.ref c_MapError) (.type "BaseException") = some true)
    (xd : PySem.W.hasDictIn K c_MapError = true)
    (xt : PySem.W.typeIn K (.ref c_MapError) = some (.type "type"))
    (xq_BadSheet : PySem.W.excIn K c_BadSheet [.type "ValueError", .type "Exception", .type "BaseException", .type "object"] "ValueError.__new__" = true)
    (xkp_BadSheet : PySem.W.keepIn K (.ref c_BadSheet) = true)
    (xb_BadSheet : PySem.W.subIn K (.ref c_BadSheet) (.type "BaseException") = some true)
    (xt_BadSheet : PySem.W.typeIn K (.ref c_BadSheet) = some (.type "type"))
    (xhg_BadSheet : PySem.W.findIn K (.ref c_BadSheet) "__getattribute__" = some (some (.builtin "BaseException.__getattribute__")))
    (xhk_BadSheet : PySem.W.findIn K (.ref c_BadSheet) "__getattr__" = some none)
    (xhd_BadSheet : PySem.W.hasDictIn K c_BadSheet = true)
    (xha_BadSheet : PySem.W.findIn K (.ref c_BadSheet) "__class__" = some (some (.builtin "object.__class__")))
    (xhm_BadSheet : PySem.W.mroIn K c_BadSheet (.type "object") = some true)
    (ko_BadSheet_MapError : PySem.W.kitOne K (.ref c_BadSheet) (.ref c_MapError) = some true)
    (ko_BadSheet_BadSheet : PySem.W.kitOne K (.ref c_BadSheet) (.ref c_BadSheet) = some true)
    (ko_BadSheet_BadPlace : PySem.W.kitOne K (.ref c_BadSheet) (.ref c_BadPlace) = some false)
    (ko_BadSheet_BadCell : PySem.W.kitOne K (.ref c_BadSheet) (.ref c_BadCell) = some false)
    (ko_BadSheet_BadWindow : PySem.W.kitOne K (.ref c_BadSheet) (.ref c_BadWindow) = some false)
    (ko_BadSheet_NoSheet : PySem.W.kitOne K (.ref c_BadSheet) (.ref c_NoSheet) = some false)
    (ko_BadSheet_NoWay : PySem.W.kitOne K (.ref c_BadSheet) (.ref c_NoWay) = some false)
    (ko_BadSheet_NoName : PySem.W.kitOne K (.ref c_BadSheet) (.ref c_NoName) = some false)
    (ko_BadSheet_TooMany : PySem.W.kitOne K (.ref c_BadSheet) (.ref c_TooMany) = some false)
    (ko_BadSheet_BadLine : PySem.W.kitOne K (.ref c_BadSheet) (.ref c_BadLine) = some false)
    (ko_BadSheet_BadText : PySem.W.kitOne K (.ref c_BadSheet) (.ref c_BadText) = some false)
    (kv_BadSheet : PySem.W.kitOne K (.ref c_BadSheet) (.type "ValueError") = some true)
    (se_BadSheet : PySem.W.subIn K (.ref c_BadSheet) (.ref c_MapError) = some true)
    (dall : [c_Layer, c_Ties, c_MapError, c_BadSheet, c_BadPlace, c_BadCell, c_BadWindow, c_NoSheet, c_NoWay, c_NoName, c_TooMany, c_BadLine, c_BadText].Nodup)
    (m_Ties_clash : MethIn K c_Ties "clash" "Ties.clash" s_Ties_clash)
    (m_Ties_edge : MethIn K c_Ties "edge" "Ties.edge" s_Ties_edge)
    (m_Ties_sign_at : MethIn K c_Ties "sign_at" "Layer.sign_at" s_Layer_sign_at)
    (m_Ties_signs_along : MethIn K c_Ties "signs_along" "Layer.signs_along" s_Layer_signs_along)
    (m_Ties_ways_at : MethIn K c_Ties "ways_at" "Ties.ways_at" s_Ties_ways_at)
    (cf_Layer___init__ : CfunIn K c_Layer "__init__" "Layer.__init__" s_Layer___init__)
    (in_Ties : ∃ (f : Addr) (fd : FuncData), Fun K "__init__" "Ties.__init__" s_Ties___init__ f fd ∧ Mk K c_Ties f)
    (d__law_state : DefIn K "_law_state" s__law_state)
    (d__law_mixed : DefIn K "_law_mixed" s__law_mixed)
    (d__law_take : DefIn K "_law_take" s__law_take)
    (d__law_bits : DefIn K "_law_bits" s__law_bits)
    (d__law_ties : DefIn K "_law_ties" s__law_ties)
    (d__law_turned : DefIn K "_law_turned" s__law_turned)
    (d__law_spoilt : DefIn K "_law_spoilt" s__law_spoilt)
    (d_is_among : DefIn K "is_among" s_is_among)
    (d_is_size : DefIn K "is_size" s_is_size)
    (d_are_rows : DefIn K "are_rows" s_are_rows)
    (d_bit_of : DefIn K "bit_of" s_bit_of)
    (d_ways_in : DefIn K "ways_in" s_ways_in)
    (d_bits_of : DefIn K "bits_of" s_bits_of)
    (d_has_way : DefIn K "has_way" s_has_way)
    (d_agrees : DefIn K "agrees" s_agrees)
    (d__law_quarter : DefIn K "_law_quarter" s__law_quarter)
    (d_against : DefIn K "against" s_against)
    (d__law_whole : DefIn K "_law_whole" s__law_whole)
    (d__law_clash_right : DefIn K "_law_clash_right" s__law_clash_right)
    (d__law_word : DefIn K "_law_word" s__law_word)
    (d__law_refused : DefIn K "_law_refused" s__law_refused)
    (d__law_whole_right : DefIn K "_law_whole_right" s__law_whole_right)
    (d_law : DefIn K "law" s_law)
    (b_ValueError : PySem.W.nsIn K mainGlobals "ValueError" = some none)
    (b_all : PySem.W.nsIn K mainGlobals "all" = some none)
    (b_bool : PySem.W.nsIn K mainGlobals "bool" = some none)
    (b_enumerate : PySem.W.nsIn K mainGlobals "enumerate" = some none)
    (b_int : PySem.W.nsIn K mainGlobals "int" = some none)
    (b_isinstance : PySem.W.nsIn K mainGlobals "isinstance" = some none)
    (b_len : PySem.W.nsIn K mainGlobals "len" = some none)
    (b_list : PySem.W.nsIn K mainGlobals "list" = some none)
    (b_min : PySem.W.nsIn K mainGlobals "min" = some none)
    (b_range : PySem.W.nsIn K mainGlobals "range" = some none)
    (b_sorted : PySem.W.nsIn K mainGlobals "sorted" = some none)
    (b_str : PySem.W.nsIn K mainGlobals "str" = some none)
    (b_zip : PySem.W.nsIn K mainGlobals "zip" = some none)
    (g_LEAST_SIZE : PySem.W.nsIn K mainGlobals "LEAST_SIZE" = some (some u_LEAST_SIZE)) (r_LEAST_SIZE : RelV (.int (2)) u_LEAST_SIZE)
    (g_MOST_SIZE : PySem.W.nsIn K mainGlobals "MOST_SIZE" = some (some u_MOST_SIZE)) (r_MOST_SIZE : RelV (.int (12)) u_MOST_SIZE)
    (g_SIXTEENS : PySem.W.nsIn K mainGlobals "SIXTEENS" = some (some u_SIXTEENS)) (r_SIXTEENS : RelV (.str "0123456789abcdef") u_SIXTEENS)
    (g_WAYS : PySem.W.nsIn K mainGlobals "WAYS" = some (some u_WAYS)) (r_WAYS : RelV (.str "nesw") u_WAYS) :
    ∃ fd : FuncData, (∀ (s : Shared) (v : Value), BindsTo s fd ⟨[v], []⟩ [("_law_script", v)]) ∧ ∀ base : Heap, K.In base → base.Ns mainGlobals mg → FnOk l.prog w K mg base (L2.CX l.prog w) 8 fa fd ["_law_script"] (spLaw K) := by
  have T : Txt mg := ⟨PySem.W.mg_none_of X G b_ValueError, PySem.W.mg_none_of X G b_all, PySem.W.mg_none_of X G b_bool, PySem.W.mg_none_of X G b_enumerate, PySem.W.mg_none_of X G b_int, PySem.W.mg_none_of X G b_isinstance, PySem.W.mg_none_of X G b_len, PySem.W.mg_none_of X G b_list, PySem.W.mg_none_of X G b_min, PySem.W.mg_none_of X G b_range, PySem.W.mg_none_of X G b_sorted, PySem.W.mg_none_of X G b_str, PySem.W.mg_none_of X G b_zip, gv_mk X G g_LEAST_SIZE r_LEAST_SIZE, gv_mk X G g_MOST_SIZE r_MOST_SIZE, gv_mk X G g_SIXTEENS r_SIXTEENS, gv_mk X G g_WAYS r_WAYS⟩
  have TC : TxC K mg ⟨c_Layer, c_Ties, c_MapError, c_BadSheet, c_BadPlace, c_BadCell, c_BadWindow, c_NoSheet, c_NoWay, c_NoName, c_TooMany, c_BadLine, c_BadText⟩ := ⟨gv_mk X G gc_Layer rfl, ⟨⟨pg_Layer, hd_Layer, po_Layer, sa_Layer⟩, ha_Layer, hn_Layer, tk_Layer, hm_Layer⟩, na_Layer_lines, ko_Layer_Layer, ko_Layer_Ties, gv_mk X G gc_Ties rfl, ⟨⟨pg_Ties, hd_Ties, po_Ties, sa_Ties⟩, ha_Ties, hn_Ties, tk_Ties, hm_Ties⟩, na_Ties_lines, ko_Ties_Layer, ko_Ties_Ties, gv_mk X G gc_MapError rfl, PySem.W.mg_of X G gc_MapError, gv_mk X G gc_BadSheet rfl, PySem.W.mg_of X G gc_BadSheet, gv_mk X G gc_BadPlace rfl, PySem.W.mg_of X G gc_BadPlace, gv_mk X G gc_BadCell rfl, PySem.W.mg_of X G gc_BadCell, gv_mk X G gc_BadWindow rfl, PySem.W.mg_of X G gc_BadWindow, gv_mk X G gc_NoSheet rfl, PySem.W.mg_of X G gc_NoSheet, gv_mk X G gc_NoWay rfl, PySem.W.mg_of X G gc_NoWay, gv_mk X G gc_NoName rfl, PySem.W.mg_of X G gc_NoName, gv_mk X G gc_TooMany rfl, PySem.W.mg_of X G gc_TooMany, gv_mk X G gc_BadLine rfl, PySem.W.mg_of X G gc_BadLine, gv_mk X G gc_BadText rfl, PySem.W.mg_of X G gc_BadText, ⟨PySem.W.mg_of X G gc_BadSheet, xq_BadSheet, xkp_BadSheet, xb_BadSheet, xt_BadSheet, ⟨xhg_BadSheet, xhk_BadSheet, xb_BadSheet, xhd_BadSheet, xha_BadSheet, xn, xk, xhm_BadSheet⟩⟩, ko_BadSheet_MapError, ko_BadSheet_BadSheet, ko_BadSheet_BadPlace, ko_BadSheet_BadCell, ko_BadSheet_BadWindow, ko_BadSheet_NoSheet, ko_BadSheet_NoWay, ko_BadSheet_NoName, ko_BadSheet_TooMany, ko_BadSheet_BadLine, ko_BadSheet_BadText, kv_BadSheet, PySem.W.exm_ref xb xd xt se_BadSheet, dall⟩
  have in2_Ties : InitIn K mg "Ties" c_Ties "Ties.__init__" s_Ties___init__ := let ⟨f, fd, F, M⟩ := in_Ties; ⟨f, fd, F, M, PySem.W.mg_of X G gc_Ties⟩
  have D__law_state := d__law_state.fn X G
  have D__law_mixed := d__law_mixed.fn X G
  have D__law_take := d__law_take.fn X G
  have D__law_bits := d__law_bits.fn X G
  have D__law_ties := d__law_ties.fn X G
  have D__law_turned := d__law_turned.fn X G
  have D__law_spoilt := d__law_spoilt.fn X G
  have D_is_among := d_is_among.fn X G
  have D_is_size := d_is_size.fn X G
  have D_are_rows := d_are_rows.fn X G
  have D_bit_of := d_bit_of.fn X G
  have D_ways_in := d_ways_in.fn X G
  have D_bits_of := d_bits_of.fn X G
  have D_has_way := d_has_way.fn X G
  have D_agrees := d_agrees.fn X G
  have D__law_quarter := d__law_quarter.fn X G
  have D_against := d_against.fn X G
  have D__law_whole := d__law_whole.fn X G
  have D__law_clash_right := d__law_clash_right.fn X G
  have D__law_word := d__law_word.fn X G
  have D__law_refused := d__law_refused.fn X G
  have D__law_whole_right := d__law_whole_right.fn X G
  have D_law := d_law.fn X G
  refine end_mk D_law hfa (fun _ _ _ _ _ _ _ => rfl) fun fd F base => ?_
  have F__law_state := ok_fn__law_state (P := l.prog) (w := w) (base := base) (A := ⟨c_Layer, c_Ties, c_MapError, c_BadSheet, c_BadPlace, c_BadCell, c_BadWindow, c_NoSheet, c_NoWay, c_NoName, c_TooMany, c_BadLine, c_BadText⟩) D__law_state T TC 
  have F__law_mixed := ok_fn__law_mixed (P := l.prog) (w := w) (base := base) (A := ⟨c_Layer, c_Ties, c_MapError, c_BadSheet, c_BadPlace, c_BadCell, c_BadWindow, c_NoSheet, c_NoWay, c_NoName, c_TooMany, c_BadLine, c_BadText⟩) D__law_mixed T TC 
  have F__law_take := ok_fn__law_take (P := l.prog) (w := w) (base := base) (A := ⟨c_Layer, c_Ties, c_MapError, c_BadSheet, c_BadPlace, c_BadCell, c_BadWindow, c_NoSheet, c_NoWay, c_NoName, c_TooMany, c_BadLine, c_BadText⟩) D__law_take T TC F__law_mixed
  have F__law_bits := ok_fn__law_bits (P := l.prog) (w := w) (base := base) (A := ⟨c_Layer, c_Ties, c_MapError, c_BadSheet, c_BadPlace, c_BadCell, c_BadWindow, c_NoSheet, c_NoWay, c_NoName, c_TooMany, c_BadLine, c_BadText⟩) D__law_bits T TC F__law_take
  have F__law_ties := ok_fn__law_ties (P := l.prog) (w := w) (base := base) (A := ⟨c_Layer, c_Ties, c_MapError, c_BadSheet, c_BadPlace, c_BadCell, c_BadWindow, c_NoSheet, c_NoWay, c_NoName, c_TooMany, c_BadLine, c_BadText⟩) D__law_ties T TC F__law_take F__law_bits
  have F__law_turned := ok_fn__law_turned (P := l.prog) (w := w) (base := base) (A := ⟨c_Layer, c_Ties, c_MapError, c_BadSheet, c_BadPlace, c_BadCell, c_BadWindow, c_NoSheet, c_NoWay, c_NoName, c_TooMany, c_BadLine, c_BadText⟩) D__law_turned T TC 
  have F__law_spoilt := ok_fn__law_spoilt (P := l.prog) (w := w) (base := base) (A := ⟨c_Layer, c_Ties, c_MapError, c_BadSheet, c_BadPlace, c_BadCell, c_BadWindow, c_NoSheet, c_NoWay, c_NoName, c_TooMany, c_BadLine, c_BadText⟩) D__law_spoilt T TC F__law_take F__law_turned
  have C_Layer___init__ := ok_cfun_Layer___init__ (P := l.prog) (w := w) (base := base) (A := ⟨c_Layer, c_Ties, c_MapError, c_BadSheet, c_BadPlace, c_BadCell, c_BadWindow, c_NoSheet, c_NoWay, c_NoName, c_TooMany, c_BadLine, c_BadText⟩) cf_Layer___init__ T TC 
  have F_is_among := ok_fn_is_among (P := l.prog) (w := w) (base := base) (A := ⟨c_Layer, c_Ties, c_MapError, c_BadSheet, c_BadPlace, c_BadCell, c_BadWindow, c_NoSheet, c_NoWay, c_NoName, c_TooMany, c_BadLine, c_BadText⟩) D_is_among T TC 
  have F_is_size := ok_fn_is_size (P := l.prog) (w := w) (base := base) (A := ⟨c_Layer, c_Ties, c_MapError, c_BadSheet, c_BadPlace, c_BadCell, c_BadWindow, c_NoSheet, c_NoWay, c_NoName, c_TooMany, c_BadLine, c_BadText⟩) D_is_size T TC F_is_among
  have F_are_rows := ok_fn_are_rows (P := l.prog) (w := w) (base := base) (A := ⟨c_Layer, c_Ties, c_MapError, c_BadSheet, c_BadPlace, c_BadCell, c_BadWindow, c_NoSheet, c_NoWay, c_NoName, c_TooMany, c_BadLine, c_BadText⟩) D_are_rows T TC F_is_size
  have F_bit_of := ok_fn_bit_of (P := l.prog) (w := w) (base := base) (A := ⟨c_Layer, c_Ties, c_MapError, c_BadSheet, c_BadPlace, c_BadCell, c_BadWindow, c_NoSheet, c_NoWay, c_NoName, c_TooMany, c_BadLine, c_BadText⟩) D_bit_of T TC 
  have F_ways_in := ok_fn_ways_in (P := l.prog) (w := w) (base := base) (A := ⟨c_Layer, c_Ties, c_MapError, c_BadSheet, c_BadPlace, c_BadCell, c_BadWindow, c_NoSheet, c_NoWay, c_NoName, c_TooMany, c_BadLine, c_BadText⟩) D_ways_in T TC F_bit_of
  have F_bits_of := ok_fn_bits_of (P := l.prog) (w := w) (base := base) (A := ⟨c_Layer, c_Ties, c_MapError, c_BadSheet, c_BadPlace, c_BadCell, c_BadWindow, c_NoSheet, c_NoWay, c_NoName, c_TooMany, c_BadLine, c_BadText⟩) D_bits_of T TC 
  have F_has_way := ok_fn_has_way (P := l.prog) (w := w) (base := base) (A := ⟨c_Layer, c_Ties, c_MapError, c_BadSheet, c_BadPlace, c_BadCell, c_BadWindow, c_NoSheet, c_NoWay, c_NoName, c_TooMany, c_BadLine, c_BadText⟩) D_has_way T TC F_ways_in F_bits_of
  have F_agrees := ok_fn_agrees (P := l.prog) (w := w) (base := base) (A := ⟨c_Layer, c_Ties, c_MapError, c_BadSheet, c_BadPlace, c_BadCell, c_BadWindow, c_NoSheet, c_NoWay, c_NoName, c_TooMany, c_BadLine, c_BadText⟩) D_agrees T TC F_has_way
  have N_Ties := ok_new_Ties (P := l.prog) (w := w) (base := base) (A := ⟨c_Layer, c_Ties, c_MapError, c_BadSheet, c_BadPlace, c_BadCell, c_BadWindow, c_NoSheet, c_NoWay, c_NoName, c_TooMany, c_BadLine, c_BadText⟩) in2_Ties T TC F_are_rows F_agrees C_Layer___init__
  have F__law_quarter := ok_fn__law_quarter (P := l.prog) (w := w) (base := base) (A := ⟨c_Layer, c_Ties, c_MapError, c_BadSheet, c_BadPlace, c_BadCell, c_BadWindow, c_NoSheet, c_NoWay, c_NoName, c_TooMany, c_BadLine, c_BadText⟩) D__law_quarter T TC 
  have M_Ties_signs_along := ok_meth_Ties_signs_along (P := l.prog) (w := w) (base := base) (A := ⟨c_Layer, c_Ties, c_MapError, c_BadSheet, c_BadPlace, c_BadCell, c_BadWindow, c_NoSheet, c_NoWay, c_NoName, c_TooMany, c_BadLine, c_BadText⟩) m_Ties_signs_along T TC 
  have M_Ties_edge := ok_meth_Ties_edge (P := l.prog) (w := w) (base := base) (A := ⟨c_Layer, c_Ties, c_MapError, c_BadSheet, c_BadPlace, c_BadCell, c_BadWindow, c_NoSheet, c_NoWay, c_NoName, c_TooMany, c_BadLine, c_BadText⟩) m_Ties_edge T TC M_Ties_signs_along F_has_way
  have F_against := ok_fn_against (P := l.prog) (w := w) (base := base) (A := ⟨c_Layer, c_Ties, c_MapError, c_BadSheet, c_BadPlace, c_BadCell, c_BadWindow, c_NoSheet, c_NoWay, c_NoName, c_TooMany, c_BadLine, c_BadText⟩) D_against T TC 
  have M_Ties_clash := ok_meth_Ties_clash (P := l.prog) (w := w) (base := base) (A := ⟨c_Layer, c_Ties, c_MapError, c_BadSheet, c_BadPlace, c_BadCell, c_BadWindow, c_NoSheet, c_NoWay, c_NoName, c_TooMany, c_BadLine, c_BadText⟩) m_Ties_clash T TC M_Ties_edge F_against
  have F__law_whole := ok_fn__law_whole (P := l.prog) (w := w) (base := base) (A := ⟨c_Layer, c_Ties, c_MapError, c_BadSheet, c_BadPlace, c_BadCell, c_BadWindow, c_NoSheet, c_NoWay, c_NoName, c_TooMany, c_BadLine, c_BadText⟩) D__law_whole T TC 
  have F__law_clash_right := ok_fn__law_clash_right (P := l.prog) (w := w) (base := base) (A := ⟨c_Layer, c_Ties, c_MapError, c_BadSheet, c_BadPlace, c_BadCell, c_BadWindow, c_NoSheet, c_NoWay, c_NoName, c_TooMany, c_BadLine, c_BadText⟩) D__law_clash_right T TC M_Ties_clash F__law_whole
  have F__law_word := ok_fn__law_word (P := l.prog) (w := w) (base := base) (A := ⟨c_Layer, c_Ties, c_MapError, c_BadSheet, c_BadPlace, c_BadCell, c_BadWindow, c_NoSheet, c_NoWay, c_NoName, c_TooMany, c_BadLine, c_BadText⟩) D__law_word T TC 
  have F__law_refused := ok_fn__law_refused (P := l.prog) (w := w) (base := base) (A := ⟨c_Layer, c_Ties, c_MapError, c_BadSheet, c_BadPlace, c_BadCell, c_BadWindow, c_NoSheet, c_NoWay, c_NoName, c_TooMany, c_BadLine, c_BadText⟩) D__law_refused T TC N_Ties F__law_word
  have M_Ties_sign_at := ok_meth_Ties_sign_at (P := l.prog) (w := w) (base := base) (A := ⟨c_Layer, c_Ties, c_MapError, c_BadSheet, c_BadPlace, c_BadCell, c_BadWindow, c_NoSheet, c_NoWay, c_NoName, c_TooMany, c_BadLine, c_BadText⟩) m_Ties_sign_at T TC 
  have M_Ties_ways_at := ok_meth_Ties_ways_at (P := l.prog) (w := w) (base := base) (A := ⟨c_Layer, c_Ties, c_MapError, c_BadSheet, c_BadPlace, c_BadCell, c_BadWindow, c_NoSheet, c_NoWay, c_NoName, c_TooMany, c_BadLine, c_BadText⟩) m_Ties_ways_at T TC F_ways_in F_bits_of M_Ties_sign_at
  have F__law_whole_right := ok_fn__law_whole_right (P := l.prog) (w := w) (base := base) (A := ⟨c_Layer, c_Ties, c_MapError, c_BadSheet, c_BadPlace, c_BadCell, c_BadWindow, c_NoSheet, c_NoWay, c_NoName, c_TooMany, c_BadLine, c_BadText⟩) D__law_whole_right T TC N_Ties M_Ties_edge M_Ties_ways_at
  exact (ok_law (P := l.prog) (w := w) (base := base) (A := ⟨c_Layer, c_Ties, c_MapError, c_BadSheet, c_BadPlace, c_BadCell, c_BadWindow, c_NoSheet, c_NoWay, c_NoName, c_TooMany, c_BadLine, c_BadText⟩) F T TC F__law_state F__law_ties F__law_take F__law_spoilt N_Ties F__law_quarter F__law_clash_right F__law_refused F__law_whole_right).imp (law_sp TC.d_all)
theorem walk {l : PySem.W.OpenLaw} {q : Program} {loose : List Str} {XP : (Str → Option Value) → Heap → Prop} {YP : World → Heap → Prop} {d : DefRec} {K : Params → PySem.W.Frag} (hn : l.most = some 63) (hdf : d.params.defaults = [])
    (hY : ∀ (w : World) (h : Heap), YP w h → (K w.params).In h)
    (F : ∀ (w : World) (mg : Str → Option Value) (fa : Addr) (h : Heap), (K w.params).In h → h.Ns mainGlobals mg → mg d.name = some (.ref fa) →
      ∃ fd : FuncData, (∀ (s : Shared) (u : Value), BindsTo s fd ⟨[u], []⟩ [("_law_script", u)]) ∧ ∀ base : Heap, (K w.params).In base → base.Ns mainGlobals mg → FnOk l.prog w (K w.params) mg base (L2.CX l.prog w) 8 fa fd ["_law_script"] (spLaw (K w.params))) :
    PySem.W.WalkO q loose XP YP l.row.toRowW d [] (fun f vs => PySem.call f vs) :=
  L2.walk_ofB (n := 63) (k := 8) (x := "_law_script") (CX := fun w => L2.CX l.prog w) (sp := fun w => spLaw (K w.params)) hn (by decide) hdf ⟨rfl, by decide, by decide⟩ hY F (fun _ _ a ns hl hb _ hS => ⟨a, ns, rfl, hS, hl, hb, fun _ => rfl⟩) fun _ _ _ _ _ z => by
    obtain ⟨_, _, _, _, _, _, _, _, _, _, _, _, z⟩ := z
    exact z
end S
open PySem PySem.W PyProof.Rows
set_option maxRecDepth 100000 in
set_option maxHeartbeats 0 in
theorem PySem.Challenge.cw_sheetland_k06_whole_four_laid_together_holds : PySem.Challenge.rw_sheetland_k06_whole_four_laid_together.Holds := by
  w_on; o_law; k_head; (case hw => w_witness2)
  k_fill
  refine S.walk (l := PySem.Challenge.rw_sheetland_k06_whole_four_laid_together) rfl rfl (fun w h Y => PySem.W.kIn_of Y) ?F
  case F =>
    intro w mg fa h KX G hmg
    refine' S.all_mk KX G hmg ?gc_Layer ?pg_Layer ?hd_Layer ?po_Layer ?sa_Layer ?ha_Layer ?hn_Layer ?tk_Layer ?hm_Layer ?na_Layer_lines ?gc_Ties ?pg_Ties ?hd_Ties ?po_Ties ?sa_Ties ?ha_Ties ?hn_Ties ?tk_Ties ?hm_Ties ?na_Ties_lines ?ko_Layer_Layer ?ko_Layer_Ties ?ko_Ties_Layer ?ko_Ties_Ties ?gc_MapError ?gc_BadSheet ?gc_BadPlace ?gc_BadCell ?gc_BadWindow ?gc_NoSheet ?gc_NoWay ?gc_NoName ?gc_TooMany ?gc_BadLine ?gc_BadText ?xn ?xk ?xb ?xd ?xt ?xq_BadSheet ?xkp_BadSheet ?xb_BadSheet ?xt_BadSheet ?xhg_BadSheet ?xhk_BadSheet ?xhd_BadSheet ?xha_BadSheet ?xhm_BadSheet ?ko_BadSheet_MapError ?ko_BadSheet_BadSheet ?ko_BadSheet_BadPlace ?ko_BadSheet_BadCell ?ko_BadSheet_BadWindow ?ko_BadSheet_NoSheet ?ko_BadSheet_NoWay ?ko_BadSheet_NoName ?ko_BadSheet_TooMany ?ko_BadSheet_BadLine ?ko_BadSheet_BadText ?kv_BadSheet ?se_BadSheet ?dall ?m_Ties_clash ?m_Ties_edge ?m_Ties_sign_at ?m_Ties_signs_along ?m_Ties_ways_at ?cf_Layer___init__ ?in_Ties ?d__law_state ?d__law_mixed ?d__law_take ?d__law_bits ?d__law_ties ?d__law_turned ?d__law_spoilt ?d_is_among ?d_is_size ?d_are_rows ?d_bit_of ?d_ways_in ?d_bits_of ?d_has_way ?d_agrees ?d__law_quarter ?d_against ?d__law_whole ?d__law_clash_right ?d__law_word ?d__law_refused ?d__law_whole_right ?d_law ?b_ValueError ?b_all ?b_bool ?b_enumerate ?b_int ?b_isinstance ?b_len ?b_list ?b_min ?b_range ?b_sorted ?b_str ?b_zip ?g_LEAST_SIZE ?r_LEAST_SIZE ?g_MOST_SIZE ?r_MOST_SIZE ?g_SIXTEENS ?r_SIXTEENS ?g_WAYS ?r_WAYS
    (case gc_Layer => k_is)
    (case pg_Layer => k_is)
    (case hd_Layer => k_is)
    (case po_Layer => k_is)
    (case sa_Layer => k_is)
    (case ha_Layer => k_is)
    (case hn_Layer => k_is)
    (case tk_Layer => k_is)
    (case hm_Layer => k_is)
    (case na_Layer_lines => k_is)
    (case gc_Ties => k_is)
    (case pg_Ties => k_is)
    (case hd_Ties => k_is)
    (case po_Ties => k_is)
    (case sa_Ties => k_is)
    (case ha_Ties => k_is)
    (case hn_Ties => k_is)
    (case tk_Ties => k_is)
    (case hm_Ties => k_is)
    (case na_Ties_lines => k_is)
    (case ko_Layer_Layer => kit_is)
    (case ko_Layer_Ties => kit_is)
    (case ko_Ties_Layer => kit_is)
    (case ko_Ties_Ties => kit_is)
    (case gc_MapError => k_is)
    (case gc_BadSheet => k_is)
    (case gc_BadPlace => k_is)
    (case gc_BadCell => k_is)
    (case gc_BadWindow => k_is)
    (case gc_NoSheet => k_is)
    (case gc_NoWay => k_is)
    (case gc_NoName => k_is)
    (case gc_TooMany => k_is)
    (case gc_BadLine => k_is)
    (case gc_BadText => k_is)
    (case xn => k_is)
    (case xk => k_is)
    (case xb => k_is)
    (case xd => k_is)
    (case xt => k_is)
    (case xq_BadSheet => k_exc)
    (case xkp_BadSheet => k_is)
    (case xb_BadSheet => k_is)
    (case xt_BadSheet => k_is)
    (case xhg_BadSheet => k_is)
    (case xhk_BadSheet => k_is)
    (case xhd_BadSheet => k_is)
    (case xha_BadSheet => k_is)
    (case xhm_BadSheet => k_is)
    (case ko_BadSheet_MapError => kit_is)
    (case ko_BadSheet_BadSheet => kit_is)
    (case ko_BadSheet_BadPlace => kit_is)
    (case ko_BadSheet_BadCell => kit_is)
    (case ko_BadSheet_BadWindow => kit_is)
    (case ko_BadSheet_NoSheet => kit_is)
    (case ko_BadSheet_NoWay => kit_is)
    (case ko_BadSheet_NoName => kit_is)
    (case ko_BadSheet_TooMany => kit_is)
    (case ko_BadSheet_BadLine => kit_is)
    (case ko_BadSheet_BadText => kit_is)
    (case kv_BadSheet => kit_is)
    (case se_BadSheet => k_is)
    (case dall => decide)
    (case m_Ties_clash => (refine' S.meth_mk ?a ?i ?l ?c ?k; (case a => k_is); (case i => k_is); (case l => k_is); (case c => k_is); (case k => k_is)))
    (case m_Ties_edge => (refine' S.meth_mk ?a ?i ?l ?c ?k; (case a => k_is); (case i => k_is); (case l => k_is); (case c => k_is); (case k => k_is)))
    (case m_Ties_sign_at => (refine' S.meth_mk ?a ?i ?l ?c ?k; (case a => k_is); (case i => k_is); (case l => k_is); (case c => k_is); (case k => k_is)))
    (case m_Ties_signs_along => (refine' S.meth_mk ?a ?i ?l ?c ?k; (case a => k_is); (case i => k_is); (case l => k_is); (case c => k_is); (case k => k_is)))
    (case m_Ties_ways_at => (refine' S.meth_mk ?a ?i ?l ?c ?k; (case a => k_is); (case i => k_is); (case l => k_is); (case c => k_is); (case k => k_is)))
    (case cf_Layer___init__ => (refine' S.cfun_mk (mc := .type "type") ?r ?g ?a ?l ?c ?k; (case r => k_is); (case g => k_is); (case a => k_is); (case l => k_is); (case c => k_is); (case k => k_is)))
    (case in_Ties => (refine' S.init_mk ?m ?a ?i ?kc ?l ?c ?k; (case m => k_is); (case a => k_is); (case i => k_is); (case kc => k_is); (case l => k_is); (case c => k_is); (case k => k_is)))
    (case d__law_state => (refine' S.def_mk ?a ?l ?c ?k; (case a => k_is); (case l => k_is); (case c => k_is); (case k => k_is)))
    (case d__law_mixed => (refine' S.def_mk ?a ?l ?c ?k; (case a => k_is); (case l => k_is); (case c => k_is); (case k => k_is)))
    (case d__law_take => (refine' S.def_mk ?a ?l ?c ?k; (case a => k_is); (case l => k_is); (case c => k_is); (case k => k_is)))
    (case d__law_bits => (refine' S.def_mk ?a ?l ?c ?k; (case a => k_is); (case l => k_is); (case c => k_is); (case k => k_is)))
    (case d__law_ties => (refine' S.def_mk ?a ?l ?c ?k; (case a => k_is); (case l => k_is); (case c => k_is); (case k => k_is)))
    (case d__law_turned => (refine' S.def_mk ?a ?l ?c ?k; (case a => k_is); (case l => k_is); (case c => k_is); (case k => k_is)))
    (case d__law_spoilt => (refine' S.def_mk ?a ?l ?c ?k; (case a => k_is); (case l => k_is); (case c => k_is); (case k => k_is)))
    (case d_is_among => (refine' S.def_mk ?a ?l ?c ?k; (case a => k_is); (case l => k_is); (case c => k_is); (case k => k_is)))
    (case d_is_size => (refine' S.def_mk ?a ?l ?c ?k; (case a => k_is); (case l => k_is); (case c => k_is); (case k => k_is)))
    (case d_are_rows => (refine' S.def_mk ?a ?l ?c ?k; (case a => k_is); (case l => k_is); (case c => k_is); (case k => k_is)))
    (case d_bit_of => (refine' S.def_mk ?a ?l ?c ?k; (case a => k_is); (case l => k_is); (case c => k_is); (case k => k_is)))
    (case d_ways_in => (refine' S.def_mk ?a ?l ?c ?k; (case a => k_is); (case l => k_is); (case c => k_is); (case k => k_is)))
    (case d_bits_of => (refine' S.def_mk ?a ?l ?c ?k; (case a => k_is); (case l => k_is); (case c => k_is); (case k => k_is)))
    (case d_has_way => (refine' S.def_mk ?a ?l ?c ?k; (case a => k_is); (case l => k_is); (case c => k_is); (case k => k_is)))
    (case d_agrees => (refine' S.def_mk ?a ?l ?c ?k; (case a => k_is); (case l => k_is); (case c => k_is); (case k => k_is)))
    (case d__law_quarter => (refine' S.def_mk ?a ?l ?c ?k; (case a => k_is); (case l => k_is); (case c => k_is); (case k => k_is)))
    (case d_against => (refine' S.def_mk ?a ?l ?c ?k; (case a => k_is); (case l => k_is); (case c => k_is); (case k => k_is)))
    (case d__law_whole => (refine' S.def_mk ?a ?l ?c ?k; (case a => k_is); (case l => k_is); (case c => k_is); (case k => k_is)))
    (case d__law_clash_right => (refine' S.def_mk ?a ?l ?c ?k; (case a => k_is); (case l => k_is); (case c => k_is); (case k => k_is)))
    (case d__law_word => (refine' S.def_mk ?a ?l ?c ?k; (case a => k_is); (case l => k_is); (case c => k_is); (case k => k_is)))
    (case d__law_refused => (refine' S.def_mk ?a ?l ?c ?k; (case a => k_is); (case l => k_is); (case c => k_is); (case k => k_is)))
    (case d__law_whole_right => (refine' S.def_mk ?a ?l ?c ?k; (case a => k_is); (case l => k_is); (case c => k_is); (case k => k_is)))
    (case d_law => (refine' S.def_mk ?a ?l ?c ?k; (case a => k_is); (case l => k_is); (case c => k_is); (case k => k_is)))
    (case b_ValueError => k_is)
    (case b_all => k_is)
    (case b_bool => k_is)
    (case b_enumerate => k_is)
    (case b_int => k_is)
    (case b_isinstance => k_is)
    (case b_len => k_is)
    (case b_list => k_is)
    (case b_min => k_is)
    (case b_range => k_is)
    (case b_sorted => k_is)
    (case b_str => k_is)
    (case b_zip => k_is)
    (case g_LEAST_SIZE => k_is)
    (case r_LEAST_SIZE => exact ⟨_, rfl⟩)
    (case g_MOST_SIZE => k_is)
    (case r_MOST_SIZE => exact ⟨_, rfl⟩)
    (case g_SIXTEENS => k_is)
    (case r_SIXTEENS => exact ⟨_, rfl⟩)
    (case g_WAYS => k_is)
    (case r_WAYS => exact ⟨_, rfl⟩)

