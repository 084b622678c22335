import PyProof.Rows.All
import Wide.All
import OpenK.AllK
import Wide.FinOn
import HandS.ForMost
import HandS.ForExc
import HandS.Flow
import HandS.IsInst
import HandS.StrMore
import HandS.Replace
import HandS.FStr
import HandS.TupAny
import HandS.Walk
import HandS.Zip
import KE.GoesMore
import HandS.ClsMeth
import KE.RegKIsAll
import HandS.WordsExc
import HandS.ExcIs
import PyProof.ListStr
import PyProof.StrOps2
import HandS.Conv
import PySem.Challenge.RW_sheetland_k03_grounds
set_option Elab.async false
set_option maxRecDepth 100000
set_option linter.all false
namespace S
open PySem L2

/-! ### names of the module -/
/-- the module's name x holds v -/
def GV (mg : Str → Option Value) (x : Str) (v : V) : Prop := ∃ u, mg x = some u ∧ RelV v u
theorem pe_gl {X : Cx} {x : Str} {v : V} {pos : Pos} (hg : Gl X x) (h : GV X.mg x v) (hd : (x == ("__debug__" : Str)) = false := by decide) : PE X (.Name x pos) (tC v) := by
  obtain ⟨u, hm, r⟩ := h
  exact pe_glob hg hm r hd

/-! ### a def that stands in the text and keeps its promise -/
def Has (P : Program) (w : World) (K : PySem.W.Frag) (mg : Str → Option Value) (base : Heap) (CX : CXT) (k : Nat) (x : Str) (ps : List Str) (sp : Sp) : Prop :=
  ∃ (f : Addr) (fd : FuncData), FnOk P w K mg base CX k f fd ps sp ∧ mg x = some (.ref f) ∧ PySem.W.keepIn K (.ref f) = true ∧ Binds K fd ps []
theorem pe_fn {X : Cx} {j k : Nat} {x : Str} {ps : List Str} {sp : Sp} {e : Expr} {es : List Expr} {t : TA} {p pos : Pos} (h : Has X.prog X.w X.K X.mg X.base CX0 k x ps sp) (hr : Room j X.A) (hk : k ≤ j) (hg : Gl X x) (ha : PA X (e :: es) t)
    (hdb : (x == ("__debug__" : Str)) = false := by decide) (he : starEach (e :: es) X.env = (false, eval e X.env) :: starEach es X.env := by rfl) (hpl : (backTo pos (starEach es X.env)).any (·.1) = false := by rfl) :
    PE X (.Call (.Name x p) (e :: es) [] pos) (tCall sp [] E0 t) := by
  obtain ⟨f, fd, G, hm, kp, b⟩ := h
  exact pe_call G (hr.mono hk) hg hm kp b .nil pass0 ha hdb he hpl
theorem pe_fn0 {X : Cx} {j k : Nat} {x : Str} {ps : List Str} {sp : Sp} {p pos : Pos} (h : Has X.prog X.w X.K X.mg X.base CX0 k x ps sp) (hr : Room j X.A) (hk : k ≤ j) (hg : Gl X x)
    (hdb : (x == ("__debug__" : Str)) = false := by decide) : PE X (.Call (.Name x p) [] [] pos) (tCall sp [] E0 tNil) := by
  obtain ⟨f, fd, G, hm, kp, b⟩ := h
  exact pe_call0 G (hr.mono hk) hg hm kp b .nil pass0 hdb

/-- a def of the text, as the top has left it -/
def DefIn (K : PySem.W.Frag) (x : Str) (st : Stmt) : Prop := ∃ (f : Addr) (fd : FuncData), Fun K x x st f fd ∧ PySem.W.nsIn K mainGlobals x = some (some (.ref f))
theorem def_mk {K : PySem.W.Frag} {x : Str} {st : Stmt} {f : Addr} {oc : Value} {od an : Option Addr} {osl : Array (Option Value)} {kV doc pm cdv ct : Value} (a : PySem.W.nsIn K mainGlobals x = some (some (.ref f)))
    (l : K.lookup f = some ⟨oc, od, .func (PySem.W.fnOf x x (defArgs st) (defBody st) (defScope st) .none kV doc pm an cdv ct), osl⟩) (c : PySem.W.codeIn K cdv x = true) (k : PySem.W.keepIn K (.ref f) = true) : DefIn K x st := ⟨f, _, fun_mk l c k, a⟩
/-- the def as a module's function -/
structure FnIn (K : PySem.W.Frag) (mg : Str → Option Value) (x : Str) (st : Stmt) : Prop where
  ex : ∃ (f : Addr) (fd : FuncData), Fun K x x st f fd ∧ mg x = some (.ref f)
theorem DefIn.fn {K : PySem.W.Frag} {x : Str} {st : Stmt} {h : Heap} {mg : Str → Option Value} (d : DefIn K x st) (X : K.In h) (G : h.Ns mainGlobals mg) : FnIn K mg x st := by
  obtain ⟨f, fd, F, a⟩ := d
  exact ⟨f, fd, F, PySem.W.mg_of X G a⟩
section
variable {P : Program} {w : World} {K : PySem.W.Frag} {mg : Str → Option Value} {base : Heap}
theorem FnIn.ok {x : Str} {st : Stmt} {N ps : List Str} {k : Nat} {sp : Sp} (F : FnIn K mg x st) (S : FnScope N ps (defScope st)) (len : ∀ vs H Q E, sp vs H Q E → vs.length = ps.length)
    (hb : ∀ (kV doc pm : Value) (an : Option Addr) (cdv ct : Value) (us : List Value), us.length = ps.length → bindArgs (PySem.W.fnOf x x (defArgs st) (defBody st) (defScope st) .none kV doc pm an cdv ct) ⟨us, []⟩ = pure (ps.zip us))
    (hbody : ∀ (f : Addr) (cdv : Value) (A : Around) (outer : List Env) (s : Shared) (H : Hp) (vs : List V) (Q : VK) (E : XK), Room k (A.deeper (PyProof.Rows.envOfC x (defScope st) s.heap.objs.size f cdv)) → sp vs H Q E →
      ∃ t, PSs (cxOf CX0 P w K mg base N x (defScope st) f cdv A outer s H E).nox (defBody st) t ∧ t { nx := fun _ H' => Q .non H', rt := Q } (start N vs) H) : Has P w K mg base CX0 (k + 1) x ps sp := by
  obtain ⟨f, fd, F, hm⟩ := F.ex
  exact ⟨f, fd, F.ok S len (hbody f), hm, F.kp, F.binds hb⟩
end

/-! ### the rules with the written part by its name (within comprehensions the context differs) -/
section
variable {X : Cx} {tg e e2 l o : Expr} {es : List Expr} {ta te tl to : TE} {tas : TA} {pos p apos tpos : Pos} {kk : Nat} {elts : List Expr} (K : PySem.W.Frag)
theorem call_isiK' (h : X.K = K := by rfl) : CallR X (.builtin "isinstance") (rIsi K) := h ▸ call_isi
theorem cr_allK (hc : X.calm = true) (h : X.K = K := by rfl) : CallR X (.builtin "all") (rAll K) := h ▸ cr_all hc
theorem cr_anyK (hc : X.calm = true) (h : X.K = K := by rfl) : CallR X (.builtin "any") (rAny K) := h ▸ cr_any hc
theorem cr_sumK (hc : X.calm = true) (h : X.K = K := by rfl) : CallR X (.builtin "sum") (rSum K) := h ▸ cr_sum hc
theorem cr_minK' (hc : X.calm = true) (h : X.K = K := by rfl) : CallR X (.builtin "min") (rMin K) := h ▸ cr_min hc
theorem cr_maxK' (hc : X.calm = true) (h : X.K = K := by rfl) : CallR X (.builtin "max") (rMax K) := h ▸ cr_max hc
theorem call_lenK (h : X.K = K := by rfl) : CallR X (.builtin "len") (fun xs H Q => ∃ x n, xs = [x] ∧ LenV K x H n ∧ Q (.int n) H) := h ▸ call_len
theorem call_list_ofK (h : X.K = K := by rfl) : CallR X (.type "list") (fun xs H Q => ∃ p ys, xs = [.ref p] ∧ (SqL K H p ys ∨ SqT K H p ys) ∧ ∀ l, H l = none → Q (.ref l) (upd H l (.lst ys))) := h ▸ call_list_of
theorem call_tuple_ofK (h : X.K = K := by rfl) : CallR X (.type "tuple") (fun xs H Q => ∃ p ys, xs = [.ref p] ∧ ((SqL K H p ys ∧ ∀ l, H l = none → Q (.ref l) (upd H l (.tup ys))) ∨ (SqT K H p ys ∧ Q (.ref p) H))) := h ▸ call_tuple_of
theorem ix_listK (h : X.K = K := by rfl) : IxR X (rIxL K) := h ▸ ix_list
theorem ix_tupK (h : X.K = K := by rfl) : IxR X (rIxT K) := h ▸ ix_tup
theorem op_eqDK (hu : X.A.units + 64 < cLine) (h : X.K = K := by rfl) : OpR X (compareOp .Eq) (rEqD K) := h ▸ op_eqD hu
theorem op_neDK (hu : X.A.units + 64 < cLine) (h : X.K = K := by rfl) : OpR X (compareOp .NotEq) (rNeD K) := h ▸ op_neD hu
theorem op_in_seqK (h : X.K = K := by rfl) : OpR X (compareOp .In) (rIn K false) := h ▸ op_in_seq
theorem op_notIn_seqK (h : X.K = K := by rfl) : OpR X (compareOp .NotIn) (rIn K true) := h ▸ op_notIn_seq
theorem op_catAK (h : X.K = K := by rfl) : OpR X (binaryOp .Add) (rCatA K) := h ▸ op_catA
theorem op_ltTK (hu : X.A.units < cLine) (h : X.K = K := by rfl) : OpR X (compareOp .Lt) (rLtT K) := h ▸ op_ltT hu
theorem sl_listK (h : X.K = K := by rfl) : SlR X (rSlL K) := h ▸ sl_list
theorem sl_tupAK (h : X.K = K := by rfl) : SlR X (rSlA K) := h ▸ sl_tupA
theorem pe_joinK (ho : PE X o to) (he : PE X e te) (h : X.K = K := by rfl) (hs : starEach [e] X.env = [(false, eval e X.env)] := by rfl) (hbase : attributeBase o "join" X.env (eval o X.env) = eval o X.env := by rfl) (hline : (apos.endLine == pos.line) = true := by rfl) :
    PE X (.Call (.Attribute o "join" apos) [e] [] pos) (tM1 (fun x xs H Q => ∃ a p, ∃ ys : List Str, x = .str a ∧ xs = [.ref p] ∧ (SqL K H p (ys.map V.str) ∨ SqT K H p (ys.map V.str)) ∧ (ys.map (·.length)).sum + ys.length * a.length ≤ 16777216 ∧ Q (.str (Txt.join a ys)) H) to te) := h ▸ pe_join ho he hs hbase hline
theorem pe_fldK {f : Str} (he : PE X e ta) (hb : attributeBase e f X.env (eval e X.env) = eval e X.env) (h : X.K = K := by rfl) : PE X (.Attribute e f pos) (tFld K ta f) := h ▸ pe_fld he hb
theorem pi_listK (hl : PE X l tl) (h : X.K = K := by rfl) : PI X tg l (iList K tl) := h ▸ pi_list hl
theorem pi_tupK (hl : PE X l tl) (h : X.K = K := by rfl) : PI X tg l (iTup K tl) := h ▸ pi_tup hl
theorem pi_enumK (hg : Gl X "enumerate") (hm : X.mg "enumerate" = none) (ha : PA X [e] tas) (h : X.K = K := by rfl) (hs : starEach [e] X.env = [(false, eval e X.env)] := by rfl) : PI X (.Tuple elts kk tpos) (.Call (.Name "enumerate" p) [e] [] pos) (iEnum K tas) := h ▸ pi_enum hg hm ha hs
theorem pi_zipK (hg : Gl X "zip") (hm : X.mg "zip" = none) (ha : PA X [e, e2] tas) (h : X.K = K := by rfl) (hs : starEach [e, e2] X.env = (false, eval e X.env) :: starEach [e2] X.env := by rfl) (hpl : (backTo pos (starEach [e2] X.env)).any (·.1) = false := by rfl) :
    PI X (.Tuple elts kk tpos) (.Call (.Name "zip" p) [e, e2] [] pos) (iZip K tas) := h ▸ pi_zip hg hm ha hs hpl
theorem pg_tupK {n : Nat} {t : TGs} (hc : X.calm = true) (ht : PGs X es t) (h : X.K = K := by rfl) (hn : (assignEach es X.env).length = n := by rfl) (hst : (assignEach es X.env).findIdx? (·.1) = none := by rfl) : PG X (.Tuple es kk pos) (gTup K n t) := h ▸ pg_tup hc ht hn hst
theorem pe_bmK {t : TA} {name : Str} {cpos : Pos} {T id : String} {r : V → List V → Hp → VK → Prop} (pa : PlainAttrs T) (slot : Slot T name id) (hty : typeOf (.builtin id) = pure (.type "method_descriptor")) (hm : MtR X id r) (ho : PE X o to) (ha : PA X (e :: es) t) (h : X.K = K := by rfl)
    (hbase : attributeBase o name X.env (eval o X.env) = eval o X.env := by rfl)
    (hfew : ((backTo cpos (starEach (e :: es) X.env)).all (fun x => !x.1) && (backToKw cpos (keywordEach [] X.env)).all (fun x => x.1.isSome) && decide ((e :: es).length + ([] : List Keyword).length + (if ([] : List Keyword).isEmpty then 0 else 1) < 30)) = true := by rfl)
    (hline : (apos.endLine == cpos.line) = true := by rfl) (hs : starEach (e :: es) X.env = (false, eval e X.env) :: starEach es X.env := by rfl) (hplain : (backTo cpos (starEach es X.env)).any (·.1) = false := by rfl) :
    PE X (.Call (.Attribute o name apos) (e :: es) [] cpos) (tBM K T r to t) := h ▸ pe_bm pa slot hty hm ho ha hbase hfew hline hs hplain
theorem pe_bm0K {name : Str} {cpos : Pos} {T id : String} {r : V → List V → Hp → VK → Prop} (pa : PlainAttrs T) (slot : Slot T name id) (hty : typeOf (.builtin id) = pure (.type "method_descriptor")) (hm : MtR X id r) (ho : PE X o to) (h : X.K = K := by rfl)
    (hbase : attributeBase o name X.env (eval o X.env) = eval o X.env := by rfl) (hline : (apos.endLine == cpos.line) = true := by rfl) : PE X (.Call (.Attribute o name apos) [] [] cpos) (tBM0 K T r to) := h ▸ pe_bm0 pa slot hty hm ho hbase hline
end

/-! ### the law's end -/
theorem end_mk {P : Program} {w : World} {K : PySem.W.Frag} {mg : Str → Option Value} {x : Str} {st : Stmt} {fa : Addr} {y : Str} {k : Nat} {CX : CXT} {sp : Sp} (F : FnIn K mg x st) (hfa : mg x = some (.ref fa))
    (hb : ∀ (kV doc pm : Value) (an : Option Addr) (cdv ct : Value) (v : Value), bindArgs (PySem.W.fnOf x x (defArgs st) (defBody st) (defScope st) .none kV doc pm an cdv ct) ⟨[v], []⟩ = pure [(y, v)])
    (ok : ∀ (fd : FuncData), Fun K x x st fa fd → ∀ base : Heap, FnOk P w K mg base CX k fa fd [y] sp) :
    ∃ fd : FuncData, (∀ (s : Shared) (v : Value), BindsTo s fd ⟨[v], []⟩ [(y, v)]) ∧ ∀ base : Heap, K.In base → base.Ns mainGlobals mg → FnOk P w K mg base CX k fa fd [y] sp := by
  obtain ⟨f, fd, F, hm⟩ := F.ex
  have e := hfa.symm.trans hm
  cases e
  refine ⟨fd, fun s v => ?_, fun base _ _ => ok fd F base⟩
  obtain ⟨oc, od, kV, doc, pm, an, cdv, ct, osl, rfl, lk, hcd⟩ := F.ex
  exact .of_eq (hb kV doc pm an cdv ct v)
theorem gv_mk {K : PySem.W.Frag} {h : Heap} {mg : Str → Option Value} {x : Str} {v : V} {u : Value} (X : K.In h) (G : h.Ns mainGlobals mg) (a : PySem.W.nsIn K mainGlobals x = some (some u)) (r : RelV v u) : GV mg x v := ⟨u, PySem.W.mg_of X G a, r⟩

/-! ### a statement, then the rest, with a word between them -/
def tCut (t u : TS) : TS := fun D σ H => ∃ Mid : St → Hp → Prop, t { D with nx := Mid } σ H ∧ ∀ σ' H', Mid σ' H' → u D σ' H'
theorem pss_cut {X : Cx} {st : Stmt} {rest : List Stmt} {t u : TS} (h1 : PS X st t) (h2 : PSs X rest u) : PSs X (st :: rest) (tCut t u) := by
  refine ⟨fun pins s σ H D I h => ?_⟩
  obtain ⟨Mid, hm, hu⟩ := h
  refine wpAny_execs_cons (thn (h1.run pins s σ H { D with nx := Mid } I hm) fun f s1 q => ?_)
  cases f with
  | next =>
    obtain ⟨σ', H', I', q⟩ := q
    exact h2.run pins s1 σ' H' D I' (hu σ' H' q)
  | ret v => exact q
  | brk => exact q
  | cont => exact q
abbrev ks (x : Str) : Key := Sum.inr x
theorem dget {H : Hp} {a : Addr} {kvs : List (Key × V)} {x : Str} {v : V} (h : H a = some (.dK kvs)) (e : valV kvs (ks x) = some v) : DGet H a (.str x) (some v) := by
  have q := DGet.k (k := ks x) h
  rw [e] at q
  exact q
theorem dput {H : Hp} {a : Addr} {kvs kvs' : List (Key × V)} {x : Str} {v : V} (h : H a = some (.dK kvs)) (hl : kvs.length < sizeLine) (e : putK kvs (ks x) v = kvs') : DPut H a (.str x) v (upd H a (.dK kvs')) := by
  have q := DPut.k (k := ks x) (v := v) h hl
  rw [e] at q
  exact q
/-- the tests' answer is known -/
theorem ite_pos {c : Bool} {A B : Prop} (e : c = true) (h : A) : if c = true then A else B := by rw [if_pos e]; exact h
theorem ite_neg {c : Bool} {A B : Prop} (e : c = false) (h : B) : if c = true then A else B := by rw [if_neg (by rw [e]; decide)]; exact h
theorem ite_both {c : Bool} {A B : Prop} (h1 : c = true → A) (h2 : c = false → B) : if c = true then A else B := by
  cases c with
  | true => exact iteT (h1 rfl)
  | false => exact iteF (h2 rfl)
theorem szn (n : Nat) (h : n ≤ 1000 := by decide) : n ≤ sizeLine := Nat.le_trans h (by decide)
theorem szt (n : Nat) (h : n < 1000 := by decide) : n < sizeLine := Nat.lt_of_lt_of_le h (by decide)
/-! ### items by place -/
theorem atI_in {α : Type} {xs : List α} {i : Int} (h0 : 0 ≤ i) (h1 : i < (xs.length : Int)) : ∃ x, atI xs i = some x ∧ xs[i.toNat]? = some x := by
  have hl : i.toNat < xs.length := by omega
  refine ⟨xs[i.toNat], ?_, by simp [hl]⟩
  have e : ((i.toNat : Nat) : Int) = i := Int.toNat_of_nonneg h0
  have q := atI_nat (xs := xs) (j := i.toNat) (v := xs[i.toNat]) (by simp [hl])
  rw [e] at q
  exact q

/-- a written list, item by item -/
theorem atI0 {α : Type} {a : α} {l : List α} : atI (a :: l) 0 = some a := atI_nat (j := 0) rfl
theorem atI1 {α : Type} {a b : α} {l : List α} : atI (a :: b :: l) 1 = some b := atI_nat (j := 1) rfl
theorem atI2 {α : Type} {a b c : α} {l : List α} : atI (a :: b :: c :: l) 2 = some c := atI_nat (j := 2) rfl
theorem atI3 {α : Type} {a b c d : α} {l : List α} : atI (a :: b :: c :: d :: l) 3 = some d := atI_nat (j := 3) rfl

/-! ### heaps -/
theorem same_new {H : Hp} {p : Addr} {o : HO} (h : H p = none) : Same H (upd H p o) := fun a u e => by
  rw [upd_ne (ne_of_none e h)]
  exact e
theorem same_tup {K : PySem.W.Frag} {H H' : Hp} {a : Addr} {xs : List V} (e : Same H H') (h : SqT K H a xs) : SqT K H' a xs := by
  rcases h with (h | ⟨o, h⟩) | h
  · exact .inl (.inl (e _ _ h))
  · exact .inl (.inr ⟨o, e _ _ h⟩)
  · exact .inr h
/-! ### data: what stands at a value, by its kind; dicts with int and text keys too -/
def keyD : Key → PyData
  | .inl i => .int i
  | .inr x => .str x
/-- an exception of the class at C, without a dict, that was caught -/
def excφ (a C : Addr) : Heap → Prop := fun h => ∃ oe vs, h.get? a = some oe ∧ oe.cls = .ref C ∧ oe.dict = none ∧ oe.data = .fields vs
mutual
inductive Dt (K : PySem.W.Frag) (G : Hp) : V → PyData → Prop
  | non : Dt K G .non .none
  | bl (b : Bool) : Dt K G (.bl b) (.bool b)
  | int (i : Int) : Dt K G (.int i) (.int i)
  | str (x : Str) : Dt K G (.str x) (.str x)
  | lst {a : Addr} {xs : List V} {ds : List PyData} : G a = some (.lst xs) → DtAll K G xs ds → Dt K G (.ref a) (.list ds)
  | tup {a : Addr} {xs : List V} {ds : List PyData} : SqT K G a xs → DtAll K G xs ds → Dt K G (.ref a) (.tuple ds)
  | dct {a : Addr} {kvs : List (Key × V)} {ds : List (PyData × PyData)} : G a = some (.dK kvs) → DtKvs K G kvs ds → Dt K G (.ref a) (.dict ds)
  | obj {a C dx : Addr} {fs : List (Str × V)} {ds : List (PyData × PyData)} : G a = some (.ins C dx fs) → DtFs K G fs ds → Dt K G (.ref a) (.dict ((.none, .int (C : Nat)) :: ds))
  | exc {a C : Addr} : G a = some (.ext (excφ a C)) → Dt K G (.ref a) (.dict [(.bool true, .int (C : Nat))])
inductive DtAll (K : PySem.W.Frag) (G : Hp) : List V → List PyData → Prop
  | nil : DtAll K G [] []
  | cons {v : V} {vs : List V} {d : PyData} {ds : List PyData} : Dt K G v d → DtAll K G vs ds → DtAll K G (v :: vs) (d :: ds)
inductive DtKvs (K : PySem.W.Frag) (G : Hp) : List (Key × V) → List (PyData × PyData) → Prop
  | nil : DtKvs K G [] []
  | cons {k : Key} {v : V} {vs : List (Key × V)} {d : PyData} {ds : List (PyData × PyData)} : Dt K G v d → DtKvs K G vs ds → DtKvs K G ((k, v) :: vs) ((keyD k, d) :: ds)
inductive DtFs (K : PySem.W.Frag) (G : Hp) : List (Str × V) → List (PyData × PyData) → Prop
  | nil : DtFs K G [] []
  | cons {f : Str} {v : V} {vs : List (Str × V)} {d : PyData} {ds : List (PyData × PyData)} : Dt K G v d → DtFs K G vs ds → DtFs K G ((f, v) :: vs) ((.str f, d) :: ds)
end
/-- an instance that is only read: its class, its fields -/
abbrev dExc (C : Addr) : PyData := .dict [(.bool true, .int (C : Nat))]
abbrev dObj (C : Addr) (ds : List (PyData × PyData)) : PyData := .dict ((.none, .int (C : Nat)) :: ds)
mutual
theorem same_dt {K : PySem.W.Frag} {H H' : Hp} (e : Same H H') : ∀ {v : V} {d : PyData}, Dt K H v d → Dt K H' v d
  | _, _, .non => .non
  | _, _, .bl b => .bl b
  | _, _, .int i => .int i
  | _, _, .str x => .str x
  | _, _, .lst h hs => .lst (e _ _ h) (same_dts e hs)
  | _, _, .tup h hs => .tup (same_tup e h) (same_dts e hs)
  | _, _, .dct h hs => .dct (e _ _ h) (same_dtk e hs)
  | _, _, .obj h hs => .obj (e _ _ h) (same_dtf e hs)
  | _, _, .exc h => .exc (e _ _ h)
theorem same_dts {K : PySem.W.Frag} {H H' : Hp} (e : Same H H') : ∀ {vs : List V} {ds : List PyData}, DtAll K H vs ds → DtAll K H' vs ds
  | _, _, .nil => .nil
  | _, _, .cons h hs => .cons (same_dt e h) (same_dts e hs)
theorem same_dtk {K : PySem.W.Frag} {H H' : Hp} (e : Same H H') : ∀ {vs : List (Key × V)} {ds : List (PyData × PyData)}, DtKvs K H vs ds → DtKvs K H' vs ds
  | _, _, .nil => .nil
  | _, _, .cons h hs => .cons (same_dt e h) (same_dtk e hs)
theorem same_dtf {K : PySem.W.Frag} {H H' : Hp} (e : Same H H') : ∀ {vs : List (Str × V)} {ds : List (PyData × PyData)}, DtFs K H vs ds → DtFs K H' vs ds
  | _, _, .nil => .nil
  | _, _, .cons h hs => .cons (same_dt e h) (same_dtf e hs)
end
mutual
/-- without dicts it is the layer's own word -/
theorem dt_dp {K : PySem.W.Frag} {G : Hp} : ∀ {v : V} {d : PyData}, Dt K G v d → d.canLay0 = true → Dp K G v d
  | _, _, .non, _ => .non
  | _, _, .bl b, _ => .bl b
  | _, _, .int i, _ => .int i
  | _, _, .str x, _ => .str x
  | _, _, .lst h hs, c => .lst (SqL.of h) (dts_dps hs (by unfold PyData.canLay0 at c; exact c))
  | _, _, .tup h hs, c => .tup h (dts_dps hs (by unfold PyData.canLay0 at c; exact c))
  | _, _, .dct _ _, c => by unfold PyData.canLay0 at c; cases c
  | _, _, .obj _ _, c => by unfold PyData.canLay0 at c; cases c
  | _, _, .exc _, c => by unfold PyData.canLay0 at c; cases c
theorem dts_dps {K : PySem.W.Frag} {G : Hp} : ∀ {vs : List V} {ds : List PyData}, DtAll K G vs ds → PyData.canLayAll0 ds = true → DpAll K G vs ds
  | _, _, .nil, _ => .nil
  | _, _, .cons h hs, c => by
    unfold PyData.canLayAll0 at c
    simp only [Bool.and_eq_true] at c
    exact .cons (dt_dp h c.1) (dts_dps hs c.2)
end

/-! ### what is known (G, never changed again) within the heap (H); cells that may be written are in H alone -/
/-- from (G, H) to (G', H'): what was known stays known, all that was tracked stands as it was but at M, what is newly known is new -/
structure Ext (M : List Addr) (G H G' H' : Hp) : Prop where
  gg : Same G G'
  gh : Same G' H'
  hh : ∀ a o, H a = some o → a ∉ M → H' a = some o
  nw : ∀ a o, G' a = some o → G a = some o ∨ H a = none
  dm : ∀ a, H' a = none → H a = none
theorem Ext.refl {M : List Addr} {G H : Hp} (gh : Same G H) : Ext M G H G H := ⟨Same.refl G, gh, fun _ _ e _ => e, fun _ _ e => .inl e, fun _ e => e⟩
section
variable {M M' : List Addr} {G H G1 H1 G2 H2 : Hp} {p : Addr} {o o' : HO}
/-- a step: at M' alone things change, each of them in M or new -/
theorem Ext.trans (a : Ext M G H G1 H1) (b : Ext M' G1 H1 G2 H2) (hm : ∀ x ∈ M', x ∈ M ∨ H x = none) : Ext M G H G2 H2 := by
  refine ⟨a.gg.trans b.gg, b.gh, fun x u e n => b.hh x u (a.hh x u e n) fun z => (hm x z).elim n fun q => ?_, fun x u e => ?_, fun x e => a.dm x (b.dm x e)⟩
  · rw [e] at q; cases q
  · rcases b.nw x u e with z | z
    · exact a.nw x u z
    · exact .inr (a.dm x z)
theorem Ext.same (a : Ext M G H G1 H1) (b : Ext [] G1 H1 G2 H2) : Ext M G H G2 H2 := a.trans b fun _ h => nomatch h
theorem Ext.mono (a : Ext M G H G1 H1) (hm : ∀ x ∈ M, x ∈ M' ∨ H x = none) : Ext M' G H G1 H1 := by
  refine ⟨a.gg, a.gh, fun x u e n => a.hh x u e fun z => (hm x z).elim n fun q => ?_, a.nw, a.dm⟩
  rw [e] at q; cases q
/-- a new thing, known from now on -/
theorem Ext.new (gh : Same G H) (h : H p = none) : Ext M G H (upd G p o) (upd H p o) := by
  refine ⟨same_new (gh.free h), fun a u e => ?_, fun a u e _ => same_new h a u e, fun a u e => ?_, fun a e => ?_⟩
  · by_cases q : a = p
    · subst q; rw [upd_same] at e ⊢; exact e
    · rw [upd_ne q] at e ⊢; exact gh a u e
  · by_cases q : a = p
    · subst q; exact .inr h
    · rw [upd_ne q] at e; exact .inl e
  · by_cases q : a = p
    · subst q; exact h
    · rw [upd_ne q] at e; exact e
/-- a new thing that may be written later -/
theorem Ext.cell (gh : Same G H) (h : H p = none) : Ext M G H G (upd H p o) := by
  refine ⟨Same.refl G, fun a u e => same_new h a u (gh a u e), fun a u e _ => same_new h a u e, fun a u e => .inl e, fun a e => ?_⟩
  by_cases q : a = p
  · subst q; exact h
  · rw [upd_ne q] at e; exact e
/-- a cell is written -/
theorem Ext.put (gh : Same G H) (hg : G p = none) (h : H p = some o') : Ext [p] G H G (upd H p o) := by
  refine ⟨Same.refl G, fun a u e => ?_, fun a u e n => ?_, fun a u e => .inl e, fun a e => ?_⟩
  · rw [upd_ne (ne_of_none e hg)]; exact gh a u e
  · have q : a ≠ p := fun z => n (by simp [z])
    rw [upd_ne q]; exact e
  · by_cases q : a = p
    · subst q; rw [upd_same] at e; cases e
    · rw [upd_ne q] at e; exact e
/-- a cell is known from now on -/
theorem Ext.know (gh : Same G H) (h : H p = some o) (hg : G p = none) (e : Ext M G1 H1 G H) (hn : H1 p = none) : Ext M G1 H1 (upd G p o) H := by
  refine ⟨e.gg.trans (same_new hg), fun a u q => ?_, e.hh, fun a u q => ?_, e.dm⟩
  · by_cases z : a = p
    · subst z; rw [upd_same] at q; rw [h, q]
    · rw [upd_ne z] at q; exact gh a u q
  · by_cases z : a = p
    · subst z; exact .inr hn
    · rw [upd_ne z] at q; exact e.nw a u q
/-- nothing that was tracked is changed -/
theorem Ext.quiet (gh : Same G H) (e : Same H H1) : Ext M G H G H1 := ⟨Same.refl G, gh.trans e, fun a u q _ => e a u q, fun _ _ q => .inl q, fun _ q => e.free q⟩
/-- what isn't known and was tracked isn't known later -/
theorem Ext.free (e : Ext M G H G1 H1) (hg : G p = none) (h : H p = some o) : G1 p = none := by
  cases q : G1 p with
  | none => rfl
  | some u =>
    rcases e.nw p u q with z | z
    · rw [hg] at z; cases z
    · rw [h] at z; cases z
theorem Ext.keep (e : Ext M G H G1 H1) (h : H p = some o) (n : p ∉ M) : H1 p = some o := e.hh p o h n
end

/-! ### data -/
section
variable {K : PySem.W.Frag} {G H : Hp} {v : V} {ds : List PyData} {d : PyData}
theorem dt_list (h : Dt K G v (.list ds)) (gh : Same G H) : ∃ a xs, v = .ref a ∧ SqL K H a xs ∧ DtAll K G xs ds := by
  cases h with
  | lst h hs => exact ⟨_, _, rfl, SqL.of (gh _ _ h), hs⟩
theorem dt_lst (h : Dt K G v (.list ds)) (gh : Same G H) : ∃ a xs, v = .ref a ∧ H a = some (.lst xs) ∧ DtAll K G xs ds := by
  cases h with
  | lst h hs => exact ⟨_, _, rfl, gh _ _ h, hs⟩
theorem dt_tuple (h : Dt K G v (.tuple ds)) (gh : Same G H) : ∃ a xs, v = .ref a ∧ SqT K H a xs ∧ DtAll K G xs ds := by
  cases h with
  | tup h hs => exact ⟨_, _, rfl, same_tup gh h, hs⟩
theorem dt_int {i : Int} (h : Dt K G v (.int i)) : v = .int i := by cases h; rfl
theorem dt_str {x : Str} (h : Dt K G v (.str x)) : v = .str x := by cases h; rfl
theorem dt_bool {b : Bool} (h : Dt K G v (.bool b)) : v = .bl b := by cases h; rfl
theorem dt_none (h : Dt K G v .none) : v = .non := by cases h; rfl
theorem dts_len : ∀ {xs : List V} {ds : List PyData}, DtAll K G xs ds → xs.length = ds.length
  | _, _, .nil => rfl
  | _, _, .cons _ h => by simp [dts_len h]
theorem dts_at : ∀ {xs : List V} {ds : List PyData} {i : Nat}, DtAll K G xs ds → ds[i]? = some d → ∃ x, xs[i]? = some x ∧ Dt K G x d
  | _, _, _, .nil, e => by simp at e
  | _, _, 0, .cons h _, e => by
    simp only [List.getElem?_cons_zero, Option.some.injEq] at e
    subst e
    exact ⟨_, rfl, h⟩
  | _, _, i + 1, .cons _ h, e => by
    obtain ⟨x, e1, e2⟩ := dts_at (i := i) h (by simpa using e)
    exact ⟨x, by simpa using e1, e2⟩
theorem dts_at' : ∀ {xs : List V} {ds : List PyData} {i : Nat} {x : V}, DtAll K G xs ds → xs[i]? = some x → ∃ d, ds[i]? = some d ∧ Dt K G x d
  | _, _, _, _, .nil, e => by simp at e
  | _, _, 0, _, .cons h _, e => by
    simp only [List.getElem?_cons_zero, Option.some.injEq] at e
    subst e
    exact ⟨_, rfl, h⟩
  | _, _, i + 1, x, .cons _ h, e => by
    obtain ⟨d, e1, e2⟩ := dts_at' (i := i) (x := x) h (by simpa using e)
    exact ⟨d, by simpa using e1, e2⟩
theorem dts_app : ∀ {xs ys : List V} {ds es : List PyData}, DtAll K G xs ds → DtAll K G ys es → DtAll K G (xs ++ ys) (ds ++ es)
  | _, _, _, _, .nil, h => h
  | _, _, _, _, .cons a b, h => .cons a (dts_app b h)
theorem dts_take : ∀ {xs : List V} {ds : List PyData} (n : Nat), DtAll K G xs ds → DtAll K G (xs.take n) (ds.take n)
  | _, _, 0, _ => .nil
  | _, _, _ + 1, .nil => .nil
  | _, _, n + 1, .cons a b => .cons a (dts_take n b)
theorem dts_drop : ∀ {xs : List V} {ds : List PyData} (n : Nat), DtAll K G xs ds → DtAll K G (xs.drop n) (ds.drop n)
  | _, _, 0, h => h
  | _, _, _ + 1, .nil => .nil
  | _, _, n + 1, .cons _ b => dts_drop n b
/-- of ints, of texts: the values themselves -/
theorem dts_ints : ∀ {xs : List V} {ns : List Int}, DtAll K G xs (ns.map PyData.int) → xs = ns.map V.int
  | _, [], .nil => rfl
  | _, n :: ns, .cons a b => by rw [dt_int a, dts_ints b]; rfl
theorem dts_strs : ∀ {xs : List V} {ss : List Str}, DtAll K G xs (ss.map PyData.str) → xs = ss.map V.str
  | _, [], .nil => rfl
  | _, n :: ns, .cons a b => by rw [dt_str a, dts_strs b]; rfl
theorem ints_dts : ∀ (ns : List Int), DtAll K G (ns.map V.int) (ns.map PyData.int)
  | [] => .nil
  | n :: ns => .cons (.int n) (ints_dts ns)
theorem strs_dts : ∀ (ns : List Str), DtAll K G (ns.map V.str) (ns.map PyData.str)
  | [] => .nil
  | n :: ns => .cons (.str n) (strs_dts ns)
theorem dt_pair {r c : Int} (h : Dt K G v (.tuple [.int r, .int c])) (gh : Same G H) : ∃ a, v = .ref a ∧ SqT K H a [.int r, .int c] := by
  obtain ⟨a, xs, rfl, h1, h2⟩ := dt_tuple h gh
  have e := dts_ints (ns := [r, c]) h2
  subst e
  exact ⟨a, rfl, h1⟩
theorem pair_dt {r c : Int} {a : Addr} (h : G a = some (.tup [.int r, .int c])) : Dt K G (.ref a) (.tuple [.int r, .int c]) := .tup (SqT.of h) (ints_dts [r, c])
end
/-- one of some written ints -/
theorem at_menu {xs : List Int} {i : Int} (h0 : 0 ≤ i) (h1 : i < (xs.length : Int)) : ∃ z, atI (xs.map V.int) i = some (.int z) ∧ xs[i.toNat]? = some z ∧ z ∈ xs := by
  obtain ⟨x, e1, e2⟩ := atI_in (xs := xs.map V.int) h0 (by rw [List.length_map]; exact h1)
  rw [List.getElem?_map] at e2
  cases e : xs[i.toNat]? with
  | none => rw [e] at e2; cases e2
  | some z =>
    rw [e] at e2
    cases e2
    exact ⟨z, e1, rfl, List.mem_of_getElem? e⟩
/-! ### what things are -/
def tyD : PyData → String
  | .none => "NoneType"
  | .bool _ => "bool"
  | .int _ => "int"
  | .str _ => "str"
  | .list _ => "list"
  | .tuple _ => "tuple"
  | .dict _ => "dict"
/-- an object of a class of the program's own -/
def isObjD : PyData → Bool
  | .dict ((.none, _) :: _) => true
  | .dict ((.bool _, _) :: _) => true
  | _ => false
theorem ty_of {K : PySem.W.Frag} {G H : Hp} {v : V} {d : PyData} (h : Dt K G v d) (gh : Same G H) (ho : isObjD d = false) : TyX K H v (.type (tyD d)) := by
  cases h with
  | dct h => exact .base (.dK (gh _ _ h))
  | obj h => exact Bool.noConfusion ho
  | exc h => exact Bool.noConfusion ho
  | non => exact .base .non
  | bl b => exact .base (.bl b)
  | int i => exact .base (.int i)
  | str x => exact .base (.str x)
  | lst h _ => exact .base (.lst (gh _ _ h))
  | tup h _ =>
    rcases same_tup gh h with (h | ⟨o, h⟩) | ⟨o, its, n, hk, hc, _⟩
    · exact .base (.tup h)
    · exact .fTuple h
    · exact .kTuple hk hc
/-- what a def tells is data d, all else stays -/
def Gives (K : PySem.W.Frag) (G H : Hp) (d : PyData) (Q : VK) : Prop := ∀ (v : V) (G' H' : Hp), Ext [] G H G' H' → Dt K G' v d → Q v H'
end S

set_option linter.unusedVariables false
namespace S
open PySem L2
/-! ### pure evaluation: in every later state the same data comes out, nothing that was tracked is changed -/
def ED (K : PySem.W.Frag) (G : Hp) (te : TE) (σ : L2.St) (d : PyData) : Prop := ∀ G1 H, Same G G1 → Same G1 H → ∀ Q : VK, (∀ v G2 H2, Ext [] G1 H G2 H2 → Dt K G2 v d → Q v H2) → te σ H Q
def ET (_ : PySem.W.Frag) (G : Hp) (tt : TT) (σ : L2.St) (b : Bool) : Prop := ∀ G1 H, Same G G1 → Same G1 H → ∀ Q : Bool → Hp → Prop, (∀ G2 H2, Ext [] G1 H G2 H2 → Q b H2) → tt σ H Q
def EA (K : PySem.W.Frag) (G : Hp) (ta : TA) (σ : L2.St) (ds : List PyData) : Prop := ∀ G1 H, Same G G1 → Same G1 H → ∀ Q : List V → Hp → Prop, (∀ vs G2 H2, Ext [] G1 H G2 H2 → DtAll K G2 vs ds → Q vs H2) → ta σ H Q
def EO (_ : PySem.W.Frag) (G : Hp) (to : TO) (σ : L2.St) (o : Option Int) : Prop := ∀ G1 H, Same G G1 → Same G1 H → ∀ Q : Option Int → Hp → Prop, (∀ G2 H2, Ext [] G1 H G2 H2 → Q o H2) → to σ H Q
/-- operations by data -/
def R2D (K : PySem.W.Frag) (r : R2) (d1 d2 d : PyData) : Prop := ∀ x y G H, Same G H → Dt K G x d1 → Dt K G y d2 → ∀ Q : VK, (∀ v G2 H2, Ext [] G H G2 H2 → Dt K G2 v d → Q v H2) → r x y H Q
def CBD (K : PySem.W.Frag) (r : List V → Hp → VK → Prop) (ds : List PyData) (d : PyData) : Prop := ∀ vs G H, Same G H → DtAll K G vs ds → ∀ Q : VK, (∀ v G2 H2, Ext [] G H G2 H2 → Dt K G2 v d → Q v H2) → r vs H Q
def MD (K : PySem.W.Frag) (r : V → List V → Hp → VK → Prop) (d0 : PyData) (ds : List PyData) (d : PyData) : Prop := ∀ x vs G H, Same G H → Dt K G x d0 → DtAll K G vs ds → ∀ Q : VK, (∀ v G2 H2, Ext [] G H G2 H2 → Dt K G2 v d → Q v H2) → r x vs H Q
/-- a pure def: of data ds it tells data d -/
def PFn (K : PySem.W.Frag) (R : List PyData → PyData → Prop) : Sp := fun vs H Q _ => ∃ (G : Hp) (ds : List PyData) (d : PyData), Same G H ∧ DtAll K G vs ds ∧ R ds d ∧ ∀ v G' H', Ext [] G H G' H' → Dt K G' v d → Q v H'
section
variable {K : PySem.W.Frag} {G G' : Hp} {σ : L2.St} {ta tb te : TE} {t u : TT} {tas : TA} {d d1 d2 : PyData} {ds : List PyData} {v : V} {r : R2} {b c : Bool}
theorem ED.mono (h : ED K G te σ d) (e : Same G G') : ED K G' te σ d := fun G1 H a => h G1 H (e.trans a)
theorem ET.mono (h : ET K G t σ b) (e : Same G G') : ET K G' t σ b := fun G1 H a => h G1 H (e.trans a)
theorem EA.mono (h : EA K G tas σ ds) (e : Same G G') : EA K G' tas σ ds := fun G1 H a => h G1 H (e.trans a)
theorem ED.to {d' : PyData} (h : ED K G te σ d) (e : d = d') : ED K G te σ d' := e ▸ h
theorem ET.to (h : ET K G t σ b) (e : b = c) : ET K G t σ c := e ▸ h
theorem ed_var {i : Nat} (h : σ[i]? = some (some v)) (hv : Dt K G v d) : ED K G (tVar i) σ d := fun G1 H a gh Q q => ⟨v, h, q v G1 H (Ext.refl gh) (same_dt a hv)⟩
theorem ed_c (hv : ∀ G, Dt K G v d) : ED K G (tC v) σ d := fun G1 H _ gh Q q => q v G1 H (Ext.refl gh) (hv G1)
theorem ed_int {i : Int} : ED K G (tC (.int i)) σ (.int i) := ed_c fun _ => .int i
theorem ed_str {x : Str} : ED K G (tC (.str x)) σ (.str x) := ed_c fun _ => .str x
theorem ed_bl : ED K G (tC (.bl b)) σ (.bool b) := ed_c fun _ => .bl b
theorem ed_non : ED K G (tC .non) σ .none := ed_c fun _ => .non
theorem ed_op (ha : ED K G ta σ d1) (hb : ED K G tb σ d2) (hr : R2D K r d1 d2 d) : ED K G (tOp r ta tb) σ d := fun G1 H a gh Q q =>
  ha G1 H a gh _ fun x G2 H2 e2 hx => hb G2 H2 (a.trans e2.gg) e2.gh _ fun y G3 H3 e3 hy => hr x y G3 H3 e3.gh (same_dt e3.gg hx) hy Q fun v G4 H4 e4 hv => q v G4 H4 ((e2.same e3).same e4) hv
theorem r2_i {g : Int → Int → Int} {i j : Int} : R2D K (rI0 fun i j => .int (g i j)) (.int i) (.int j) (.int (g i j)) := fun x y G H gh hx hy Q q => by
  rw [dt_int hx, dt_int hy]
  exact ⟨i, j, rfl, rfl, q _ G H (Ext.refl gh) (.int _)⟩
theorem r2_b {g : Int → Int → Bool} {i j : Int} : R2D K (rI0 fun i j => .bl (g i j)) (.int i) (.int j) (.bool (g i j)) := fun x y G H gh hx hy Q q => by
  rw [dt_int hx, dt_int hy]
  exact ⟨i, j, rfl, rfl, q _ G H (Ext.refl gh) (.bl _)⟩
theorem r2_c {C : Int → Int → Prop} {g : Int → Int → Int} {i j : Int} (hc : C i j) : R2D K (rI C fun i j => .int (g i j)) (.int i) (.int j) (.int (g i j)) := fun x y G H gh hx hy Q q => by
  rw [dt_int hx, dt_int hy]
  exact ⟨i, j, rfl, rfl, hc, q _ G H (Ext.refl gh) (.int _)⟩
theorem r2_eqS {x y : Str} : R2D K rEq (.str x) (.str y) (.bool (decide (x = y))) := fun v w G H gh hx hy Q q => by
  rw [dt_str hx, dt_str hy]
  refine ⟨rfl, ?_⟩
  rw [show decide (V.str x = V.str y) = decide (x = y) by simp]
  exact q _ G H (Ext.refl gh) (.bl _)
theorem r2_neS {x y : Str} : R2D K rNe (.str x) (.str y) (.bool (!decide (x = y))) := fun v w G H gh hx hy Q q => by
  rw [dt_str hx, dt_str hy]
  refine ⟨rfl, ?_⟩
  rw [show decide (V.str x = V.str y) = decide (x = y) by simp]
  exact q _ G H (Ext.refl gh) (.bl _)
theorem r2_eqI {x y : Int} : R2D K rEq (.int x) (.int y) (.bool (decide (x = y))) := fun v w G H gh hx hy Q q => by
  rw [dt_int hx, dt_int hy]
  refine ⟨rfl, ?_⟩
  rw [show decide (V.int x = V.int y) = decide (x = y) by simp]
  exact q _ G H (Ext.refl gh) (.bl _)
theorem r2_neI {x y : Int} : R2D K rNe (.int x) (.int y) (.bool (!decide (x = y))) := fun v w G H gh hx hy Q q => by
  rw [dt_int hx, dt_int hy]
  refine ⟨rfl, ?_⟩
  rw [show decide (V.int x = V.int y) = decide (x = y) by simp]
  exact q _ G H (Ext.refl gh) (.bl _)
theorem r2_eqD (h1 : SeqAt.shaped d1 = true) (h2 : SeqAt.shaped d2 = true) : R2D K (rEqD K) d1 d2 (.bool (PyData.eqv d1 d2)) := fun v w G H gh hx hy Q q =>
  ⟨d1, d2, dt_dp (same_dt gh hx) (SeqAt.canLay_of_shaped h1), dt_dp (same_dt gh hy) (SeqAt.canLay_of_shaped h2), h1, h2, q _ G H (Ext.refl gh) (.bl _)⟩
theorem r2_neD (h1 : SeqAt.shaped d1 = true) (h2 : SeqAt.shaped d2 = true) : R2D K (rNeD K) d1 d2 (.bool (!PyData.eqv d1 d2)) := fun v w G H gh hx hy Q q =>
  ⟨d1, d2, dt_dp (same_dt gh hx) (SeqAt.canLay_of_shaped h1), dt_dp (same_dt gh hy) (SeqAt.canLay_of_shaped h2), h1, h2, q _ G H (Ext.refl gh) (.bl _)⟩
theorem r2_addS {x y : Str} (h : x.length + y.length ≤ sizeLine) : R2D K (fun x y H Q => ∃ i j, x = .str i ∧ y = .str j ∧ i.length + j.length ≤ sizeLine ∧ Q (.str (i ++ j)) H) (.str x) (.str y) (.str (x ++ y)) := fun v w G H gh hx hy Q q => by
  rw [dt_str hx, dt_str hy]
  exact ⟨x, y, rfl, rfl, h, q _ G H (Ext.refl gh) (.str _)⟩
theorem atI_dts {xs : List V} {i : Int} (hs : DtAll K G xs ds) (h : atI ds i = some d) : ∃ x, atI xs i = some x ∧ Dt K G x d := by
  unfold atI at h ⊢
  rw [dts_len hs]
  cases e : ixN ds.length i with
  | none => rw [e] at h; cases h
  | some j =>
    rw [e] at h
    obtain ⟨x, h1, h2⟩ := dts_at hs (show ds[j]? = some d from h)
    exact ⟨x, h1, h2⟩
theorem r2_ixL {i : Int} (h : atI ds i = some d) : R2D K (rIxL K) (.list ds) (.int i) d := fun v w G H gh hx hy Q q => by
  obtain ⟨a, xs, rfl, hl, hs⟩ := dt_list hx gh
  rw [dt_int hy]
  obtain ⟨x, h1, h2⟩ := atI_dts hs h
  exact ⟨a, xs, i, x, rfl, rfl, hl, h1, q _ G H (Ext.refl gh) h2⟩
theorem r2_ixT {i : Int} (h : atI ds i = some d) : R2D K (rIxT K) (.tuple ds) (.int i) d := fun v w G H gh hx hy Q q => by
  obtain ⟨a, xs, rfl, hl, hs⟩ := dt_tuple hx gh
  rw [dt_int hy]
  obtain ⟨x, h1, h2⟩ := atI_dts hs h
  exact ⟨a, xs, i, x, rfl, rfl, hl, h1, q _ G H (Ext.refl gh) h2⟩
theorem r2_ixS {z : Str} {i : Int} {c : Nat} (hz : z.length ≤ sizeLine) (h : atI z.cps.toList i = some c) : R2D K rIxS (.str z) (.int i) (.str ⟨#[c]⟩) := fun v w G H gh hx hy Q q => by
  rw [dt_str hx, dt_int hy]
  exact ⟨z, i, c, rfl, rfl, hz, h, q _ G H (Ext.refl gh) (.str _)⟩
theorem dts1 {vs : List V} (h : DtAll K G vs [d]) : ∃ v, vs = [v] ∧ Dt K G v d := by
  cases h with
  | cons h hs => cases hs; exact ⟨_, rfl, h⟩
theorem dtsN {vs : List V} (h : DtAll K G vs (d :: ds)) : ∃ v ws, vs = v :: ws ∧ Dt K G v d ∧ DtAll K G ws ds := by
  cases h with
  | cons h hs => exact ⟨_, _, rfl, h, hs⟩
theorem dts2 {vs : List V} (h : DtAll K G vs [d1, d2]) : ∃ v w, vs = [v, w] ∧ Dt K G v d1 ∧ Dt K G w d2 := by
  obtain ⟨v, ws, rfl, h1, hs⟩ := dtsN h
  obtain ⟨w, rfl, h2⟩ := dts1 hs
  exact ⟨v, w, rfl, h1, h2⟩
theorem dts3 {d3 : PyData} {vs : List V} (h : DtAll K G vs [d1, d2, d3]) : ∃ v w x, vs = [v, w, x] ∧ Dt K G v d1 ∧ Dt K G w d2 ∧ Dt K G x d3 := by
  obtain ⟨v, ws, rfl, h1, hs⟩ := dtsN h
  obtain ⟨w, x, rfl, h2, h3⟩ := dts2 hs
  exact ⟨v, w, x, rfl, h1, h2, h3⟩
theorem dts4 {d3 d4 : PyData} {vs : List V} (h : DtAll K G vs [d1, d2, d3, d4]) : ∃ v w x y, vs = [v, w, x, y] ∧ Dt K G v d1 ∧ Dt K G w d2 ∧ Dt K G x d3 ∧ Dt K G y d4 := by
  obtain ⟨v, ws, rfl, h1, hs⟩ := dtsN h
  obtain ⟨w, x, y, rfl, h2, h3, h4⟩ := dts3 hs
  exact ⟨v, w, x, y, rfl, h1, h2, h3, h4⟩
theorem dts5 {d3 d4 d5 : PyData} {vs : List V} (h : DtAll K G vs [d1, d2, d3, d4, d5]) : ∃ v w x y z, vs = [v, w, x, y, z] ∧ Dt K G v d1 ∧ Dt K G w d2 ∧ Dt K G x d3 ∧ Dt K G y d4 ∧ Dt K G z d5 := by
  obtain ⟨v, ws, rfl, h1, hs⟩ := dtsN h
  obtain ⟨w, x, y, z, rfl, h2, h3, h4, h5⟩ := dts4 hs
  exact ⟨v, w, x, y, z, rfl, h1, h2, h3, h4, h5⟩
/-! tests -/
theorem et_test (h : ED K G te σ (.bool b)) : ET K G (tTest te) σ b := fun G1 H a gh Q q => h G1 H a gh _ fun v G2 H2 e hv => ⟨b, dt_bool hv, q G2 H2 e⟩
theorem et_B (h : ED K G te σ (.bool b)) : ET K G (tB te) σ b := fun G1 H a gh Q q => h G1 H a gh _ fun v G2 H2 e hv => ⟨b, dt_bool hv, q G2 H2 e⟩
theorem et_yes : ET K G tYes σ true := fun G1 H a gh Q q => q G1 H (Ext.refl gh)
theorem et_not (h : ET K G t σ b) : ET K G (tNot t) σ (!b) := fun G1 H a gh Q q => h G1 H a gh _ fun G2 H2 e => q G2 H2 e
theorem et_and (h : ET K G t σ b) (h2 : b = true → ET K G u σ c) : ET K G (tAnd t u) σ (b && c) := fun G1 H a gh Q q => h G1 H a gh _ fun G2 H2 e => by
  cases b with
  | true => exact iteT (h2 rfl G2 H2 (a.trans e.gg) e.gh Q fun G3 H3 e3 => q G3 H3 (e.same e3))
  | false => exact iteF (q G2 H2 e)
theorem et_or (h : ET K G t σ b) (h2 : b = false → ET K G u σ c) : ET K G (tOr t u) σ (b || c) := fun G1 H a gh Q q => h G1 H a gh _ fun G2 H2 e => by
  cases b with
  | true => exact iteT (q G2 H2 e)
  | false => exact iteF (h2 rfl G2 H2 (a.trans e.gg) e.gh Q fun G3 H3 e3 => q G3 H3 (e.same e3))
theorem ed_and (h : ED K G ta σ (.bool b)) (h2 : b = true → ED K G tb σ (.bool c)) : ED K G (tAndV ta tb) σ (.bool (b && c)) := fun G1 H a gh Q q => h G1 H a gh _ fun v G2 H2 e hv => ⟨b, dt_bool hv, by
  cases b with
  | true => exact iteT (h2 rfl G2 H2 (a.trans e.gg) e.gh Q fun v G3 H3 e3 hv => q v G3 H3 (e.same e3) hv)
  | false => exact iteF (q _ G2 H2 e (.bl _))⟩
theorem ed_or (h : ED K G ta σ (.bool b)) (h2 : b = false → ED K G tb σ (.bool c)) : ED K G (tOrV ta tb) σ (.bool (b || c)) := fun G1 H a gh Q q => h G1 H a gh _ fun v G2 H2 e hv => ⟨b, dt_bool hv, by
  cases b with
  | true => exact iteT (q _ G2 H2 e (.bl _))
  | false => exact iteF (h2 rfl G2 H2 (a.trans e.gg) e.gh Q fun v G3 H3 e3 hv => q v G3 H3 (e.same e3) hv)⟩
theorem ed_not (h : ED K G ta σ (.bool b)) : ED K G (tNotV ta) σ (.bool (!b)) := fun G1 H a gh Q q => h G1 H a gh _ fun v G2 H2 e hv => ⟨b, dt_bool hv, q _ G2 H2 e (.bl _)⟩
theorem ed_if (h : ET K G t σ b) (h1 : b = true → ED K G ta σ d) (h2 : b = false → ED K G tb σ d) : ED K G (tIf t ta tb) σ d := fun G1 H a gh Q q => h G1 H a gh _ fun G2 H2 e => by
  cases b with
  | true => exact iteT (h1 rfl G2 H2 (a.trans e.gg) e.gh Q fun v G3 H3 e3 hv => q v G3 H3 (e.same e3) hv)
  | false => exact iteF (h2 rfl G2 H2 (a.trans e.gg) e.gh Q fun v G3 H3 e3 hv => q v G3 H3 (e.same e3) hv)
/-! arguments, displays, calls -/
theorem ea_nil : EA K G tNil σ [] := fun G1 H a gh Q q => q [] G1 H (Ext.refl gh) .nil
theorem ea_cons (h : ED K G ta σ d) (hs : EA K G tas σ ds) : EA K G (tCons ta tas) σ (d :: ds) := fun G1 H a gh Q q => h G1 H a gh _ fun v G2 H2 e hv => hs G2 H2 (a.trans e.gg) e.gh _ fun vs G3 H3 e3 hvs => q _ G3 H3 (e.same e3) (.cons (same_dt e3.gg hv) hvs)
theorem ed_tup (h : EA K G tas σ ds) (hl : ds.length ≤ 1000 := by first | decide | simp) : ED K G (tTup tas) σ (.tuple ds) := fun G1 H a gh Q q => h G1 H a gh _ fun vs G2 H2 e hvs =>
  ⟨by rw [dts_len hvs]; exact szn _ hl, fun p hp => q _ _ _ (e.same (Ext.new e.gh hp)) (.tup (SqT.of upd_same) (same_dts (same_new (e.gh.free hp)) hvs))⟩
theorem ed_lst (h : EA K G tas σ ds) (hl : ds.length ≤ 1000 := by first | decide | simp) : ED K G (tLst tas) σ (.list ds) := fun G1 H a gh Q q => h G1 H a gh _ fun vs G2 H2 e hvs =>
  ⟨by rw [dts_len hvs]; exact szn _ hl, fun p hp => q _ _ _ (e.same (Ext.new e.gh hp)) (.lst upd_same (same_dts (same_new (e.gh.free hp)) hvs))⟩
theorem ed_cb {rr : List V → Hp → VK → Prop} (h : EA K G tas σ ds) (hr : CBD K rr ds d) : ED K G (tCB rr tas) σ d := fun G1 H a gh Q q => h G1 H a gh _ fun vs G2 H2 e hvs => hr vs G2 H2 e.gh hvs Q fun v G3 H3 e3 hv => q v G3 H3 (e.same e3) hv
theorem ed_fn {R : List PyData → PyData → Prop} {E : XK} (h : EA K G tas σ ds) (hr : R ds d) : ED K G (tCall (PFn K R) [] E tas) σ d := fun G1 H a gh Q q => h G1 H a gh _ fun vs G2 H2 e hvs => by
  rw [List.append_nil]
  exact ⟨G2, ds, d, e.gh, hvs, hr, fun v G3 H3 e3 hv => q v G3 H3 (e.same e3) hv⟩
theorem ed_m1 {rr : V → List V → Hp → VK → Prop} {a : Str} (ho : ED K G ta σ (.str a)) (he : ED K G te σ d2) (hr : MD K rr (.str a) [d2] d) : ED K G (tM1 rr ta te) σ d := fun G1 H g gh Q q => ho G1 H g gh _ fun x G2 H2 e2 hx => ⟨⟨a, dt_str hx⟩,
  he G2 H2 (g.trans e2.gg) e2.gh _ fun y G3 H3 e3 hy => hr x [y] G3 H3 e3.gh (same_dt e3.gg hx) (.cons hy .nil) Q fun v G4 H4 e4 hv => q v G4 H4 ((e2.same e3).same e4) hv⟩
theorem ed_un {f : Int → Int} {i : Int} (h : ED K G ta σ (.int i)) : ED K G (tUn (rU fun i => .int (f i)) ta) σ (.int (f i)) := fun G1 H a gh Q q => h G1 H a gh _ fun v G2 H2 e hv => ⟨i, dt_int hv, q _ G2 H2 e (.int _)⟩
/-! built-ins by data -/
/-- isinstance(e, T) -/
theorem ed_isi {T : String} {ans : Bool} (h : ED K G ta σ d) (hk : kitB (tyD d) T = some ans) (ho : isObjD d = false := by rfl) : ED K G (tCB (rIsi K) (tCons ta (tCons (tC (.ty T)) tNil))) σ (.bool ans) := fun G1 H a gh Q q => h G1 H a gh _ fun v G2 H2 e hv =>
  ⟨v, .ty T, _, _, ans, rfl, .ty T, ty_of hv e.gh ho, kit_ty hk, q _ G2 H2 e (.bl _)⟩
theorem cb_lenL : CBD K (fun xs H Q => ∃ x n, xs = [x] ∧ LenV K x H n ∧ Q (.int n) H) [.list ds] (.int ds.length) := fun vs G H gh h Q q => by
  cases h with
  | cons h hs =>
    cases hs
    obtain ⟨a, xs, rfl, hl, hx⟩ := dt_list h gh
    exact ⟨_, ds.length, rfl, .inl ⟨xs, hl, (dts_len hx).symm⟩, q _ G H (Ext.refl gh) (.int _)⟩
theorem cb_lenT : CBD K (fun xs H Q => ∃ x n, xs = [x] ∧ LenV K x H n ∧ Q (.int n) H) [.tuple ds] (.int ds.length) := fun vs G H gh h Q q => by
  cases h with
  | cons h hs =>
    cases hs
    obtain ⟨a, xs, rfl, hl, hx⟩ := dt_tuple h gh
    exact ⟨_, ds.length, rfl, .inr ⟨xs, hl, (dts_len hx).symm⟩, q _ G H (Ext.refl gh) (.int _)⟩
theorem cb_lenS {z : Str} (hz : z.length ≤ sizeLine) : CBD K (fun xs H Q => ∃ x n, xs = [x] ∧ LenV K x H n ∧ Q (.int n) H) [.str z] (.int z.length) := fun vs G H gh h Q q => by
  cases h with
  | cons h hs =>
    cases hs
    rw [dt_str h]
    exact ⟨_, z.length, rfl, ⟨hz, rfl⟩, q _ G H (Ext.refl gh) (.int _)⟩
theorem dts_bools : ∀ {xs : List V} {bs : List Bool}, DtAll K G xs (bs.map PyData.bool) → xs = bs.map V.bl
  | _, [], .nil => rfl
  | _, n :: ns, .cons a b => by rw [dt_bool a, dts_bools b]; rfl
theorem bools_dts : ∀ (ns : List Bool), DtAll K G (ns.map V.bl) (ns.map PyData.bool)
  | [] => .nil
  | n :: ns => .cons (.bl n) (bools_dts ns)
theorem cb_all {bs : List Bool} : CBD K (rAll K) [.list (bs.map PyData.bool)] (.bool (bs.all id)) := fun vs G H gh h Q q => by
  cases h with
  | cons h hs =>
    cases hs
    obtain ⟨a, xs, rfl, hl, hx⟩ := dt_list h gh
    rw [dts_bools hx] at hl
    exact ⟨a, bs, rfl, hl, q _ G H (Ext.refl gh) (.bl _)⟩
theorem cb_sum {ns : List Int} : CBD K (rSum K) [.list (ns.map PyData.int)] (.int ns.sum) := fun vs G H gh h Q q => by
  cases h with
  | cons h hs =>
    cases hs
    obtain ⟨a, xs, rfl, hl, hx⟩ := dt_list h gh
    rw [dts_ints hx] at hl
    exact ⟨a, ns, rfl, hl, q _ G H (Ext.refl gh) (.int _)⟩
theorem md_join {a : Str} {ys : List Str} (hz : (ys.map (·.length)).sum + ys.length * a.length ≤ 16777216) : MD K (fun x xs H Q => ∃ a p, ∃ ys : List Str, x = .str a ∧ xs = [.ref p] ∧ (SqL K H p (ys.map V.str) ∨ SqT K H p (ys.map V.str)) ∧ (ys.map (·.length)).sum + ys.length * a.length ≤ 16777216 ∧ Q (.str (Txt.join a ys)) H)
    (.str a) [.list (ys.map PyData.str)] (.str (Txt.join a ys)) := fun x vs G H gh hx h Q q => by
  cases h with
  | cons h hs =>
    cases hs
    obtain ⟨p, xs, rfl, hl, hxs⟩ := dt_list h gh
    rw [dts_strs hxs] at hl
    rw [dt_str hx]
    exact ⟨a, p, ys, rfl, rfl, .inl hl, hz, q _ G H (Ext.refl gh) (.str _)⟩
theorem md_sindex {a b : Str} {i : Nat} {rest : List Nat} (h : Builtin.Str.occurrences a b 0 a.length 1 = i :: rest) : MD K (fun x xs H Q => ∃ a b i rest, x = .str a ∧ xs = [.str b] ∧ Builtin.Str.occurrences a b 0 a.length 1 = i :: rest ∧ Q (.int (i : Nat)) H) (.str a) [.str b] (.int i) := fun x vs G H gh hx hv Q q => by
  cases hv with
  | cons hv hs =>
    cases hs
    rw [dt_str hx, dt_str hv]
    exact ⟨a, b, i, rest, rfl, rfl, h, q _ G H (Ext.refl gh) (.int _)⟩
end
end S

set_option linter.unusedVariables false
namespace S
open PySem L2
/-! ### what is walked, by data -/
structure DW (K : PySem.W.Frag) (G : Hp) (J : It) (n : Nat) (f : Nat → PyData) : Prop where
  goes : ∀ i H, i < n → Same G H → J.go i H
  stops : ∀ H, Same G H → J.stop n H
  yields : ∀ i H x H' G1, i < n → Same G G1 → Same G1 H → J.yld i H x H' → ∃ G2, Ext [] G1 H G2 H' ∧ Dt K G2 x (f i)
/-- the iterable gives n items, f i the i-th -/
def EI (K : PySem.W.Frag) (G : Hp) (wi : TI) (σ : L2.St) (n : Nat) (f : Nat → PyData) : Prop := ∀ G1 H, Same G G1 → Same G1 H → ∀ R : It → Hp → Prop, (∀ J G2 H2, Ext [] G1 H G2 H2 → DW K G2 J n f → R J H2) → wi σ H R
section
variable {K : PySem.W.Frag} {G G' : Hp} {σ : L2.St} {ta tb te : TE} {t u : TT} {tas : TA} {d d1 d2 : PyData} {ds es : List PyData} {v : V} {r : R2} {b c : Bool}
theorem dw_list {a : Addr} {xs : List V} (hl : SqL K G a xs) (hs : DtAll K G xs ds) : DW K G (Itl K a) ds.length (fun i => ds.getD i .none) where
  goes := fun i H hi gh => by
    have e := dts_len hs
    exact ⟨xs, xs[i], gh.seq hl, by simp [e, hi]⟩
  stops := fun H gh => ⟨xs, gh.seq hl, by rw [dts_len hs]; exact Nat.le_refl _⟩
  yields := fun i H x H' G1 hi g1 gh y => by
    obtain ⟨rfl, hx⟩ := y
    obtain ⟨d, h1, h2⟩ := dts_at' hs (hx xs ((g1.trans gh).seq hl))
    refine ⟨G1, Ext.refl gh, ?_⟩
    rw [List.getD_eq_getElem?_getD, h1]
    exact same_dt g1 h2
theorem dw_tup {a : Addr} {xs : List V} (hl : SqT K G a xs) (hs : DtAll K G xs ds) : DW K G (Itt K a) ds.length (fun i => ds.getD i .none) where
  goes := fun i H hi gh => by
    have e := dts_len hs
    exact ⟨xs, xs[i], same_tup gh hl, by simp [e, hi]⟩
  stops := fun H gh => ⟨xs, same_tup gh hl, by rw [dts_len hs]; exact Nat.le_refl _⟩
  yields := fun i H x H' G1 hi g1 gh y => by
    obtain ⟨rfl, hx⟩ := y
    obtain ⟨d, h1, h2⟩ := dts_at' hs (hx xs (same_tup (g1.trans gh) hl))
    refine ⟨G1, Ext.refl gh, ?_⟩
    rw [List.getD_eq_getElem?_getD, h1]
    exact same_dt g1 h2
theorem dw_str {z : Str} : DW K G (Its z) z.cps.size (fun i => .str ⟨#[z.cps.getD i 0]⟩) where
  goes := fun i H hi _ => hi
  stops := fun H _ => Nat.le_refl _
  yields := fun i H x H' G1 hi g1 gh y => by
    obtain ⟨rfl, c, hc, rfl⟩ := y
    refine ⟨G1, Ext.refl gh, ?_⟩
    rw [Array.getD_eq_getD_getElem?, hc]
    exact .str _
theorem dw_range {lo : Int} {n : Nat} : DW K G (Itr lo n) n (fun i => .int (lo + i)) where
  goes := fun i H hi _ => hi
  stops := fun H _ => Nat.le_refl _
  yields := fun i H x H' G1 hi g1 gh y => by
    obtain ⟨rfl, rfl⟩ := y
    exact ⟨G1, Ext.refl gh, .int _⟩
theorem dw_enum {a : Addr} {xs : List V} (hl : SqL K G a xs) (hs : DtAll K G xs ds) : DW K G (Ite K a) ds.length (fun i => .tuple [.int (i : Nat), ds.getD i .none]) where
  goes := fun i H hi gh => by
    have e := dts_len hs
    exact ⟨xs, xs[i], gh.seq hl, by simp [e, hi]⟩
  stops := fun H gh => ⟨xs, gh.seq hl, by rw [dts_len hs]; exact Nat.le_refl _⟩
  yields := fun i H x H' G1 hi g1 gh y => by
    obtain ⟨T, z, rfl, hT, rfl, hx⟩ := y
    obtain ⟨d, h1, h2⟩ := dts_at' hs (hx xs ((g1.trans gh).seq hl))
    refine ⟨_, Ext.new gh hT, ?_⟩
    rw [List.getD_eq_getElem?_getD, h1]
    exact .tup (SqT.of upd_same) (.cons (.int _) (.cons (same_dt (g1.trans (same_new (gh.free hT))) h2) .nil))
theorem dw_zip {a a2 : Addr} {xs ys : List V} (hl : SqL K G a xs) (hs : DtAll K G xs ds) (hl2 : SqL K G a2 ys) (hs2 : DtAll K G ys es) : DW K G (Itz K a a2) (min ds.length es.length) (fun i => .tuple [ds.getD i .none, es.getD i .none]) where
  goes := fun i H hi gh => by
    have e := dts_len hs
    have e2 := dts_len hs2
    exact ⟨xs, ys, xs[i], ys[i], gh.seq hl, gh.seq hl2, by simp [show i < xs.length by omega], by simp [show i < ys.length by omega]⟩
  stops := fun H gh => by
    have e := dts_len hs
    have e2 := dts_len hs2
    exact ⟨xs, ys, gh.seq hl, gh.seq hl2, by omega⟩
  yields := fun i H x H' G1 hi g1 gh y => by
    obtain ⟨T, z, z2, rfl, hT, rfl, hx, hx2⟩ := y
    obtain ⟨d, h1, h2⟩ := dts_at' hs (hx xs ((g1.trans gh).seq hl))
    obtain ⟨d', h3, h4⟩ := dts_at' hs2 (hx2 ys ((g1.trans gh).seq hl2))
    refine ⟨_, Ext.new gh hT, ?_⟩
    rw [List.getD_eq_getElem?_getD, h1, List.getD_eq_getElem?_getD, h3]
    have e := g1.trans (same_new (o := .tup [z, z2]) (gh.free hT))
    exact .tup (SqT.of upd_same) (.cons (same_dt e h2) (.cons (same_dt e h4) .nil))
theorem ei_list (h : ED K G te σ (.list ds)) : EI K G (iList K te) σ ds.length (fun i => ds.getD i .none) := fun G1 H a gh R q => h G1 H a gh _ fun v G2 H2 e hv => by
  obtain ⟨p, xs, rfl, hl, hs⟩ := dt_list hv (Same.refl G2)
  exact ⟨p, rfl, ⟨xs, e.gh.seq hl⟩, q _ G2 H2 e (dw_list hl hs)⟩
theorem ei_tup (h : ED K G te σ (.tuple ds)) : EI K G (iTup K te) σ ds.length (fun i => ds.getD i .none) := fun G1 H a gh R q => h G1 H a gh _ fun v G2 H2 e hv => by
  obtain ⟨p, xs, rfl, hl, hs⟩ := dt_tuple hv (Same.refl G2)
  exact ⟨p, rfl, ⟨xs, same_tup e.gh hl⟩, q _ G2 H2 e (dw_tup hl hs)⟩
theorem ei_str {z : Str} (h : ED K G te σ (.str z)) : EI K G (iStr te) σ z.cps.size (fun i => .str ⟨#[z.cps.getD i 0]⟩) := fun G1 H a gh R q => h G1 H a gh _ fun v G2 H2 e hv => ⟨z, dt_str hv, q _ G2 H2 e dw_str⟩
theorem ei_range1 {j : Int} (h : EA K G tas σ [.int j]) (h0 : 0 ≤ j) (h1 : j < 2 ^ 62) : EI K G (iRng1 tas) σ j.toNat (fun i => .int i) := fun G1 H a gh R q => h G1 H a gh _ fun vs G2 H2 e hvs => by
  cases hvs with
  | cons hv hs =>
    cases hs
    rw [dt_int hv]
    refine ⟨j, rfl, by omega, h1, q _ G2 H2 e ?_⟩
    have w := dw_range (K := K) (G := G2) (lo := 0) (n := j.toNat)
    simp only [Int.zero_add] at w
    exact w
theorem ei_range2 {i j : Int} (h : EA K G tas σ [.int i, .int j]) (hb : -(2 ^ 62) ≤ i ∧ i < 2 ^ 62 ∧ -(2 ^ 62) ≤ j ∧ j < 2 ^ 62) : EI K G (iRng2 tas) σ (j - i).toNat (fun k => .int (i + k)) := fun G1 H a gh R q => h G1 H a gh _ fun vs G2 H2 e hvs => by
  cases hvs with
  | cons hv hs =>
    cases hs with
    | cons hv2 hs =>
      cases hs
      rw [dt_int hv, dt_int hv2]
      exact ⟨i, j, rfl, hb, q _ G2 H2 e dw_range⟩
theorem ei_enum (h : EA K G tas σ [.list ds]) : EI K G (iEnum K tas) σ ds.length (fun i => .tuple [.int (i : Nat), ds.getD i .none]) := fun G1 H a gh R q => h G1 H a gh _ fun vs G2 H2 e hvs => by
  cases hvs with
  | cons hv hs =>
    cases hs
    obtain ⟨p, xs, rfl, hl, hs⟩ := dt_list hv (Same.refl G2)
    exact ⟨p, xs, rfl, e.gh.seq hl, q _ G2 H2 e (dw_enum hl hs)⟩
theorem ei_zip (h : EA K G tas σ [.list ds, .list es]) : EI K G (iZip K tas) σ (min ds.length es.length) (fun i => .tuple [ds.getD i .none, es.getD i .none]) := fun G1 H a gh R q => h G1 H a gh _ fun vs G2 H2 e hvs => by
  cases hvs with
  | cons hv hs =>
    cases hs with
    | cons hv2 hs2 =>
      cases hs2
      obtain ⟨p, xs, rfl, hl, hs⟩ := dt_list hv (Same.refl G2)
      obtain ⟨p2, ys, rfl, hl2, hs2⟩ := dt_list hv2 (Same.refl G2)
      exact ⟨p, p2, xs, ys, rfl, e.gh.seq hl, e.gh.seq hl2, q _ G2 H2 e (dw_zip hl hs hl2 hs2)⟩

/-! ### targets -/
/-- the target takes x, of data d; behind it the slots are as B tells -/
def EG (K : PySem.W.Frag) (g : TG) (σ : L2.St) (d : PyData) (B : Hp → L2.St → Prop) : Prop := ∀ G H x, Same G H → Dt K G x d → ∀ Q : L2.St → Hp → Prop, (∀ σ2, B G σ2 → Q σ2 H) → g x σ H Q
theorem eg_name {j : Nat} : EG K (gName j) σ d (fun G σ2 => ∃ x, Dt K G x d ∧ σ2 = σ.set j (some x)) := fun G H x gh hx Q q => q _ ⟨x, hx, rfl⟩
theorem eg_tup2 {i j : Nat} : EG K (gTup K 2 (gCons (gName i) (gCons (gName j) gNil))) σ (.tuple [d1, d2]) (fun G σ2 => ∃ x y, Dt K G x d1 ∧ Dt K G y d2 ∧ σ2 = (σ.set i (some x)).set j (some y)) := fun G H x gh hx Q q => by
  obtain ⟨a, xs, rfl, hl, hs⟩ := dt_tuple hx gh
  cases hs with
  | cons h1 hs =>
    cases hs with
    | cons h2 hs =>
      cases hs
      exact ⟨a, _, rfl, hl, rfl, _, _, rfl, _, _, rfl, rfl, q _ ⟨_, _, h1, h2, rfl⟩⟩
theorem eg_tup3 {i j k : Nat} {d3 : PyData} : EG K (gTup K 3 (gCons (gName i) (gCons (gName j) (gCons (gName k) gNil)))) σ (.tuple [d1, d2, d3]) (fun G σ2 => ∃ x y z, Dt K G x d1 ∧ Dt K G y d2 ∧ Dt K G z d3 ∧ σ2 = ((σ.set i (some x)).set j (some y)).set k (some z)) := fun G H x gh hx Q q => by
  obtain ⟨a, xs, rfl, hl, hs⟩ := dt_tuple hx gh
  cases hs with
  | cons h1 hs =>
    cases hs with
    | cons h2 hs =>
      cases hs with
      | cons h3 hs =>
        cases hs
        exact ⟨a, _, rfl, hl, rfl, _, _, rfl, _, _, rfl, _, _, rfl, rfl, q _ ⟨_, _, _, h1, h2, h3, rfl⟩⟩

/-! ### comprehensions -/
/-- what n turns give: p tells which, h what -/
def outs (n : Nat) (p : Nat → Bool) (h : Nat → PyData) : List PyData := ((List.range n).filter p).map h
theorem outs_yes {n : Nat} {p : Nat → Bool} {h : Nat → PyData} (e : p n = true) : outs (n + 1) p h = outs n p h ++ [h n] := by
  unfold outs
  rw [List.range_succ, List.filter_append, List.map_append, List.filter_cons, if_pos e] <;> rfl
theorem outs_no {n : Nat} {p : Nat → Bool} {h : Nat → PyData} (e : p n = false) : outs (n + 1) p h = outs n p h := by
  unfold outs
  rw [List.range_succ, List.filter_append, List.map_append, List.filter_cons, if_neg (by rw [e]; decide)]
  show _ ++ [] = _
  rw [List.append_nil]
theorem outs_len (n : Nat) (p : Nat → Bool) (h : Nat → PyData) : (outs n p h).length ≤ n := by
  unfold outs
  rw [List.length_map]
  have q := List.length_filter_le p (List.range n)
  rw [List.length_range] at q
  exact q
theorem outs_map {α : Type} {xs : List α} {f : α → PyData} {h : Nat → PyData} (e : ∀ i x, xs[i]? = some x → h i = f x) : outs xs.length (fun _ => true) h = xs.map f := by
  unfold outs
  rw [List.filter_eq_self.mpr (by simp)]
  apply List.ext_getElem?
  intro i
  simp only [List.getElem?_map]
  by_cases hi : i < xs.length
  · simp [hi, e i xs[i] (by simp [hi])]
  · simp [hi]
theorem sz_list {n : Nat} (h : n < 100000) : n < sizeLine := Nat.lt_of_lt_of_le h (by decide)
theorem ed_lc {wi : TI} {g : TG} {tt : TT} {te : TE} {vs : List Nat} {n : Nat} {f h : Nat → PyData} {p : Nat → Bool} {B : Nat → Hp → L2.St → Prop} (hi : EI K G wi σ n f) (hn : n < 100000) (hb : ∀ i, i < n → EG K g (wipe σ vs) (f i) (B i))
    (hw : ∀ i G1 σ2, i < n → B i G1 σ2 → wipe σ2 vs = wipe σ vs) (ht : ∀ i G1 σ2, i < n → Same G G1 → B i G1 σ2 → ET K G1 tt σ2 (p i)) (he : ∀ i G1 σ2, i < n → Same G G1 → B i G1 σ2 → p i = true → ED K G1 te σ2 (h i)) :
    ED K G (tLc wi g tt te vs) σ (.list (outs n p h)) := fun G1 H a gh Q q => hi G1 H a gh _ fun J G2 H2 e2 W D hD => by
  refine ⟨fun i m H' => m = n - i ∧ i ≤ n ∧ ∃ G' acc, Ext [] G2 H2 G' H' ∧ G' D = none ∧ H' D = some (.lst acc) ∧ DtAll K G' acc (outs i p h), ⟨n, by simp, Nat.zero_le _, G2, [], Ext.cell e2.gh hD, e2.gh.free hD, upd_same, .nil⟩, ?_⟩
  rintro i m H' ⟨rfl, hin, G', acc, e, gD, hacc, hds⟩
  have gsame : Same G2 H' := e.gg.trans e.gh
  by_cases hlt : i < n
  · refine .inr ⟨W.goes i H' hlt gsame, fun H'' => i + 1 ≤ n ∧ ∃ G' acc, Ext [] G2 H2 G' H'' ∧ G' D = none ∧ H'' D = some (.lst acc) ∧ DtAll K G' acc (outs (i + 1) p h), fun H'' ⟨h1, h2⟩ => ⟨n - (i + 1), by omega, rfl, h1, h2⟩, fun x H3 y => ?_⟩
    obtain ⟨G3, e3, hx⟩ := W.yields i H' x H3 G' hlt e.gg e.gh y
    refine hb i hlt G3 H3 x e3.gh hx _ fun σ2 hσ => ⟨hw i G3 σ2 hlt hσ, ?_⟩
    have eG : Same G G3 := ((a.trans e2.gg).trans e.gg).trans e3.gg
    refine ht i G3 σ2 hlt eG hσ G3 H3 (Same.refl G3) e3.gh _ fun G4 H4 e4 => ?_
    have e24 : Ext [] G2 H2 G4 H4 := (e.same e3).same e4
    have gD4 : G4 D = none := (e3.same e4).free gD hacc
    have hacc4 : H4 D = some (.lst acc) := (e3.same e4).keep hacc (by simp)
    have hds4 : DtAll K G4 acc (outs i p h) := same_dts (e3.same e4).gg hds
    cases hp : p i with
    | false => exact iteF ⟨hlt, G4, acc, e24, gD4, hacc4, by rw [outs_no hp]; exact hds4⟩
    | true =>
      refine iteT ?_
      refine (he i G3 σ2 hlt eG hσ hp).mono e4.gg G4 H4 (Same.refl G4) e4.gh _ fun w G5 H5 e5 hwd => ?_
      have l := outs_len i p h
      have l2 := dts_len hds4
      refine ⟨acc, e5.keep hacc4 (by simp), sz_list (by omega), hlt, G5, acc ++ [w], (e24.same e5).trans (Ext.put e5.gh (e5.free gD4 hacc4) (e5.keep hacc4 (by simp))) fun z hz => .inr (by rw [List.mem_singleton] at hz; rw [hz]; exact hD), e5.free gD4 hacc4, upd_same, ?_⟩
      rw [outs_yes hp]
      exact dts_app (same_dts e5.gg hds4) (.cons hwd .nil)
  · have ei : i = n := by omega
    subst ei
    refine .inl ⟨W.stops H' gsame, ?_⟩
    have ek := Ext.know e.gh hacc gD e hD
    exact q _ _ H' (e2.same ek) (.lst upd_same (same_dts (same_new gD) hds))

/-! ### statements that return data, or go on -/
def ES (K : PySem.W.Frag) (G : Hp) (ts : TS) (σ : L2.St) (R : PyData → Prop) (N : Hp → L2.St → Prop) : Prop := ∀ G1 H, Same G G1 → Same G1 H → ∀ D : Ends, (∀ v d G2 H2, Ext [] G1 H G2 H2 → Dt K G2 v d → R d → D.rt v H2) → (∀ σ' G2 H2, Ext [] G1 H G2 H2 → N G2 σ' → D.nx σ' H2) → ts D σ H
variable {R : PyData → Prop} {N M : Hp → L2.St → Prop} {ts tz tw : TS}
theorem ES.mono (h : ES K G ts σ R N) (e : Same G G') : ES K G' ts σ R N := fun G1 H a => h G1 H (e.trans a)
theorem es_ret (h : ED K G te σ d) (hr : R d) : ES K G (tRet te) σ R N := fun G1 H a gh D hrt hnx => h G1 H a gh _ fun v G2 H2 e hv => hrt v d G2 H2 e hv hr
theorem es_next (h : ∀ G1, Same G G1 → N G1 σ) : ES K G tNext σ R N := fun G1 H a gh D hrt hnx => hnx σ G1 H (Ext.refl gh) (h G1 a)
theorem es_seq (h : ES K G ts σ R M) (k : ∀ G1 σ1, Same G G1 → M G1 σ1 → ES K G1 tz σ1 R N) : ES K G (tSeq ts tz) σ R N := fun G1 H a gh D hrt hnx =>
  h G1 H a gh { D with nx := tz D } hrt fun σ1 G2 H2 e hm => k G2 σ1 (a.trans e.gg) hm G2 H2 (Same.refl G2) e.gh D (fun v d G3 H3 e3 => hrt v d G3 H3 (e.same e3)) (fun σ' G3 H3 e3 => hnx σ' G3 H3 (e.same e3))
theorem es_cut (h : ES K G ts σ R M) (k : ∀ G1 σ1, Same G G1 → M G1 σ1 → ES K G1 tz σ1 R N) : ES K G (tCut ts tz) σ R N := fun G1 H a gh D hrt hnx =>
  ⟨tz D, h G1 H a gh { D with nx := tz D } hrt fun σ1 G2 H2 e hm => k G2 σ1 (a.trans e.gg) hm G2 H2 (Same.refl G2) e.gh D (fun v d G3 H3 e3 => hrt v d G3 H3 (e.same e3)) (fun σ' G3 H3 e3 => hnx σ' G3 H3 (e.same e3)), fun _ _ z => z⟩
theorem es_asg {i : Nat} (h : ED K G te σ d) (k : ∀ G1 x, Same G G1 → Dt K G1 x d → N G1 (σ.set i (some x))) : ES K G (tAsg te (gName i)) σ R N := fun G1 H a gh D hrt hnx => h G1 H a gh _ fun v G2 H2 e hv => hnx _ G2 H2 e (k G2 v (a.trans e.gg) hv)
/-- x = e, then the rest -/
theorem es_set {i : Nat} (h : ED K G te σ d) (k : ∀ G1 x, Same G G1 → Dt K G1 x d → ES K G1 tz (σ.set i (some x)) R N) : ES K G (tSeq (tAsg te (gName i)) tz) σ R N :=
  es_seq (M := fun G1 σ1 => ∃ x, Dt K G1 x d ∧ σ1 = σ.set i (some x)) (es_asg h fun G1 x a hx => ⟨x, hx, rfl⟩) fun G1 σ1 a ⟨x, hx, e⟩ => by rw [e]; exact k G1 x a hx
/-- a target of any kind -/
theorem es_asgG {g : TG} {B : Hp → L2.St → Prop} (h : ED K G te σ d) (hb : EG K g σ d B) (k : ∀ G1 σ1, Same G G1 → B G1 σ1 → ES K G1 tz σ1 R N) : ES K G (tSeq (tAsg te g) tz) σ R N :=
  es_seq (M := B) (fun G1 H a gh D hrt hnx => h G1 H a gh _ fun v G2 H2 e hv => hb G2 H2 v e.gh hv _ fun σ2 hσ => hnx σ2 G2 H2 e hσ) k
theorem es_if (h : ET K G t σ b) (h1 : b = true → ES K G ts σ R N) (h2 : b = false → ES K G tz σ R N) : ES K G (tIfS t ts tz) σ R N := fun G1 H a gh D hrt hnx => h G1 H a gh _ fun G2 H2 e => by
  cases b with
  | true => exact iteT ((h1 rfl).mono (a.trans e.gg) G2 H2 (Same.refl G2) e.gh D (fun v d G3 H3 e3 => hrt v d G3 H3 (e.same e3)) (fun σ' G3 H3 e3 => hnx σ' G3 H3 (e.same e3)))
  | false => exact iteF ((h2 rfl).mono (a.trans e.gg) G2 H2 (Same.refl G2) e.gh D (fun v d G3 H3 e3 => hrt v d G3 H3 (e.same e3)) (fun σ' G3 H3 e3 => hnx σ' G3 H3 (e.same e3)))
/-- if t: .. (and nothing else), then the rest -/
theorem es_when (h : ET K G t σ b) (h1 : b = true → ES K G (tSeq ts tz) σ R N) (h2 : b = false → ES K G tz σ R N) : ES K G (tSeq (tIfS t ts tNext) tz) σ R N := fun G1 H a gh D hrt hnx => h G1 H a gh _ fun G2 H2 e => by
  cases b with
  | true => exact iteT ((h1 rfl).mono (a.trans e.gg) G2 H2 (Same.refl G2) e.gh D (fun v d G3 H3 e3 => hrt v d G3 H3 (e.same e3)) (fun σ' G3 H3 e3 => hnx σ' G3 H3 (e.same e3)))
  | false => exact iteF ((h2 rfl).mono (a.trans e.gg) G2 H2 (Same.refl G2) e.gh D (fun v d G3 H3 e3 => hrt v d G3 H3 (e.same e3)) (fun σ' G3 H3 e3 => hnx σ' G3 H3 (e.same e3)))
theorem es_retSeq (h : ED K G te σ d) (hr : R d) : ES K G (tSeq (tRet te) tz) σ R N := es_seq (M := fun _ _ => False) (es_ret h hr) fun _ _ _ z => z.elim
theorem es_drop (h : ED K G te σ d) (k : ∀ G1, Same G G1 → N G1 σ) : ES K G (tDrop te) σ R N := fun G1 H a gh D hrt hnx => h G1 H a gh _ fun v G2 H2 e hv => hnx _ G2 H2 e (k G2 (a.trans e.gg))
theorem es_for {wi : TI} {g : TG} {n : Nat} {f : Nat → PyData} {B : Nat → L2.St → Hp → L2.St → Prop} (hi : EI K G wi σ n f) (I : Nat → Hp → L2.St → Prop) (h0 : ∀ G1, Same G G1 → I 0 G1 σ) (mono : ∀ i G1 G2 σ1, Same G1 G2 → I i G1 σ1 → I i G2 σ1)
    (hb : ∀ i G1 σ1, i < n → Same G G1 → I i G1 σ1 → EG K g σ1 (f i) (B i σ1)) (hs : ∀ i G1 σ1 σ2, i < n → Same G G1 → I i G1 σ1 → B i σ1 G1 σ2 → ES K G1 ts σ2 R (I (i + 1))) (hd : ∀ G1 σ1, Same G G1 → I n G1 σ1 → N G1 σ1) :
    ES K G (tFor wi g ts) σ R N := fun G1 H a gh D hrt hnx => hi G1 H a gh _ fun J G2 H2 e2 W => by
  refine ⟨fun i m σ' H' => m = n - i ∧ i ≤ n ∧ ∃ G', Ext [] G2 H2 G' H' ∧ I i G' σ', ⟨n, by simp, Nat.zero_le _, G2, Ext.refl e2.gh, h0 G2 (a.trans e2.gg)⟩, ?_⟩
  rintro i m σ' H' ⟨rfl, hin, G', e, hI⟩
  have gsame : Same G2 H' := e.gg.trans e.gh
  by_cases hlt : i < n
  · refine .inr ⟨W.goes i H' hlt gsame, fun σ'' H'' => i + 1 ≤ n ∧ ∃ G', Ext [] G2 H2 G' H'' ∧ I (i + 1) G' σ'', fun σ'' H'' ⟨h1, h2⟩ => ⟨n - (i + 1), by omega, rfl, h1, h2⟩, fun x H3 y => ?_⟩
    obtain ⟨G3, e3, hx⟩ := W.yields i H' x H3 G' hlt e.gg e.gh y
    have eG : Same G G3 := ((a.trans e2.gg).trans e.gg).trans e3.gg
    have hI3 := mono i _ _ _ e3.gg hI
    refine hb i G3 σ' hlt eG hI3 G3 H3 x e3.gh hx _ fun σ2 hσ => ?_
    exact hs i G3 σ' σ2 hlt eG hI3 hσ G3 H3 (Same.refl G3) e3.gh _ (fun v d G4 H4 e4 => hrt v d G4 H4 (e2.same ((e.same e3).same e4))) fun σ4 G4 H4 e4 hI4 => ⟨hlt, G4, (e.same e3).same e4, hI4⟩
  · have ei : i = n := by omega
    subst ei
    exact .inl ⟨W.stops H' gsame, hnx σ' G' H' (e2.same e) (hd G' σ' (((a.trans e2.gg)).trans e.gg) hI)⟩
end

/-! ### loops that draw: I tells of what is known, of the heap and of the slots -/
section
variable {K : PySem.W.Frag} {G G0 H : Hp} {σ : L2.St} {D : Ends}
/-- the loop itself, over a walk by data -/
theorem loop_imp {J : It} {g : TG} {tb : TS} {n : Nat} {f : Nat → PyData} (W : DW K G0 J n f) (gh : Same G0 H) (I : Nat → Hp → Hp → L2.St → Prop) (h0 : I 0 G0 H σ)
    (hs : ∀ i G1 H1 σ1 x G2 H2, i < n → I i G1 H1 σ1 → Same G0 G1 → Ext [] G1 H1 G2 H2 → Dt K G2 x (f i) → g x σ1 H2 fun σ2 H3 => tb { D with nx := fun σ' H' => ∃ G', Same G1 G' ∧ Same G' H' ∧ I (i + 1) G' H' σ', ct := fun σ' H' => ∃ G', Same G1 G' ∧ Same G' H' ∧ I (i + 1) G' H' σ', bk := D.nx } σ2 H3)
    (hd : ∀ G1 H1 σ1, Same G0 G1 → Same G1 H1 → I n G1 H1 σ1 → D.nx σ1 H1) :
    ∃ W : Nat → Nat → L2.St → Hp → Prop, (∃ m, W 0 m σ H) ∧ ∀ i m σ H, W i m σ H →
      (J.stop i H ∧ D.nx σ H) ∨ (J.go i H ∧ ∃ N : L2.St → Hp → Prop, (∀ σ' H', N σ' H' → ∃ m', m' < m ∧ W (i + 1) m' σ' H') ∧ ∀ x H', J.yld i H x H' → g x σ H' fun σ2 H2 => tb { D with nx := N, ct := N, bk := D.nx } σ2 H2) := by
  refine ⟨fun i m σ' H' => m = n - i ∧ i ≤ n ∧ ∃ G', Same G0 G' ∧ Same G' H' ∧ I i G' H' σ', ⟨n, by simp, Nat.zero_le _, G0, Same.refl G0, gh, h0⟩, ?_⟩
  rintro i m σ' H' ⟨rfl, hin, G', e, gh', hI⟩
  by_cases hlt : i < n
  · refine .inr ⟨W.goes i H' hlt (e.trans gh'), fun σ'' H'' => ∃ G'', Same G' G'' ∧ Same G'' H'' ∧ I (i + 1) G'' H'' σ'', fun σ'' H'' ⟨G'', h1, h2, h3⟩ => ⟨n - (i + 1), by omega, rfl, hlt, G'', e.trans h1, h2, h3⟩, fun x H3 y => ?_⟩
    obtain ⟨G3, e3, hx⟩ := W.yields i H' x H3 G' hlt e gh' y
    exact hs i G' H' σ' x G3 H3 hlt hI e e3 hx
  · have ei : i = n := by omega
    subst ei
    exact .inl ⟨W.stops H' (e.trans gh'), hd G' H' σ' e gh' hI⟩
theorem for_imp {wi : TI} {g : TG} {tb : TS} {n : Nat} {f : Nat → PyData} (hi : EI K G wi σ n f) (g0 : Same G G0) (gh : Same G0 H) (I : Nat → Hp → Hp → L2.St → Prop) (h0 : ∀ G1 H1, Ext [] G0 H G1 H1 → I 0 G1 H1 σ)
    (hs : ∀ i G1 H1 σ1 x G2 H2, i < n → I i G1 H1 σ1 → Same G0 G1 → Ext [] G1 H1 G2 H2 → Dt K G2 x (f i) → g x σ1 H2 fun σ2 H3 => tb { D with nx := fun σ' H' => ∃ G', Same G1 G' ∧ Same G' H' ∧ I (i + 1) G' H' σ', ct := fun σ' H' => ∃ G', Same G1 G' ∧ Same G' H' ∧ I (i + 1) G' H' σ', bk := D.nx } σ2 H3)
    (hd : ∀ G1 H1 σ1, Same G0 G1 → Same G1 H1 → I n G1 H1 σ1 → D.nx σ1 H1) : tFor wi g tb D σ H := hi G0 H g0 gh _ fun J G2 H2 e2 W =>
  loop_imp W e2.gh I (h0 G2 H2 e2) (fun i G1 H1 σ1 x G3 H3 hi hI g1 => hs i G1 H1 σ1 x G3 H3 hi hI (e2.gg.trans g1)) fun G1 H1 σ1 g1 => hd G1 H1 σ1 (e2.gg.trans g1)
end

/-! ### a pure def by its body -/
section
variable {P : Program} {w : World} {K : PySem.W.Frag} {mg : Str → Option Value} {base : Heap}
theorem FnIn.pure {x : Str} {st : Stmt} {N ps : List Str} {k : Nat} {R : List PyData → PyData → Prop} (F : FnIn K mg x st) (S : FnScope N ps (defScope st)) (len : ∀ ds d, R ds d → ds.length = ps.length)
    (hb : ∀ (kV doc pm : Value) (an : Option Addr) (cdv ct : Value) (us : List Value), us.length = ps.length → bindArgs (PySem.W.fnOf x x (defArgs st) (defBody st) (defScope st) .none kV doc pm an cdv ct) ⟨us, []⟩ = pure (ps.zip us))
    (body : ∀ (f : Addr) (cdv : Value) (A : Around) (outer : List Env) (s : Shared) (H : Hp) (E : XK), Room k (A.deeper (PyProof.Rows.envOfC x (defScope st) s.heap.objs.size f cdv)) →
      ∃ t, PSs (cxOf CX0 P w K mg base N x (defScope st) f cdv A outer s H E).nox (defBody st) t ∧ ∀ G vs ds d, DtAll K G vs ds → R ds d → ES K G t (start N vs) (fun d' => d' = d) (fun _ _ => d = .none)) : Has P w K mg base CX0 (k + 1) x ps (PFn K R) := by
  refine F.ok S (fun vs H Q E ⟨G, ds, d, gh, hv, hr, q⟩ => (dts_len hv).trans (len ds d hr)) hb (fun f cdv A outer s H vs Q E hr ⟨G, ds, d, gh, hv, hR, q⟩ => ?_)
  obtain ⟨t, ht, hs⟩ := body f cdv A outer s H E hr
  refine ⟨t, ht, hs G vs ds d hv hR G H (Same.refl G) gh _ (fun v d' G2 H2 e hv' e' => ?_) (fun σ' G2 H2 e e' => ?_)⟩
  · subst e'
    exact q v G2 H2 e hv'
  · exact q .non G2 H2 e (by rw [e']; exact .non)
end
end S

set_option linter.unusedVariables false
namespace S
open PySem L2
/-! ### evaluation that draws: an effect is some cells that change, with a word I n of them that holds behind n draws -/
structure Eff where
  M : List Addr
  I : Nat → Hp → Hp → Prop
  keep : ∀ {n G H G' H' M'}, I n G H → Ext M' G H G' H' → (∀ a ∈ M, a ∉ M') → I n G' H'
  up : ∀ {n m G H}, n ≤ m → I n G H → I m G H
  trk : ∀ {n G H}, I n G H → ∀ a ∈ M, ∃ o, H a = some o
  unk : ∀ {n G H}, I n G H → ∀ a ∈ M, G a = none
  know : ∀ {n G H G'}, I n G H → Same G G' → (∀ a ∈ M, G' a = none) → I n G' H
abbrev lim : Nat := 2 ^ 40
def EV (ε : Eff) (K : PySem.W.Frag) (c : Nat) (G : Hp) (te : TE) (σ : L2.St) (P : PyData → Prop) : Prop := ∀ G1 H n, Same G G1 → Same G1 H → ε.I n G1 H → n + c ≤ lim → ∀ Q : VK, (∀ v d G2 H2, Ext ε.M G1 H G2 H2 → ε.I (n + c) G2 H2 → Dt K G2 v d → P d → Q v H2) → te σ H Q
def AV (ε : Eff) (K : PySem.W.Frag) (c : Nat) (G : Hp) (ta : TA) (σ : L2.St) (P : List PyData → Prop) : Prop := ∀ G1 H n, Same G G1 → Same G1 H → ε.I n G1 H → n + c ≤ lim → ∀ Q : List V → Hp → Prop, (∀ vs ds G2 H2, Ext ε.M G1 H G2 H2 → ε.I (n + c) G2 H2 → DtAll K G2 vs ds → P ds → Q vs H2) → ta σ H Q
def TV (ε : Eff) (K : PySem.W.Frag) (c : Nat) (G : Hp) (tt : TT) (σ : L2.St) (P : Bool → Prop) : Prop := ∀ G1 H n, Same G G1 → Same G1 H → ε.I n G1 H → n + c ≤ lim → ∀ Q : Bool → Hp → Prop, (∀ b G2 H2, Ext ε.M G1 H G2 H2 → ε.I (n + c) G2 H2 → P b → Q b H2) → tt σ H Q
section
variable {ε : Eff} {K : PySem.W.Frag} {c c1 c2 : Nat} {G G' H : Hp} {σ : L2.St} {ta tb te : TE} {t u : TT} {tas : TA} {d : PyData} {ds : List PyData} {r : R2} {b : Bool} {P P1 P2 P' : PyData → Prop} {Ps Ps' : List PyData → Prop} {Pb Pb2 : Bool → Prop}
theorem Ext.toM {M : List Addr} {G H G' H' : Hp} (e : Ext [] G H G' H') : Ext M G H G' H' := e.mono fun _ h => nomatch h
theorem Eff.stay (ε : Eff) {n : Nat} {G H G' H' : Hp} (h : ε.I n G H) (e : Ext [] G H G' H') : ε.I n G' H' := ε.keep h e fun _ _ h => nomatch h
theorem EV.mono (h : EV ε K c G te σ P) (e : Same G G') : EV ε K c G' te σ P := fun G1 H n a => h G1 H n (e.trans a)
theorem EV.imp (h : EV ε K c G te σ P) (k : ∀ d, P d → P' d) : EV ε K c G te σ P' := fun G1 H n a gh hI hl Q q => h G1 H n a gh hI hl Q fun v d G2 H2 e hI2 hv hp => q v d G2 H2 e hI2 hv (k d hp)
theorem EV.up (h : EV ε K c G te σ P) (k : c ≤ c2) : EV ε K c2 G te σ P := fun G1 H n a gh hI hl Q q => h G1 H n a gh hI (by omega) Q fun v d G2 H2 e hI2 hv hp => q v d G2 H2 e (ε.up (by omega) hI2) hv hp
theorem AV.up (h : AV ε K c G tas σ Ps) (k : c ≤ c2) : AV ε K c2 G tas σ Ps := fun G1 H n a gh hI hl Q q => h G1 H n a gh hI (by omega) Q fun v d G2 H2 e hI2 hv hp => q v d G2 H2 e (ε.up (by omega) hI2) hv hp
theorem TV.imp (h : TV ε K c G t σ Pb) (k : ∀ b, Pb b → Pb2 b) : TV ε K c G t σ Pb2 := fun G1 H n a gh hI hl Q q => h G1 H n a gh hI hl Q fun b G2 H2 e hI2 hp => q b G2 H2 e hI2 (k b hp)
theorem ev_ed (h : ED K G te σ d) : EV ε K 0 G te σ (fun d' => d' = d) := fun G1 H n a gh hI hl Q q => h G1 H a gh Q fun v G2 H2 e hv => q v d G2 H2 e.toM (ε.stay hI e) hv rfl
theorem tv_et (h : ET K G t σ b) : TV ε K 0 G t σ (fun b' => b' = b) := fun G1 H n a gh hI hl Q q => h G1 H a gh Q fun G2 H2 e => q b G2 H2 e.toM (ε.stay hI e) rfl
theorem av_ea (h : EA K G tas σ ds) : AV ε K 0 G tas σ (fun ds' => ds' = ds) := fun G1 H n a gh hI hl Q q => h G1 H a gh Q fun v G2 H2 e hv => q v ds G2 H2 e.toM (ε.stay hI e) hv rfl
theorem ev_op (ha : EV ε K c1 G ta σ P1) (hb : EV ε K c2 G tb σ P2) (hr : ∀ d1 d2, P1 d1 → P2 d2 → ∃ d, R2D K r d1 d2 d ∧ P d) : EV ε K (c1 + c2) G (tOp r ta tb) σ P := fun G1 H n a gh hI hl Q q =>
  ha G1 H n a gh hI (by omega) _ fun x d1 G2 H2 e2 hI2 hx p1 => hb G2 H2 (n + c1) (a.trans e2.gg) e2.gh hI2 (by omega) _ fun y d2 G3 H3 e3 hI3 hy p2 => by
    obtain ⟨d, hd, hp⟩ := hr d1 d2 p1 p2
    refine hd x y G3 H3 e3.gh (same_dt e3.gg hx) hy Q fun v G4 H4 e4 hv => q v d G4 H4 ((e2.trans e3 fun _ h => .inl h).same e4) ?_ hv hp
    have z := ε.stay hI3 e4
    rw [Nat.add_assoc] at z
    exact z
theorem ev_un {f : Int → Int} (h : EV ε K c G ta σ P1) (k : ∀ d, P1 d → ∃ i, d = .int i ∧ P (.int (f i))) : EV ε K c G (tUn (rU fun i => .int (f i)) ta) σ P := fun G1 H n a gh hI hl Q q => h G1 H n a gh hI hl _ fun v d G2 H2 e hI2 hv hp => by
  obtain ⟨i, rfl, hp2⟩ := k d hp
  exact ⟨i, dt_int hv, q _ _ G2 H2 e hI2 (.int _) hp2⟩
theorem av_nil : AV ε K 0 G tNil σ (fun ds => ds = []) := av_ea ea_nil
theorem av_cons (h : EV ε K c1 G ta σ P) (hs : AV ε K c2 G tas σ Ps) : AV ε K (c1 + c2) G (tCons ta tas) σ (fun ds => ∃ d ds', ds = d :: ds' ∧ P d ∧ Ps ds') := fun G1 H n a gh hI hl Q q =>
  h G1 H n a gh hI (by omega) _ fun x d1 G2 H2 e2 hI2 hx p1 => hs G2 H2 (n + c1) (a.trans e2.gg) e2.gh hI2 (by omega) _ fun ys ds' G3 H3 e3 hI3 hy p2 =>
    q _ _ G3 H3 (e2.trans e3 fun _ h => .inl h) (by rw [← Nat.add_assoc]; exact hI3) (.cons (same_dt e3.gg hx) hy) ⟨d1, ds', rfl, p1, p2⟩
theorem ev_lst (h : AV ε K c G tas σ Ps) (hl : ∀ ds, Ps ds → ds.length ≤ 1000) : EV ε K c G (tLst tas) σ (fun d => ∃ ds, d = .list ds ∧ Ps ds) := fun G1 H n a gh hI hlim Q q => h G1 H n a gh hI hlim _ fun vs ds G2 H2 e hI2 hvs hp =>
  ⟨by rw [dts_len hvs]; exact szn _ (hl ds hp), fun p hp' => q _ _ _ _ (e.same (Ext.new e.gh hp')) (ε.stay hI2 (Ext.new e.gh hp')) (.lst upd_same (same_dts (same_new (e.gh.free hp')) hvs)) ⟨ds, rfl, hp⟩⟩
theorem ev_tup (h : AV ε K c G tas σ Ps) (hl : ∀ ds, Ps ds → ds.length ≤ 1000) : EV ε K c G (tTup tas) σ (fun d => ∃ ds, d = .tuple ds ∧ Ps ds) := fun G1 H n a gh hI hlim Q q => h G1 H n a gh hI hlim _ fun vs ds G2 H2 e hI2 hvs hp =>
  ⟨by rw [dts_len hvs]; exact szn _ (hl ds hp), fun p hp' => q _ _ _ _ (e.same (Ext.new e.gh hp')) (ε.stay hI2 (Ext.new e.gh hp')) (.tup (SqT.of upd_same) (same_dts (same_new (e.gh.free hp')) hvs)) ⟨ds, rfl, hp⟩⟩
theorem ev_fn {R : List PyData → PyData → Prop} {E : XK} (h : AV ε K c G tas σ Ps) (hr : ∀ ds, Ps ds → ∃ d, R ds d ∧ P d) : EV ε K c G (tCall (PFn K R) [] E tas) σ P := fun G1 H n a gh hI hlim Q q => h G1 H n a gh hI hlim _ fun vs ds G2 H2 e hI2 hvs hp => by
  rw [List.append_nil]
  obtain ⟨d, hd, hp2⟩ := hr ds hp
  exact ⟨G2, ds, d, e.gh, hvs, hd, fun v G3 H3 e3 hv => q v d G3 H3 (e.same e3) (ε.stay hI2 e3) hv hp2⟩
theorem ev_cb {rr : List V → Hp → VK → Prop} (h : AV ε K c G tas σ Ps) (hr : ∀ ds, Ps ds → ∃ d, CBD K rr ds d ∧ P d) : EV ε K c G (tCB rr tas) σ P := fun G1 H n a gh hI hlim Q q => h G1 H n a gh hI hlim _ fun vs ds G2 H2 e hI2 hvs hp => by
  obtain ⟨d, hd, hp2⟩ := hr ds hp
  exact hd vs G2 H2 e.gh hvs Q fun v G3 H3 e3 hv => q v d G3 H3 (e.same e3) (ε.stay hI2 e3) hv hp2
theorem ev_m1 {rr : V → List V → Hp → VK → Prop} {z : Str} (ho : ED K G ta σ (.str z)) (he : EV ε K c G te σ P1) (hr : ∀ d, P1 d → ∃ d', MD K rr (.str z) [d] d' ∧ P d') : EV ε K c G (tM1 rr ta te) σ P := fun G1 H n a gh hI hlim Q q => ho G1 H a gh _ fun x G2 H2 e2 hx => ⟨⟨z, dt_str hx⟩,
  he G2 H2 n (a.trans e2.gg) e2.gh (ε.stay hI e2) hlim _ fun y d G3 H3 e3 hI3 hy hp => by
    obtain ⟨d', hd, hp2⟩ := hr d hp
    exact hd x [y] G3 H3 e3.gh (same_dt e3.gg hx) (.cons hy .nil) Q fun v G4 H4 e4 hv => q v d' G4 H4 ((e2.toM.trans e3 fun _ h => .inl h).same e4) (ε.stay hI3 e4) hv hp2⟩
theorem tv_test (h : EV ε K c G te σ (fun d => ∃ b, d = .bool b ∧ Pb b)) : TV ε K c G (tTest te) σ Pb := fun G1 H n a gh hI hl Q q => h G1 H n a gh hI hl _ fun v d G2 H2 e hI2 hv ⟨b, hd, hp⟩ => ⟨b, by subst hd; exact dt_bool hv, q b G2 H2 e hI2 hp⟩
theorem tv_B (h : EV ε K c G te σ (fun d => ∃ b, d = .bool b ∧ Pb b)) : TV ε K c G (tB te) σ Pb := fun G1 H n a gh hI hl Q q => h G1 H n a gh hI hl _ fun v d G2 H2 e hI2 hv ⟨b, hd, hp⟩ => ⟨b, by subst hd; exact dt_bool hv, q b G2 H2 e hI2 hp⟩
theorem tv_not (h : TV ε K c G t σ (fun b => Pb (!b))) : TV ε K c G (tNot t) σ Pb := fun G1 H n a gh hI hl Q q => h G1 H n a gh hI hl _ fun b G2 H2 e hI2 hp => q _ G2 H2 e hI2 hp
/-- a test with either answer -/
theorem TV.any (h : TV ε K c G t σ Pb) : TV ε K c G t σ (fun _ => True) := h.imp fun _ _ => trivial
/-- comprehensions whose element draws -/
theorem ev_lc {wi : TI} {g : TG} {te : TE} {vs : List Nat} {m : Nat} {f : Nat → PyData} {P : Nat → PyData → Prop} {B : Nat → Hp → L2.St → Prop} (hi : EI K G wi σ m f) (hn : m < 100000) (hb : ∀ i, i < m → EG K g (wipe σ vs) (f i) (B i))
    (hw : ∀ i G1 σ2, i < m → B i G1 σ2 → wipe σ2 vs = wipe σ vs) (he : ∀ i G1 σ2, i < m → Same G G1 → B i G1 σ2 → EV ε K c G1 te σ2 (P i)) :
    EV ε K (m * c) G (tLc wi g tYes te vs) σ (fun d => ∃ ds, d = .list ds ∧ ds.length = m ∧ ∀ i x, ds[i]? = some x → P i x) := fun G1 H n a gh hI hlim Q q => hi G1 H a gh _ fun J G2 H2 e2 W D hD => by
  have hI2 := ε.stay hI e2
  have hDM : D ∉ ε.M := fun z => by
    obtain ⟨o, ho⟩ := ε.trk hI2 D z
    rw [hD] at ho
    cases ho
  have hMD : ∀ a ∈ ε.M, a ∉ [D] := fun a ha z => hDM (by rw [List.mem_singleton] at z; rw [← z]; exact ha)
  refine ⟨fun i k H' => k = m - i ∧ i ≤ m ∧ ∃ G' acc ds, Ext ε.M G2 H2 G' H' ∧ G' D = none ∧ H' D = some (.lst acc) ∧ DtAll K G' acc ds ∧ ds.length = i ∧ (∀ j x, ds[j]? = some x → P j x) ∧ ε.I (n + i * c) G' H',
    ⟨m, by simp, Nat.zero_le _, G2, [], [], Ext.cell e2.gh hD, e2.gh.free hD, upd_same, .nil, rfl, fun _ _ z => by simp at z, by rw [Nat.zero_mul]; exact ε.stay hI2 (Ext.cell e2.gh hD)⟩, ?_⟩
  rintro i k H' ⟨rfl, hin, G', acc, ds, e, gD, hacc, hds, hlen, hP, hI'⟩
  have gsame : Same G2 H' := e.gg.trans e.gh
  by_cases hlt : i < m
  · have hle : (i + 1) * c ≤ m * c := Nat.mul_le_mul_right c hlt
    have hsc : (i + 1) * c = i * c + c := Nat.succ_mul i c
    refine .inr ⟨W.goes i H' hlt gsame, fun H'' => ∃ G' acc ds, Ext ε.M G2 H2 G' H'' ∧ G' D = none ∧ H'' D = some (.lst acc) ∧ DtAll K G' acc ds ∧ ds.length = i + 1 ∧ (∀ j x, ds[j]? = some x → P j x) ∧ ε.I (n + (i + 1) * c) G' H'', fun H'' h => ⟨m - (i + 1), by omega, rfl, hlt, h⟩, fun x H3 y => ?_⟩
    obtain ⟨G3, e3, hx⟩ := W.yields i H' x H3 G' hlt e.gg e.gh y
    refine hb i hlt G3 H3 x e3.gh hx _ fun σ2 hσ => ⟨hw i G3 σ2 hlt hσ, ?_⟩
    unfold tYes
    refine iteT ?_
    have eG : Same G G3 := ((a.trans e2.gg).trans e.gg).trans e3.gg
    refine he i G3 σ2 hlt eG hσ G3 H3 (n + i * c) (Same.refl G3) e3.gh (ε.stay hI' e3) (by omega) _ fun w d G5 H5 e5 hI5 hwd hpd => ?_
    have gD5 : G5 D = none := e5.free (e3.free gD hacc) (e3.keep hacc (by simp))
    have hacc5 : H5 D = some (.lst acc) := e5.keep (e3.keep hacc (by simp)) hDM
    have l2 := dts_len hds
    have ep := Ext.put (o := .lst (acc ++ [w])) e5.gh gD5 hacc5
    refine ⟨acc, hacc5, sz_list (by omega), G5, acc ++ [w], ds ++ [d], ((e.same e3).trans e5 fun _ h => .inl h).trans ep fun z hz => .inr (by rw [List.mem_singleton] at hz; rw [hz]; exact hD), gD5, upd_same, dts_app (same_dts (e3.gg.trans e5.gg) hds) (.cons hwd .nil), by rw [List.length_append, hlen]; rfl, fun j y hy => ?_, ?_⟩
    · by_cases hj : j < ds.length
      · rw [List.getElem?_append_left hj] at hy
        exact hP j y hy
      · rw [List.getElem?_append_right (by omega)] at hy
        have : j - ds.length = 0 := by
          cases q : j - ds.length with
          | zero => rfl
          | succ q' => rw [q] at hy; simp at hy
        rw [this] at hy
        have e1 : d = y := by simpa using hy
        have e2 : j = i := by omega
        subst e1 e2
        exact hpd
    · have z := ε.keep hI5 ep hMD
      rw [hsc, ← Nat.add_assoc]
      exact z
  · have ei : i = m := by omega
    subst ei
    refine .inl ⟨W.stops H' gsame, ?_⟩
    have ek := Ext.know e.gh hacc gD e hD
    have hI3 : ε.I (n + i * c) (upd G' D (.lst acc)) H' := ε.know hI' (same_new gD) fun a ha => by
      have z : a ≠ D := fun z => hDM (z ▸ ha)
      rw [upd_ne z]
      exact ε.unk hI' a ha
    exact q _ _ _ H' (e2.toM.trans ek fun _ h => .inl h) hI3 (.lst upd_same (same_dts (same_new gD) hds)) ⟨ds, rfl, hlen, hP⟩
/-! menus -/
theorem avl_nil : AV ε K 0 G tNil σ (fun ds => ds.length = 0 ∧ ∀ x ∈ ds, P x) := fun G1 H n a gh hI hl Q q => q [] [] G1 H (Ext.refl gh) hI .nil ⟨rfl, fun _ h => nomatch h⟩
theorem avl_cons {m : Nat} (h : EV ε K c1 G ta σ P) (hs : AV ε K c2 G tas σ (fun ds => ds.length = m ∧ ∀ x ∈ ds, P x)) : AV ε K (c1 + c2) G (tCons ta tas) σ (fun ds => ds.length = m + 1 ∧ ∀ x ∈ ds, P x) := fun G1 H n a gh hI hl Q q =>
  av_cons h hs G1 H n a gh hI hl Q fun vs ds G2 H2 e hI2 hv ⟨d, ds', hd, p1, p2, p3⟩ => q vs ds G2 H2 e hI2 hv ⟨by rw [hd, List.length_cons, p2], fun x hx => by
    rw [hd] at hx
    rcases List.mem_cons.mp hx with z | z
    · rw [z]; exact p1
    · exact p3 x z⟩
/-- an item of a list at a drawn place -/
theorem ev_ixL {m : Nat} (ha : EV ε K c1 G ta σ (fun d => ∃ ds, d = .list ds ∧ ds.length = m ∧ ∀ x ∈ ds, P x)) (hb : EV ε K c2 G tb σ (fun d => ∃ r : Int, d = .int r ∧ 0 ≤ r ∧ r < m)) : EV ε K (c1 + c2) G (tOp (rIxL K) ta tb) σ P :=
  ev_op ha hb fun d1 d2 ⟨ds, e1, hl, hp⟩ ⟨r, e2, r0, r1⟩ => by
    subst e1 e2
    obtain ⟨x, h1, h2⟩ := atI_in (xs := ds) r0 (by omega)
    exact ⟨x, r2_ixL h1, hp x (List.mem_of_getElem? h2)⟩
theorem ev_ixL0 {m : Nat} (ha : AV ε K c1 G tas σ (fun ds => ds.length = m ∧ ∀ x ∈ ds, P x)) (hm : m ≤ 1000) (hb : EV ε K c2 G tb σ (fun d => ∃ r : Int, d = .int r ∧ 0 ≤ r ∧ r < m)) : EV ε K (c1 + c2) G (tOp (rIxL K) (tLst tas) tb) σ P :=
  ev_ixL (ev_lst ha fun ds h => by omega) hb
/-- a sign of a text at a drawn place -/
theorem ev_ixS {z : Str} (ha : ED K G ta σ (.str z)) (hz : z.length ≤ 10000) (hb : EV ε K c G tb σ (fun d => ∃ r : Int, d = .int r ∧ 0 ≤ r ∧ r < z.length)) : EV ε K c G (tOp rIxS ta tb) σ (fun d => ∃ x ∈ z.cps.toList, d = .str ⟨#[x]⟩) :=
  EV.up (ev_op (ev_ed ha) hb fun d1 d2 e1 ⟨r, e2, r0, r1⟩ => by
    subst e1 e2
    obtain ⟨x, h1, h2⟩ := atI_in (xs := z.cps.toList) r0 (by rw [Array.length_toList]; exact r1)
    exact ⟨_, r2_ixS (Nat.le_trans hz (by decide)) h1, x, List.mem_of_getElem? h2, rfl⟩) (by omega)
/-- ints: any one comes out -/
def isI (d : PyData) : Prop := ∃ i : Int, d = .int i
theorem ev_ints {g : Int → Int → Int} (ha : EV ε K c1 G ta σ isI) (hb : EV ε K c2 G tb σ isI) : EV ε K (c1 + c2) G (tOp (rI0 fun i j => .int (g i j)) ta tb) σ isI :=
  ev_op ha hb fun d1 d2 ⟨i, e1⟩ ⟨j, e2⟩ => by subst e1 e2; exact ⟨_, r2_i, _, rfl⟩
theorem ev_d (h : ED K G te σ d) (hp : P d) : EV ε K 0 G te σ P := (ev_ed h).imp fun _ e => e ▸ hp

/-! ### statements that draw -/
def SS (ε : Eff) (K : PySem.W.Frag) (c : Nat) (G : Hp) (ts : TS) (σ : L2.St) (R : PyData → Prop) (N : Hp → L2.St → Prop) : Prop := ∀ G1 H n, Same G G1 → Same G1 H → ε.I n G1 H → n + c ≤ lim → ∀ D : Ends,
  (∀ v d G2 H2, Ext ε.M G1 H G2 H2 → ε.I (n + c) G2 H2 → Dt K G2 v d → R d → D.rt v H2) → (∀ σ' G2 H2, Ext ε.M G1 H G2 H2 → ε.I (n + c) G2 H2 → N G2 σ' → D.nx σ' H2) → ts D σ H
variable {R : PyData → Prop} {N M : Hp → L2.St → Prop} {ts tz : TS}
theorem SS.mono (h : SS ε K c G ts σ R N) (e : Same G G') : SS ε K c G' ts σ R N := fun G1 H n a => h G1 H n (e.trans a)
theorem SS.up (h : SS ε K c G ts σ R N) (k : c ≤ c2) : SS ε K c2 G ts σ R N := fun G1 H n a gh hI hl D hrt hnx => h G1 H n a gh hI (by omega) D (fun v d G2 H2 e hI2 => hrt v d G2 H2 e (ε.up (by omega) hI2)) fun σ' G2 H2 e hI2 => hnx σ' G2 H2 e (ε.up (by omega) hI2)
theorem ss_es (h : ES K G ts σ R N) : SS ε K 0 G ts σ R N := fun G1 H n a gh hI hl D hrt hnx => h G1 H a gh D (fun v d G2 H2 e => hrt v d G2 H2 e.toM (ε.stay hI e)) fun σ' G2 H2 e => hnx σ' G2 H2 e.toM (ε.stay hI e)
theorem ss_ret (h : EV ε K c G te σ P) (hr : ∀ d, P d → R d) : SS ε K c G (tRet te) σ R N := fun G1 H n a gh hI hl D hrt hnx => h G1 H n a gh hI hl _ fun v d G2 H2 e hI2 hv hp => hrt v d G2 H2 e hI2 hv (hr d hp)
theorem ss_seq (h : SS ε K c1 G ts σ R M) (k : ∀ G1 σ1, Same G G1 → M G1 σ1 → SS ε K c2 G1 tz σ1 R N) : SS ε K (c1 + c2) G (tSeq ts tz) σ R N := fun G1 H n a gh hI hl D hrt hnx =>
  h G1 H n a gh hI (by omega) { D with nx := tz D } (fun v d G2 H2 e hI2 => hrt v d G2 H2 e (ε.up (by omega) hI2)) fun σ1 G2 H2 e hI2 hm => k G2 σ1 (a.trans e.gg) hm G2 H2 (n + c1) (Same.refl G2) e.gh hI2 (by omega) D
    (fun v d G3 H3 e3 hI3 => hrt v d G3 H3 (e.trans e3 fun _ h => .inl h) (by rw [← Nat.add_assoc]; exact hI3)) (fun σ' G3 H3 e3 hI3 => hnx σ' G3 H3 (e.trans e3 fun _ h => .inl h) (by rw [← Nat.add_assoc]; exact hI3))
theorem ss_set {i : Nat} (h : EV ε K c1 G te σ P) (k : ∀ G1 x d, Same G G1 → Dt K G1 x d → P d → SS ε K c2 G1 tz (σ.set i (some x)) R N) : SS ε K (c1 + c2) G (tSeq (tAsg te (gName i)) tz) σ R N :=
  ss_seq (M := fun G1 σ1 => ∃ x d, Dt K G1 x d ∧ P d ∧ σ1 = σ.set i (some x)) (fun G1 H n a gh hI hl D hrt hnx => h G1 H n a gh hI hl _ fun v d G2 H2 e hI2 hv hp => hnx _ G2 H2 e hI2 ⟨v, d, hv, hp, rfl⟩) fun G1 σ1 a ⟨x, d, hx, hp, e⟩ => by rw [e]; exact k G1 x d a hx hp
theorem ss_if (h : TV ε K c1 G t σ Pb) (h1 : Pb true → SS ε K c2 G ts σ R N) (h2 : Pb false → SS ε K c2 G tz σ R N) : SS ε K (c1 + c2) G (tIfS t ts tz) σ R N := fun G1 H n a gh hI hl D hrt hnx => h G1 H n a gh hI (by omega) _ fun b G2 H2 e hI2 hb => by
  cases b with
  | true => exact iteT (h1 hb G2 H2 (n + c1) (a.trans e.gg) e.gh hI2 (by omega) D (fun v d G3 H3 e3 hI3 => hrt v d G3 H3 (e.trans e3 fun _ h => .inl h) (by rw [← Nat.add_assoc]; exact hI3)) (fun σ' G3 H3 e3 hI3 => hnx σ' G3 H3 (e.trans e3 fun _ h => .inl h) (by rw [← Nat.add_assoc]; exact hI3)))
  | false => exact iteF (h2 hb G2 H2 (n + c1) (a.trans e.gg) e.gh hI2 (by omega) D (fun v d G3 H3 e3 hI3 => hrt v d G3 H3 (e.trans e3 fun _ h => .inl h) (by rw [← Nat.add_assoc]; exact hI3)) (fun σ' G3 H3 e3 hI3 => hnx σ' G3 H3 (e.trans e3 fun _ h => .inl h) (by rw [← Nat.add_assoc]; exact hI3)))
theorem ss_when (h : TV ε K c1 G t σ Pb) (h1 : Pb true → SS ε K c2 G (tSeq ts tz) σ R N) (h2 : Pb false → SS ε K c2 G tz σ R N) : SS ε K (c1 + c2) G (tSeq (tIfS t ts tNext) tz) σ R N := fun G1 H n a gh hI hl D hrt hnx => h G1 H n a gh hI (by omega) _ fun b G2 H2 e hI2 hb => by
  cases b with
  | true => exact iteT (h1 hb G2 H2 (n + c1) (a.trans e.gg) e.gh hI2 (by omega) D (fun v d G3 H3 e3 hI3 => hrt v d G3 H3 (e.trans e3 fun _ h => .inl h) (by rw [← Nat.add_assoc]; exact hI3)) (fun σ' G3 H3 e3 hI3 => hnx σ' G3 H3 (e.trans e3 fun _ h => .inl h) (by rw [← Nat.add_assoc]; exact hI3)))
  | false => exact iteF (h2 hb G2 H2 (n + c1) (a.trans e.gg) e.gh hI2 (by omega) D (fun v d G3 H3 e3 hI3 => hrt v d G3 H3 (e.trans e3 fun _ h => .inl h) (by rw [← Nat.add_assoc]; exact hI3)) (fun σ' G3 H3 e3 hI3 => hnx σ' G3 H3 (e.trans e3 fun _ h => .inl h) (by rw [← Nat.add_assoc]; exact hI3)))
theorem ss_retSeq (h : EV ε K c G te σ P) (hr : ∀ d, P d → R d) : SS ε K c G (tSeq (tRet te) tz) σ R N := fun G1 H n a gh hI hl D hrt hnx => h G1 H n a gh hI hl _ fun v d G2 H2 e hI2 hv hp => hrt v d G2 H2 e hI2 hv (hr d hp)
end

/-! ### defs that draw: the state stands among the arguments (none), the others are data -/
inductive DtO (K : PySem.W.Frag) (p : Addr) (G : Hp) : V → Option PyData → Prop
  | st : DtO K p G (.ref p) none
  | dt {v : V} {d : PyData} : Dt K G v d → DtO K p G v (some d)
abbrev DtOs (K : PySem.W.Frag) (p : Addr) (G : Hp) : List V → List (Option PyData) → Prop := Paired (DtO K p G)
def SFn (ef : Addr → Eff) (K : PySem.W.Frag) (c : Nat) (Pre : List (Option PyData) → Prop) (R : List (Option PyData) → PyData → Prop) : Sp := fun vs H Q _ => ∃ (G : Hp) (p : Addr) (n : Nat) (os : List (Option PyData)), Same G H ∧ (ef p).I n G H ∧ n + c ≤ lim ∧ DtOs K p G vs os ∧ Pre os ∧
  ∀ v d G' H', Ext (ef p).M G H G' H' → (ef p).I (n + c) G' H' → Dt K G' v d → R os d → Q v H'
def AO (ε : Eff) (K : PySem.W.Frag) (p : Addr) (c : Nat) (G : Hp) (ta : TA) (σ : L2.St) (P : List (Option PyData) → Prop) : Prop := ∀ G1 H n, Same G G1 → Same G1 H → ε.I n G1 H → n + c ≤ lim → ∀ Q : List V → Hp → Prop, (∀ vs os G2 H2, Ext ε.M G1 H G2 H2 → ε.I (n + c) G2 H2 → DtOs K p G2 vs os → P os → Q vs H2) → ta σ H Q
theorem dtos_same {K : PySem.W.Frag} {p : Addr} {G G' : Hp} (e : Same G G') : ∀ {vs : List V} {os : List (Option PyData)}, DtOs K p G vs os → DtOs K p G' vs os
  | _, _, .nil => .nil
  | _, _, .cons (.st) hs => .cons .st (dtos_same e hs)
  | _, _, .cons (.dt h) hs => .cons (.dt (same_dt e h)) (dtos_same e hs)
section
variable {ef : Addr → Eff} {K : PySem.W.Frag} {p : Addr} {c c1 c2 : Nat} {G : Hp} {σ : L2.St} {ta te : TE} {tas : TA} {d : PyData} {P : PyData → Prop} {Ps : List (Option PyData) → Prop}
theorem ao_nil : AO (ef p) K p 0 G tNil σ (fun os => os = []) := fun G1 H n a gh hI hl Q q => q [] [] G1 H (Ext.refl gh) hI .nil rfl
theorem ao_st {i : Nat} (h : σ[i]? = some (some (.ref p))) (hs : AO (ef p) K p c G tas σ Ps) : AO (ef p) K p c G (tCons (tVar i) tas) σ (fun os => ∃ os', os = none :: os' ∧ Ps os') := fun G1 H n a gh hI hl Q q =>
  ⟨_, h, hs G1 H n a gh hI hl _ fun vs os G2 H2 e hI2 hv hp => q _ _ G2 H2 e hI2 (.cons .st hv) ⟨os, rfl, hp⟩⟩
theorem ao_cons (h : EV (ef p) K c1 G ta σ P) (hs : AO (ef p) K p c2 G tas σ Ps) : AO (ef p) K p (c1 + c2) G (tCons ta tas) σ (fun os => ∃ d os', os = some d :: os' ∧ P d ∧ Ps os') := fun G1 H n a gh hI hl Q q =>
  h G1 H n a gh hI (by omega) _ fun x d G2 H2 e2 hI2 hx hp => hs G2 H2 (n + c1) (a.trans e2.gg) e2.gh hI2 (by omega) _ fun vs os G3 H3 e3 hI3 hv hps =>
    q _ _ G3 H3 (e2.trans e3 fun _ h => .inl h) (by rw [← Nat.add_assoc]; exact hI3) (.cons (.dt (same_dt e3.gg hx)) hv) ⟨d, os, rfl, hp, hps⟩
theorem ev_sfn {Pre : List (Option PyData) → Prop} {R : List (Option PyData) → PyData → Prop} {E : XK} (h : AO (ef p) K p c1 G tas σ Ps) (hr : ∀ os, Ps os → Pre os ∧ ∀ d, R os d → P d) : EV (ef p) K (c1 + c) G (tCall (SFn ef K c Pre R) [] E tas) σ P := fun G1 H n a gh hI hl Q q => h G1 H n a gh hI (by omega) _ fun vs os G2 H2 e hI2 hv hps => by
  rw [List.append_nil]
  obtain ⟨h1, h2⟩ := hr os hps
  exact ⟨G2, p, n + c1, os, e.gh, hI2, by omega, hv, h1, fun v d G3 H3 e3 hI3 hv3 hR => q v d G3 H3 (e.trans e3 fun _ h => .inl h) (by rw [← Nat.add_assoc]; exact hI3) hv3 (h2 d hR)⟩
end
section
variable {P : Program} {w : World} {K : PySem.W.Frag} {mg : Str → Option Value} {base : Heap} {ef : Addr → Eff}
theorem paired_len {α β : Type} {F : α → β → Prop} : ∀ {xs : List α} {ys : List β}, Paired F xs ys → xs.length = ys.length
  | _, _, .nil => rfl
  | _, _, .cons _ h => by simp [paired_len h]
theorem FnIn.draw {x : Str} {st : Stmt} {N ps : List Str} {k c : Nat} {Pre : List (Option PyData) → Prop} {R : List (Option PyData) → PyData → Prop} (F : FnIn K mg x st) (S : FnScope N ps (defScope st)) (len : ∀ os, Pre os → os.length = ps.length)
    (hb : ∀ (kV doc pm : Value) (an : Option Addr) (cdv ct : Value) (us : List Value), us.length = ps.length → bindArgs (PySem.W.fnOf x x (defArgs st) (defBody st) (defScope st) .none kV doc pm an cdv ct) ⟨us, []⟩ = Pure.pure (ps.zip us))
    (body : ∀ (f : Addr) (cdv : Value) (A : Around) (outer : List Env) (s : Shared) (H : Hp) (E : XK), Room k (A.deeper (PyProof.Rows.envOfC x (defScope st) s.heap.objs.size f cdv)) →
      ∃ t, PSs (cxOf CX0 P w K mg base N x (defScope st) f cdv A outer s H E).nox (defBody st) t ∧ ∀ G p vs os, DtOs K p G vs os → Pre os → SS (ef p) K c G t (start N vs) (R os) (fun _ _ => R os .none)) : Has P w K mg base CX0 (k + 1) x ps (SFn ef K c Pre R) := by
  refine F.ok S (fun vs H Q E ⟨G, p, n, os, gh, hI, hl, hv, hp, q⟩ => (paired_len hv).trans (len os hp)) hb (fun f cdv A outer s H vs Q E hr ⟨G, p, n, os, gh, hI, hl, hv, hp, q⟩ => ?_)
  obtain ⟨t, ht, hs⟩ := body f cdv A outer s H E hr
  refine ⟨t, ht, hs G p vs os hv hp G H n (Same.refl G) gh hI hl _ (fun v d G2 H2 e hI2 hv hR => q v d G2 H2 e hI2 hv hR) (fun σ' G2 H2 e hI2 hR => q .non .none G2 H2 e hI2 .non hR)⟩
end
end S

set_option linter.unusedVariables false
namespace S
open PySem L2
/-! ### texts by their signs -/
def mkS (l : List Nat) : Str := ⟨l.toArray⟩
theorem mkS_list (l : List Nat) : (mkS l).cps.toList = l := rfl
theorem mkS_len (l : List Nat) : (mkS l).length = l.length := by show l.toArray.size = _; simp
theorem mkS_of (x : Str) : x = mkS x.cps.toList := by cases x; rfl
theorem mkS_inj {l m : List Nat} (h : mkS l = mkS m) : l = m := by
  have := congrArg (fun x : Str => x.cps.toList) h
  exact this
theorem mkS_app (l m : List Nat) : mkS l ++ mkS m = mkS (l ++ m) := by
  show Str.append _ _ = _
  unfold Str.append mkS
  simp
theorem mkS_size (l : List Nat) : (mkS l).cps.size = l.length := mkS_len l
theorem mkS_getD (l : List Nat) (i : Nat) : (mkS l).cps.getD i 0 = l.getD i 0 := by
  rw [Array.getD_eq_getD_getElem?, List.getD_eq_getElem?_getD]
  show (l.toArray[i]?).getD 0 = _
  rw [List.getElem?_toArray]
/-- one sign -/
abbrev sg (c : Nat) : Str := ⟨#[c]⟩
theorem joinL_flat : ∀ ps : List (List Nat), TL.joinL [] ps = ps.flatten
  | [] => rfl
  | [p] => by simp [TL.joinL]
  | p :: q :: r => by
    rw [TL.joinL, joinL_flat (q :: r)]
    simp
theorem join_texts (ls : List (List Nat)) : Txt.join "" (ls.map mkS) = mkS ls.flatten := by
  have h : TL.tl (Txt.join "" (ls.map mkS)) = ls.flatten := by
    rw [TL.join_eq, TL.tl_join]
    have e : (ls.map mkS).map TL.tl = ls := by
      rw [List.map_map]
      exact List.map_id'' (fun l => rfl) ls
    rw [e, show TL.tl ("" : Str) = [] from by decide +kernel, joinL_flat]
  rw [mkS_of (Txt.join "" (ls.map mkS))]
  exact congrArg mkS h
theorem flat_one : ∀ l : List Nat, (l.map fun c => [c]).flatten = l
  | [] => rfl
  | a :: l => by rw [List.map_cons, List.flatten_cons, flat_one l]; rfl
theorem join_signs (l : List Nat) : Txt.join "" (l.map sg) = mkS l := by
  have e : l.map sg = (l.map fun c => [c]).map mkS := by
    rw [List.map_map]
    rfl
  rw [e, join_texts]
  congr 1
  exact flat_one l
theorem cutS_mk (l : List Nat) (lo hi : Option Int) : cutS (mkS l) lo hi = mkS ((l.drop (HT.sIx l.length 0 lo)).take (HT.sIx l.length l.length hi - HT.sIx l.length 0 lo)) := by
  unfold cutS
  rw [mkS_len]
  rfl
theorem strOk_mk {l : List Nat} (h : ∀ c ∈ l, c < 1114112) : PyData.strOk (mkS l) = true := by
  unfold PyData.strOk mkS
  simp only [List.all_toArray, List.all_eq_true, decide_eq_true_eq]
  exact h
theorem sum_sg (l : List Nat) : ((l.map sg).map (·.length)).sum = l.length := by
  induction l with
  | nil => rfl
  | cons a l ih =>
    rw [List.map_cons, List.map_cons, List.sum_cons, ih, List.length_cons]
    show 1 + l.length = _
    omega
/-! ### data that may be compared -/
def ShD (n : Nat) (d : PyData) : Prop := d.canLay0 = true ∧ d.depth ≤ n
theorem ShD.ok {n : Nat} {d : PyData} (h : ShD n d) (hn : n ≤ 64 := by decide) : SeqAt.shaped d = true := by
  unfold SeqAt.shaped
  rw [h.1, decide_eq_true (Nat.le_trans h.2 hn)]
  rfl
theorem sh_int {n : Nat} {i : Int} : ShD n (.int i) := ⟨by simp [PyData.canLay0], by simp [PyData.depth]⟩
theorem sh_bool {n : Nat} {b : Bool} : ShD n (.bool b) := ⟨by simp [PyData.canLay0], by simp [PyData.depth]⟩
theorem sh_none {n : Nat} : ShD n .none := ⟨by simp [PyData.canLay0], by simp [PyData.depth]⟩
theorem sh_str {n : Nat} {z : Str} (h : PyData.strOk z = true) : ShD n (.str z) := ⟨by simp [PyData.canLay0, h], by simp [PyData.depth]⟩
theorem sh_txt {n : Nat} {l : List Nat} (h : ∀ c ∈ l, c < 1114112) : ShD n (.str (mkS l)) := sh_str (strOk_mk h)
theorem sh_all {n : Nat} : ∀ {ds : List PyData}, (∀ x ∈ ds, ShD n x) → PyData.canLayAll0 ds = true ∧ PyData.depthAll ds ≤ n
  | [], _ => ⟨by simp [PyData.canLayAll0], by simp [PyData.depthAll]⟩
  | d :: ds, h => by
    obtain ⟨h1, h2⟩ := h d (by simp)
    obtain ⟨h3, h4⟩ := sh_all (ds := ds) fun x hx => h x (by simp [hx])
    refine ⟨by simp [PyData.canLayAll0, h1, h3], ?_⟩
    rw [PyData.depthAll]
    omega
theorem sh_list {n : Nat} {ds : List PyData} (h : ∀ x ∈ ds, ShD n x) : ShD (n + 1) (.list ds) := by
  obtain ⟨h1, h2⟩ := sh_all h
  exact ⟨by simp [PyData.canLay0, h1], by rw [PyData.depth]; omega⟩
theorem sh_tuple {n : Nat} {ds : List PyData} (h : ∀ x ∈ ds, ShD n x) : ShD (n + 1) (.tuple ds) := by
  obtain ⟨h1, h2⟩ := sh_all h
  exact ⟨by simp [PyData.canLay0, h1], by rw [PyData.depth]; omega⟩
theorem ShD.up {n m : Nat} {d : PyData} (h : ShD n d) (k : n ≤ m) : ShD m d := ⟨h.1, Nat.le_trans h.2 k⟩
/-- f tells things apart -/
def EqF {α : Type} [DecidableEq α] (f : α → PyData) : Prop := ∀ x y, PyData.eqv (f x) (f y) = decide (x = y)
theorem eqf_int : EqF PyData.int := fun x y => by rw [PyData.eqv]; exact Bool.eq_iff_iff.mpr (by simp)
theorem eqf_bool : EqF PyData.bool := fun x y => by rw [PyData.eqv]; exact Bool.eq_iff_iff.mpr (by simp)
theorem eqf_str : EqF PyData.str := fun x y => by rw [PyData.eqv]; exact Bool.eq_iff_iff.mpr (by simp)
theorem eqf_txt : EqF (fun l => PyData.str (mkS l)) := fun x y => by
  rw [eqf_str]
  by_cases h : x = y
  · subst h; simp
  · rw [decide_eq_false h, decide_eq_false fun e => h (mkS_inj e)]
theorem eqvAll_map {α : Type} [DecidableEq α] {f : α → PyData} (h : EqF f) : ∀ xs ys : List α, PyData.eqvAll (xs.map f) (ys.map f) = decide (xs = ys)
  | [], [] => by simp [PyData.eqvAll]
  | [], y :: ys => by simp [PyData.eqvAll]
  | x :: xs, [] => by simp [PyData.eqvAll]
  | x :: xs, y :: ys => by
    rw [List.map_cons, List.map_cons, PyData.eqvAll, h x y, eqvAll_map h xs ys]
    exact Bool.eq_iff_iff.mpr (by simp)
theorem eqf_list {α : Type} [DecidableEq α] {f : α → PyData} (h : EqF f) : EqF (fun xs : List α => PyData.list (xs.map f)) := fun xs ys => by rw [PyData.eqv]; exact eqvAll_map h xs ys
theorem eqf_tuple {α : Type} [DecidableEq α] {f : α → PyData} (h : EqF f) : EqF (fun xs : List α => PyData.tuple (xs.map f)) := fun xs ys => by rw [PyData.eqv]; exact eqvAll_map h xs ys
theorem eqv_nil {ds : List PyData} : PyData.eqv (.list ds) (.list []) = ds.isEmpty := by
  rw [PyData.eqv]
  cases ds with
  | nil => simp [PyData.eqvAll]
  | cons a l => simp [PyData.eqvAll]
section
variable {K : PySem.W.Frag} {G : Hp} {σ : L2.St} {ta tb tc te : TE} {d d1 d2 d3 : PyData} {ds es : List PyData} {b c : Bool} {r r' : R2} {to tp : TO}
/-- a text of signs that were gathered -/
theorem md_joinS (l : List Nat) (h : l.length ≤ 10000) : MD K (fun x xs H Q => ∃ a p, ∃ ys : List Str, x = .str a ∧ xs = [.ref p] ∧ (SqL K H p (ys.map V.str) ∨ SqT K H p (ys.map V.str)) ∧ (ys.map (·.length)).sum + ys.length * a.length ≤ 16777216 ∧ Q (.str (Txt.join a ys)) H)
    (.str "") [.list (l.map fun c => .str (sg c))] (.str (mkS l)) := by
  have m := md_join (K := K) (a := "") (ys := l.map sg) (by rw [sum_sg, show Str.length "" = 0 from by decide +kernel]; omega)
  rw [join_signs, List.map_map] at m
  exact m
theorem r2_inS {x : Nat} {z : Str} : R2D K (fun x y H Q => ∃ (c : Nat) (z : Str), x = .str ⟨#[c]⟩ ∧ y = .str z ∧ Q (.bl (decide (c ∈ z.cps.toList))) H) (.str (sg x)) (.str z) (.bool (decide (x ∈ z.cps.toList))) := fun v w G H gh hx hy Q q => by
  rw [dt_str hx, dt_str hy]
  exact ⟨x, z, rfl, rfl, q _ G H (Ext.refl gh) (.bl _)⟩
theorem r2_inNotS {x : Nat} {z : Str} : R2D K (fun x y H Q => ∃ (c : Nat) (z : Str), x = .str ⟨#[c]⟩ ∧ y = .str z ∧ Q (.bl (!decide (c ∈ z.cps.toList))) H) (.str (sg x)) (.str z) (.bool (!decide (x ∈ z.cps.toList))) := fun v w G H gh hx hy Q q => by
  rw [dt_str hx, dt_str hy]
  exact ⟨x, z, rfl, rfl, q _ G H (Ext.refl gh) (.bl _)⟩
/-- a < b < c -/
theorem ed_chain (ha : ED K G ta σ d1) (hb : ED K G tb σ d2) (hr : R2D K r d1 d2 (.bool b)) (hc : ED K G tc σ d3) (hr' : R2D K r' d2 d3 (.bool c)) : ED K G (tChain r r' ta tb tc) σ (.bool (b && c)) := fun G1 H a gh Q q =>
  ha G1 H a gh _ fun x G2 H2 e2 hx => hb G2 H2 (a.trans e2.gg) e2.gh _ fun y G3 H3 e3 hy => hr x y G3 H3 e3.gh (same_dt e3.gg hx) hy _ fun z G4 H4 e4 hz => ⟨b, dt_bool hz, by
    have e24 := (e2.same e3).same e4
    cases b with
    | false => exact iteF (q _ G4 H4 e24 (.bl _))
    | true => exact iteT (hc G4 H4 (a.trans e24.gg) e24.gh _ fun w G5 H5 e5 hw => hr' y w G5 H5 e5.gh (same_dt (e4.gg.trans e5.gg) hy) hw Q fun v G6 H6 e6 hv => q v G6 H6 ((e24.same e5).same e6) hv)⟩
/-- slices -/
theorem eo_none : EO K G tNoPart σ none := fun G1 H a gh Q q => q G1 H (Ext.refl gh)
theorem eo_some {i : Int} (h : ED K G te σ (.int i)) : EO K G (tPart te) σ (some i) := fun G1 H a gh Q q => h G1 H a gh _ fun v G2 H2 e hv => ⟨i, dt_int hv, q G2 H2 e⟩
def cutD (ds : List PyData) (lo hi : Option Int) : List PyData := (ds.drop (HT.sIx ds.length 0 lo)).take (HT.sIx ds.length ds.length hi - HT.sIx ds.length 0 lo)
theorem dts_cut {xs : List V} {lo hi : Option Int} (h : DtAll K G xs ds) : DtAll K G (cutV xs lo hi) (cutD ds lo hi) := by
  unfold cutV cutD
  rw [dts_len h]
  exact dts_take _ (dts_drop _ h)
theorem ed_slL {lo hi : Option Int} (h : ED K G te σ (.list ds)) (hl : EO K G to σ lo) (hh : EO K G tp σ hi) : ED K G (tSl (rSlL K) te to tp) σ (.list (cutD ds lo hi)) := fun G1 H a gh Q q =>
  h G1 H a gh _ fun x G2 H2 e2 hx => hl G2 H2 (a.trans e2.gg) e2.gh _ fun G3 H3 e3 => hh G3 H3 ((a.trans e2.gg).trans e3.gg) e3.gh _ fun G4 H4 e4 => by
    obtain ⟨p, xs, rfl, hq, hs⟩ := dt_list (same_dt (e3.gg.trans e4.gg) hx) e4.gh
    refine ⟨p, xs, rfl, hq, fun l hl => q _ _ _ (((e2.same e3).same e4).same (Ext.new e4.gh hl)) (.lst upd_same (dts_cut (same_dts (same_new (e4.gh.free hl)) hs)))⟩
theorem ed_slS {l : List Nat} {lo hi : Option Int} (h : ED K G te σ (.str (mkS l))) (hl : EO K G to σ lo) (hh : EO K G tp σ hi) (hz : l.length ≤ 10000) : ED K G (tSl rSlS te to tp) σ (.str (mkS ((l.drop (HT.sIx l.length 0 lo)).take (HT.sIx l.length l.length hi - HT.sIx l.length 0 lo)))) := fun G1 H a gh Q q =>
  h G1 H a gh _ fun x G2 H2 e2 hx => hl G2 H2 (a.trans e2.gg) e2.gh _ fun G3 H3 e3 => hh G3 H3 ((a.trans e2.gg).trans e3.gg) e3.gh _ fun G4 H4 e4 => by
    rw [dt_str hx]
    refine ⟨_, rfl, by rw [mkS_len]; exact Nat.le_trans hz (by decide), ?_⟩
    rw [cutS_mk]
    exact q _ G4 H4 ((e2.same e3).same e4) (.str _)
/-- t[a:b]: a new tuple, or the same one -/
theorem ed_slT {lo hi : Option Int} (h : ED K G te σ (.tuple ds)) (hl : EO K G to σ lo) (hh : EO K G tp σ hi) : ED K G (tSl (rSlA K) te to tp) σ (.tuple (cutD ds lo hi)) := fun G1 H a gh Q q =>
  h G1 H a gh _ fun x G2 H2 e2 hx => hl G2 H2 (a.trans e2.gg) e2.gh _ fun G3 H3 e3 => hh G3 H3 ((a.trans e2.gg).trans e3.gg) e3.gh _ fun G4 H4 e4 => by
    have hx4 := same_dt (e3.gg.trans e4.gg) hx
    obtain ⟨p, xs, rfl, hq, hs⟩ := dt_tuple hx4 e4.gh
    refine ⟨p, xs, rfl, hq, fun ⟨z1, z2⟩ => q _ _ _ ((e2.same e3).same e4) ?_, fun _ l hl => q _ _ _ (((e2.same e3).same e4).same (Ext.new e4.gh hl)) (.tup (SqT.of upd_same) (dts_cut (same_dts (same_new (e4.gh.free hl)) hs)))⟩
    have e : cutD ds lo hi = ds := by
      unfold cutD
      rw [dts_len hs] at z1 z2
      rw [z1, z2]
      simp
    rw [e]
    exact hx4
theorem r2_cat (h : ds.length + es.length ≤ 10000) : R2D K rCat (.list ds) (.list es) (.list (ds ++ es)) := fun x y G H gh hx hy Q q => by
  obtain ⟨a, xs, rfl, h1, h2⟩ := dt_lst hx gh
  obtain ⟨a', ys, rfl, h3, h4⟩ := dt_lst hy gh
  exact ⟨_, _, _, _, rfl, rfl, h1, h3, by rw [dts_len h2, dts_len h4]; exact Nat.le_trans h (by decide), fun p hp => q _ _ _ (Ext.new gh hp) (.lst upd_same (dts_app (same_dts (same_new (gh.free hp)) h2) (same_dts (same_new (gh.free hp)) h4)))⟩
theorem r2_catT (h : ds.length + es.length ≤ 10000) : R2D K (rCatA K) (.tuple ds) (.tuple es) (.tuple (ds ++ es)) := fun x y G H gh hx hy Q q => by
  obtain ⟨a, xs, rfl, h1, h2⟩ := dt_tuple hx gh
  obtain ⟨a', ys, rfl, h3, h4⟩ := dt_tuple hy gh
  refine ⟨_, _, _, _, rfl, rfl, h1, h3, by rw [dts_len h2, dts_len h4]; exact Nat.le_trans h (by decide), fun e => q _ _ _ (Ext.refl gh) ?_, fun _ e => q _ _ _ (Ext.refl gh) ?_, fun _ _ p hp => q _ _ _ (Ext.new gh hp) (.tup (SqT.of upd_same) (dts_app (same_dts (same_new (gh.free hp)) h2) (same_dts (same_new (gh.free hp)) h4)))⟩
  · subst e
    cases h2
    exact hy
  · subst e
    cases h4
    rw [List.append_nil]
    exact hx
/-- list(xs), list(t), tuple(xs) -/
theorem cb_listL : CBD K (fun xs H Q => ∃ p ys, xs = [.ref p] ∧ (SqL K H p ys ∨ SqT K H p ys) ∧ ∀ l, H l = none → Q (.ref l) (upd H l (.lst ys))) [.list ds] (.list ds) := fun vs G H gh h Q q => by
  obtain ⟨v, rfl, hv⟩ := dts1 h
  obtain ⟨a, xs, rfl, hl, hs⟩ := dt_list hv gh
  exact ⟨a, xs, rfl, .inl hl, fun l hl => q _ _ _ (Ext.new gh hl) (.lst upd_same (same_dts (same_new (gh.free hl)) hs))⟩
theorem cb_listT : CBD K (fun xs H Q => ∃ p ys, xs = [.ref p] ∧ (SqL K H p ys ∨ SqT K H p ys) ∧ ∀ l, H l = none → Q (.ref l) (upd H l (.lst ys))) [.tuple ds] (.list ds) := fun vs G H gh h Q q => by
  obtain ⟨v, rfl, hv⟩ := dts1 h
  obtain ⟨a, xs, rfl, hl, hs⟩ := dt_tuple hv gh
  exact ⟨a, xs, rfl, .inr hl, fun l hl => q _ _ _ (Ext.new gh hl) (.lst upd_same (same_dts (same_new (gh.free hl)) hs))⟩
theorem ed_dict0 : ED K G tDNewK σ (.dict []) := fun G1 H a gh Q q p hp => q _ _ _ (Ext.new gh hp) (.dct upd_same .nil)
end
end S

set_option linter.unusedVariables false
/-! zip of two texts -/
namespace S
open PySem PySem.Spec PyProof.Rows L2
def ItzS (x y : Str) : It :=
  ⟨fun i _ => i < x.cps.size ∧ i < y.cps.size,
    fun i H v H' => ∃ T c1 c2, v = .ref T ∧ H T = none ∧ H' = upd H T (.tup [.str ⟨#[c1]⟩, .str ⟨#[c2]⟩]) ∧ x.cps[i]? = some c1 ∧ y.cps[i]? = some c2,
    fun i _ => i ≤ x.cps.size ∧ i ≤ y.cps.size ∧ (i = x.cps.size ∨ i = y.cps.size)⟩
theorem turn_zipS {P : Program} {w : World} {K : PySem.W.Frag} {elts : List Expr} {kk : Nat} {tpos : Pos} {x y : Str} {t1 t2 : Tok} {z TI TO i1 i2 : Addr} (D : ZipSep2 z TI TO i1 i2 [i1] [i2]) :
    Turn P w K (.Tuple elts kk tpos) (ItzS x y) [z, TI, TO, i1, i2] z (fun i h => IsZip h z TI TO .none ∧ IsTupOf2 h TI (.ref i1) (.ref i2) ∧ (∃ a b, IsTupOf2 h TO a b) ∧ h.IsStrIter i1 (strIterType x) x t1 i ∧ h.IsStrIter i2 (strIterType y) y t2 i) where
  mem := by simp
  obj := fun i h st c hc => by
    obtain ⟨hz, hTI, ⟨x, y, hTO⟩, ⟨o1, e1, _, d1⟩, ⟨o2, e2, _, d2⟩⟩ := st
    have e' : c = z ∨ c = TI ∨ c = TO ∨ c = i1 ∨ c = i2 := by simpa using hc
    rcases e' with q | q | q | q | q
    · rw [q]; exact ⟨_, hz, fun v q => nomatch q⟩
    · rw [q]; exact ⟨_, hTI, fun v q => nomatch q⟩
    · rw [q]; exact ⟨_, hTO, fun v q => nomatch q⟩
    · rw [q]; exact ⟨o1, e1, fun v q => by rw [d1] at q; cases q⟩
    · rw [q]; exact ⟨o2, e2, fun v q => by rw [d2] at q; cases q⟩
  keep := fun i h h' st k => by
    obtain ⟨hz, hTI, ⟨x, y, hTO⟩, ⟨o1, e1, r1⟩, ⟨o2, e2, r2⟩⟩ := st
    exact ⟨k z (by simp) _ hz, k TI (by simp) _ hTI, ⟨x, y, k TO (by simp) _ hTO⟩, ⟨o1, k i1 (by simp) o1 e1, r1⟩, ⟨o2, k i2 (by simp) o2 e2, r2⟩⟩
  item := by
    intro X hP hw hK hc i pins s σ H E I hf st hg
    subst hP hw hK
    obtain ⟨hz, hTI, ⟨x0, y0, hTO⟩, h1, h2⟩ := st
    obtain ⟨hg1, hg2⟩ := hg
    have hzl : z < s.heap.objs.size := Heap.lt_size hz
    have D1 := Draws.text (prog := X.prog) (w := X.w) (A := X.A.in1) (I.ok.hd hc) i1 x t1
    have D2 := Draws.text (prog := X.prog) (w := X.w) (A := X.A.in1) (I.ok.hd hc) i2 y t2
    refine wpAny_pyNext_zipD2_item D D1 D2 hz hTI hTO h1 h2 hg1 hg2 fun u u2 h' tk p1 p2 z' TO' h1' h2' hT hsz hk => ?_
    obtain ⟨c1, tu, hc1, rfl⟩ := p1
    obtain ⟨c2, tu2, hc2, rfl⟩ := p2
    refine ⟨_, rfl, wpAny_letOwnedTupleGo_zip (s := { s with heap := h', toks := tk }) z' fun h'' z'' sb => ?_⟩
    have hT2 : h''.get? s.heap.objs.size = some { cls := .type "tuple", data := .seq #[.str ⟨#[c1]⟩ tu, .str ⟨#[c2]⟩ tu2] } := (sb.2 _ (Nat.ne_of_gt hzl)).trans hT
    have new : ObjOk X.prog X.w (upd H s.heap.objs.size (.tup [.str ⟨#[c1]⟩, .str ⟨#[c2]⟩])) h'' s.heap.objs.size (.tup [.str ⟨#[c1]⟩, .str ⟨#[c2]⟩]) :=
      ⟨by show 2 ≤ sizeLine; decide, [.str ⟨#[c1]⟩ tu, .str ⟨#[c2]⟩ tu2], .cons ⟨_, rfl⟩ (.cons ⟨_, rfl⟩ .nil), ⟨_, hT2, rfl, _, rfl⟩⟩
    have I1 : Inv X pins σ (upd H s.heap.objs.size (.tup [.str ⟨#[c1]⟩, .str ⟨#[c2]⟩])) { s with heap := h'', toks := tk } :=
      I.turnedNew (t' := tk) (ch := [z, TI, TO, i1, i2]) (fun c o hb q => (sb.2 c (fun q' => hb (by simp [q']))).trans (hk c o (fun q' => hb (by simp [q'])) (fun q' => hb (by simp [q'])) (fun q' => hb (by simp [q'])) (fun q' => hb (by simp [q'])) q)) hf (Nat.le_refl _) new
    have zi1 : i1 ≠ z := D.zi1.symm
    have zi2 : i2 ≠ z := D.zi2.symm
    refine ⟨.ref s.heap.objs.size, _, I1, rfl, ⟨_, c1, c2, rfl, I.hok.fresh (Nat.le_refl _), rfl, hc1, hc2⟩, ⟨z'', ?_, ⟨.str ⟨#[c1]⟩ tu, .str ⟨#[c2]⟩ tu2, ?_⟩, ?_, ?_⟩, fun c hcm => ?_⟩
    · exact (sb.2 _ D.TIz).trans (hk _ _ D.TIz D.TITO D.TIi1 D.TIi2 hTI)
    · exact (sb.2 _ D.TOz).trans TO'
    · obtain ⟨o1, e1, r1⟩ := h1'
      exact ⟨o1, (sb.2 _ zi1).trans e1, r1⟩
    · obtain ⟨o2, e2, r2⟩ := h2'
      exact ⟨o2, (sb.2 _ zi2).trans e2, r2⟩
    · have hlt : c < s.heap.objs.size := by
        have e' : c = z ∨ c = TI ∨ c = TO ∨ c = i1 ∨ c = i2 := by simpa using hcm
        rcases e' with q | q | q | q | q
        · rw [q]; exact hzl
        · rw [q]; exact Heap.lt_size hTI
        · rw [q]; exact Heap.lt_size hTO
        · rw [q]; obtain ⟨_, e1, _⟩ := h1; exact Heap.lt_size e1
        · rw [q]; obtain ⟨_, e2, _⟩ := h2; exact Heap.lt_size e2
      rw [upd_ne (Nat.ne_of_lt hlt)]
      exact (hf c hcm).1
  done := by
    intro X hP hw hK hc i pins s σ H E I hf st hg
    subst hP hw hK
    obtain ⟨hz, hTI, ⟨x0, y0, hTO⟩, h1, h2⟩ := st
    obtain ⟨l1, l2, he⟩ := hg
    have D1 := Draws.text (prog := X.prog) (w := X.w) (A := X.A.in1) (I.ok.hd hc) i1 x t1
    have D2 := Draws.text (prog := X.prog) (w := X.w) (A := X.A.in1) (I.ok.hd hc) i2 y t2
    exact wpAny_pyNext_zipD2_end D D1 D2 hz hTI hTO h1 h2 l1 l2 he fun h' tk hk => ⟨rfl, I.turnedL (t' := tk) (ch := [z, TI, TO, i1, i2]) (fun c o hb q =>
      hk c o (fun q' => hb (by simp [q'])) (fun q' => hb (by simp [q'])) (fun q' => hb (by simp [q'])) (fun q' => hb (by simp [q'])) q) hf⟩
  self := fun A i s Q E st h => wpAny_pyIter_zip st.1 h
/-- zip of two texts -/
def iZipS (ta : TA) : TI := fun σ H R => ta σ H fun vs H1 => ∃ x y, vs = [.str x, .str y] ∧ R (ItzS x y) H1
theorem pi_zipS {X : Cx} {e e2 : Expr} {ta : TA} {p pos tpos : Pos} {elts : List Expr} {kk : Nat} (hg : Gl X "zip") (hm : X.mg "zip" = none) (ha : PA X [e, e2] ta)
    (hs : starEach [e, e2] X.env = (false, eval e X.env) :: starEach [e2] X.env := by rfl) (hpl : (backTo pos (starEach [e2] X.env)).any (·.1) = false := by rfl) :
    PI X (.Tuple elts kk tpos) (.Call (.Name "zip" p) [e, e2] [] pos) (iZipS ta) := by
  refine ⟨fun pins s σ H R I h => ?_⟩
  refine Call_ (ld_blt I hg hm PyProof.Rows.boot_zip (PyProof.Rows.callWith_type1 (thn (ha.run pos pins s σ H _ I h) fun us s1 ⟨vs, H1, I1, r1, q1⟩ => ?_) hs hpl))
  obtain ⟨x, y, ex, q⟩ := q1
  subst ex
  cases r1 with
  | cons r rr =>
    cases rr with
    | cons r' rr =>
      cases rr
      obtain ⟨t1, rfl⟩ := r
      obtain ⟨t2, rfl⟩ := r'
      have fresh5 : ∀ c, c ∈ [s1.heap.objs.size + 4, s1.heap.objs.size + 2, s1.heap.objs.size + 3, s1.heap.objs.size, s1.heap.objs.size + 1] → FpOk X pins H1 c := fun c hcm => by
        have e' : c = s1.heap.objs.size + 4 ∨ c = s1.heap.objs.size + 2 ∨ c = s1.heap.objs.size + 3 ∨ c = s1.heap.objs.size ∨ c = s1.heap.objs.size + 1 := by simpa using hcm
        have hle : s1.heap.objs.size ≤ c := by
          rcases e' with z | z | z | z | z
          · rw [z]; exact Nat.le_add_right _ _
          · rw [z]; exact Nat.le_add_right _ _
          · rw [z]; exact Nat.le_add_right _ _
          · rw [z]; exact Nat.le_refl _
          · rw [z]; exact Nat.le_add_right _ _
        exact I1.fpOk hle (I1.hok.fresh hle)
      refine zip_begins2 (begins_text x t1) (begins_text y t2) trivial trivial fun h' hz hTI hTO h1 h2 hsz hk => wpAny_pyIter_zip hz ?_
      have I2 : Inv X pins σ H1 { s1 with heap := h' } := I1.kept (t' := s1.toks) hk
      have D : ZipSep2 (s1.heap.objs.size + 4) (s1.heap.objs.size + 2) (s1.heap.objs.size + 3) s1.heap.objs.size (s1.heap.objs.size + 1) [s1.heap.objs.size] [s1.heap.objs.size + 1] := by
        constructor <;> simp
      exact ⟨s1.heap.objs.size + 4, [s1.heap.objs.size + 4, s1.heap.objs.size + 2, s1.heap.objs.size + 3, s1.heap.objs.size, s1.heap.objs.size + 1], _, _, H1, rfl, I2, turn_zipS D, ⟨hz, hTI, ⟨_, _, hTO⟩, ⟨_, h1, rfl, rfl⟩, ⟨_, h2, rfl, rfl⟩⟩, fresh5, q⟩
end S

set_option linter.unusedVariables false
namespace S
open PySem L2
/-! ### what is new, what is forgotten -/
/-- of what is known in G', all that wasn't tracked in H -/
def news (H G' : Hp) : Hp := fun a => match H a with | none => G' a | some _ => none
theorem news_le {H G : Hp} : Same (news H G) G := fun a u h => by
  unfold news at h
  cases e : H a with
  | none => rw [e] at h; exact h
  | some o => rw [e] at h; cases h
theorem news_at {H G : Hp} {a : Addr} {u : HO} (h : H a = none) (g : G a = some u) : news H G a = some u := by
  unfold news
  rw [h]
  exact g
theorem news_of {H G : Hp} {a : Addr} {u : HO} (h : news H G a = some u) : H a = none ∧ G a = some u := by
  refine ⟨?_, news_le a u h⟩
  cases e : H a with
  | none => rfl
  | some o => unfold news at h; rw [e] at h; cases h
theorem news_mono {H H1 G G1 : Hp} (d : ∀ a, H1 a = none → H a = none) (g : Same G G1) : Same (news H1 G) (news H G1) := fun a u h => by
  obtain ⟨h1, h2⟩ := news_of h
  exact news_at (d a h1) (g a u h2)
def hide (l : Addr) (G : Hp) : Hp := fun a => if a = l then none else G a
theorem hide_ne {l a : Addr} {G : Hp} (h : a ≠ l) : hide l G a = G a := if_neg h
theorem hide_self {l : Addr} {G : Hp} : hide l G l = none := if_pos rfl
theorem hide_of {l a : Addr} {G : Hp} {u : HO} (h : hide l G a = some u) : a ≠ l ∧ G a = some u := by
  by_cases e : a = l
  · subst e; rw [hide_self] at h; cases h
  · rw [hide_ne e] at h; exact ⟨e, h⟩
theorem hide_le {l : Addr} {G : Hp} : Same (hide l G) G := fun a u h => (hide_of h).2
/-- what was known while it stood still isn't any longer -/
theorem Ext.unknow {M : List Addr} {G H G' H' : Hp} {l : Addr} {o : HO} (e : Ext M (upd G l o) H G' H') (hg : G l = none) (h : H l = some o) : Ext M G H (hide l G') H' := by
  refine ⟨fun a u q => ?_, hide_le.trans e.gh, e.hh, fun a u q => ?_, e.dm⟩
  · have z : a ≠ l := ne_of_none q hg
    rw [hide_ne z]
    exact e.gg a u (by rw [upd_ne z]; exact q)
  · obtain ⟨z, q⟩ := hide_of q
    rcases e.nw a u q with y | y
    · rw [upd_ne z] at y; exact .inl y
    · exact .inr y
/-- a new thing that was known is written -/
theorem Ext.forget {M : List Addr} {G H G' H' : Hp} {l : Addr} {o o' : HO} (e : Ext M G H G' H') (gh : Same G H) (hl : H l = none) (h' : H' l = some o') : Ext M G H (hide l G') (upd H' l o) := by
  refine ⟨fun a u q => ?_, fun a u q => ?_, fun a u q n => ?_, fun a u q => e.nw a u (hide_of q).2, fun a q => ?_⟩
  · have z : a ≠ l := ne_of_none q (gh.free hl)
    rw [hide_ne z]
    exact e.gg a u q
  · obtain ⟨z, q⟩ := hide_of q
    rw [upd_ne z]
    exact e.gh a u q
  · rw [upd_ne (ne_of_none q hl)]
    exact e.hh a u q n
  · by_cases z : a = l
    · subst z; exact hl
    · rw [upd_ne z] at q; exact e.dm a q
theorem news_hide {H G : Hp} {l : Addr} {o : HO} (h : H l = some o) : Same (news H G) (hide l G) := fun a u q => by
  obtain ⟨h1, h2⟩ := news_of q
  rw [hide_ne (fun z => by rw [z, h] at h1; cases h1)]
  exact h2
/-! ### evaluation to new data -/
def EF (K : PySem.W.Frag) (G : Hp) (te : TE) (σ : L2.St) (d : PyData) : Prop := ∀ G1 H, Same G G1 → Same G1 H → ∀ Q : VK, (∀ v G2 H2, Ext [] G1 H G2 H2 → Dt K (news H G2) v d → Q v H2) → te σ H Q
def FFn (K : PySem.W.Frag) (R : List PyData → PyData → Prop) : Sp := fun vs H Q _ => ∃ (G : Hp) (ds : List PyData) (d : PyData), Same G H ∧ DtAll K G vs ds ∧ R ds d ∧ ∀ v G' H', Ext [] G H G' H' → Dt K (news H G') v d → Q v H'
theorem ffn_pfn {K : PySem.W.Frag} {R : List PyData → PyData → Prop} {vs : List V} {H : Hp} {Q : VK} {E : XK} (h : PFn K R vs H Q E) : FFn K R vs H Q E := by
  obtain ⟨G, ds, d, gh, hv, hr, q⟩ := h
  exact ⟨G, ds, d, gh, hv, hr, fun v G' H' e hv' => q v G' H' e (same_dt news_le hv')⟩
section
variable {K : PySem.W.Frag} {G G' : Hp} {σ : L2.St} {ta te : TE} {tas : TA} {d : PyData} {ds : List PyData}
theorem EF.ed (h : EF K G te σ d) : ED K G te σ d := fun G1 H a gh Q q => h G1 H a gh Q fun v G2 H2 e hv => q v G2 H2 e (same_dt news_le hv)
theorem EF.mono (h : EF K G te σ d) (e : Same G G') : EF K G' te σ d := fun G1 H a => h G1 H (e.trans a)
/-- list(xs) of texts -/
theorem ef_listS {ss : List Str} (h : ED K G te σ (.list (ss.map PyData.str))) : EF K G (tCB (fun xs H Q => ∃ p ys, xs = [.ref p] ∧ (SqL K H p ys ∨ SqT K H p ys) ∧ ∀ l, H l = none → Q (.ref l) (upd H l (.lst ys))) (tCons te tNil)) σ (.list (ss.map PyData.str)) := fun G1 H a gh Q q => h G1 H a gh _ fun v G2 H2 e hv => by
  obtain ⟨p, xs, rfl, hl, hs⟩ := dt_list hv e.gh
  rw [dts_strs hs] at hl
  refine ⟨p, _, rfl, .inl hl, fun l hl => q _ _ _ (e.same (Ext.new e.gh hl)) (.lst (news_at (e.dm l hl) upd_same) (strs_dts ss))⟩
theorem ef_fn {R : List PyData → PyData → Prop} {E : XK} (h : EA K G tas σ ds) (hr : R ds d) : EF K G (tCall (FFn K R) [] E tas) σ d := fun G1 H a gh Q q => h G1 H a gh _ fun vs G2 H2 e hvs => by
  rw [List.append_nil]
  exact ⟨G2, ds, d, e.gh, hvs, hr, fun v G3 H3 e3 hv => q v G3 H3 (e.same e3) (same_dt (news_mono e.dm (Same.refl G3)) hv)⟩
end
/-! ### instances that are only read -/
def lookD (f : Str) : List (PyData × PyData) → Option PyData
  | [] => none
  | (k, d) :: r => match k with
    | .str g => if f == g then some d else lookD f r
    | _ => lookD f r
section
variable {K : PySem.W.Frag} {G G' H : Hp} {σ : L2.St} {ta te : TE} {tas : TA} {d : PyData} {ds : List PyData} {C D : Addr} {os : List (PyData × PyData)} {f m : Str} {v : V}
theorem dt_obj (h : Dt K G v (dObj C os)) (gh : Same G H) : ∃ a dx fs, v = .ref a ∧ H a = some (.ins C dx fs) ∧ DtFs K G fs os := by
  generalize e : dObj C os = d at h
  cases h with
  | dct h hs =>
    unfold dObj at e
    cases hs with
    | nil => cases e
    | @cons k _ _ _ _ _ _ =>
      cases k with
      | inl i => simp [keyD] at e
      | inr x => simp [keyD] at e
  | obj h hs =>
    simp only [dObj, PyData.dict.injEq, List.cons.injEq, Prod.mk.injEq, true_and, PyData.int.injEq] at e
    obtain ⟨e1, rfl⟩ := e
    have e2 : C = _ := Int.ofNat.inj e1
    subst e2
    exact ⟨_, _, _, rfl, gh _ _ h, hs⟩
  | _ => cases e
theorem dtf_look : ∀ {fs : List (Str × V)} {os : List (PyData × PyData)}, DtFs K G fs os → lookD f os = some d → ∃ v, fs.lookup f = some v ∧ Dt K G v d
  | _, _, .nil, e => by cases e
  | _, _, @DtFs.cons _ _ g v vs d' ds' h hs, e => by
    have e : (if f == g then some d' else lookD f ds') = some d := e
    rw [List.lookup_cons]
    cases q : f == g with
    | true => rw [if_pos q] at e; cases e; exact ⟨_, rfl, h⟩
    | false => rw [if_neg (by rw [q]; decide)] at e; exact dtf_look hs e
theorem dtf_none : ∀ {fs : List (Str × V)} {os : List (PyData × PyData)}, DtFs K G fs os → lookD f os = none → fs.lookup f = none
  | _, _, .nil, _ => rfl
  | _, _, @DtFs.cons _ _ g v vs d' ds' h hs, e => by
    have e : (if f == g then some d' else lookD f ds') = none := e
    rw [List.lookup_cons]
    cases q : f == g with
    | true => rw [if_pos q] at e; cases e
    | false => rw [if_neg (by rw [q]; decide)] at e; exact dtf_none hs e
/-- e.f -/
theorem ed_fld (c : Cls K C) (n : NoAttr K C f) (h : ED K G ta σ (dObj C os)) (l : lookD f os = some d) : ED K G (tFld K ta f) σ d := fun G1 H a gh Q q => h G1 H a gh _ fun v G2 H2 e hv => by
  obtain ⟨p, dx, fs, rfl, hp, hf⟩ := dt_obj hv e.gh
  obtain ⟨w, h1, h2⟩ := dtf_look hf l
  exact ⟨p, C, dx, fs, w, rfl, hp, c, n, h1, q w G2 H2 e h2⟩
/-- o.m(..), m pure -/
theorem ed_mth {R : List PyData → PyData → Prop} {E : XK} (ho : ED K G ta σ (dObj C os)) (l : lookD m os = none) (h : EA K G tas σ ds) (hr : R (dObj C os :: ds) d) : ED K G (tMeth C m (PFn K R) [] E ta tas) σ d := fun G1 H a gh Q q => ho G1 H a gh _ fun v G2 H2 e hv => by
  obtain ⟨p, dx, fs, rfl, hp, hf⟩ := dt_obj hv e.gh
  refine ⟨p, dx, fs, rfl, hp, dtf_none hf l, h G2 H2 (a.trans e.gg) e.gh _ fun vs G3 H3 e3 hvs => ?_⟩
  rw [List.append_nil]
  exact ⟨G3, _, d, e3.gh, .cons (same_dt e3.gg hv) hvs, hr, fun v G4 H4 e4 hv => q v G4 H4 ((e.same e3).same e4) hv⟩
theorem ef_mth {R : List PyData → PyData → Prop} {E : XK} (ho : ED K G ta σ (dObj C os)) (l : lookD m os = none) (h : EA K G tas σ ds) (hr : R (dObj C os :: ds) d) : EF K G (tMeth C m (FFn K R) [] E ta tas) σ d := fun G1 H a gh Q q => ho G1 H a gh _ fun v G2 H2 e hv => by
  obtain ⟨p, dx, fs, rfl, hp, hf⟩ := dt_obj hv e.gh
  refine ⟨p, dx, fs, rfl, hp, dtf_none hf l, h G2 H2 (a.trans e.gg) e.gh _ fun vs G3 H3 e3 hvs => ?_⟩
  rw [List.append_nil]
  exact ⟨G3, _, d, e3.gh, .cons (same_dt e3.gg hv) hvs, hr, fun v G4 H4 e4 hv => q v G4 H4 ((e.same e3).same e4) (same_dt (news_mono (fun x hx => e.dm x (e3.dm x hx)) (Same.refl G4)) hv)⟩
/-- isinstance(o, D), D a class of the program -/
structure IsO (K : PySem.W.Frag) (C : Addr) : Prop where
  cl : Cls K C
  ha : PySem.W.findIn K (.ref C) "__class__" = some (some (.builtin "object.__class__"))
  hn : PySem.W.specialIn K (.builtin "object.__class__") "__get__" = some (some (.builtin "getset_descriptor.__get__"))
  htk : PySem.W.takesIn K (.builtin "object.__class__") = some true
  hm : PySem.W.mroIn K C (.type "object") = some true
theorem ed_isiO {ans : Bool} (h : ED K G ta σ (dObj C os)) (o : IsO K C) (hk : PySem.W.kitOne K (.ref C) (.ref D) = some ans) : ED K G (tCB (rIsi K) (tCons ta (tCons (tC (.ref D)) tNil))) σ (.bool ans) := fun G1 H a gh Q q => h G1 H a gh _ fun v G2 H2 e hv => by
  obtain ⟨p, dx, fs, rfl, hp, hf⟩ := dt_obj hv e.gh
  exact ⟨_, _, _, _, ans, rfl, .own D, .base (.ins hp o.cl o.ha o.hn o.htk o.hm), hk, q _ G2 H2 e (.bl _)⟩
end
/-! ### a statement that is never reached -/
theorem ps_dead {X : Cx} {st : Stmt} : PS X st (fun _ _ _ => False) := ⟨fun _ _ _ _ _ _ h => h.elim⟩
theorem pss_dead {X : Cx} {st : List Stmt} : PSs X st (fun _ _ _ => False) := ⟨fun _ _ _ _ _ _ h => h.elim⟩
/-! ### methods -/
def HasM (P : Program) (w : World) (K : PySem.W.Frag) (mg : Str → Option Value) (base : Heap) (CX : CXT) (k : Nat) (C : Addr) (m : Str) (ps : List Str) (sp : Sp) : Prop :=
  ∃ (f : Addr) (fd : FuncData), FnOk P w K mg base CX k f fd ps sp ∧ Meth K C m f ∧ Binds K fd ps []
theorem HasM.weak {P : Program} {w : World} {K : PySem.W.Frag} {mg : Str → Option Value} {base : Heap} {CX : CXT} {k : Nat} {C : Addr} {m : Str} {ps : List Str} {R : List PyData → PyData → Prop} (h : HasM P w K mg base CX k C m ps (FFn K R)) : HasM P w K mg base CX k C m ps (PFn K R) := by
  obtain ⟨f, fd, F, hm, b⟩ := h
  exact ⟨f, fd, F.imp fun _ _ _ _ => ffn_pfn, hm, b⟩
section
variable {X : Cx} {j k : Nat} {C : Addr} {m x : Str} {ps : List Str} {sp : Sp} {o e : Expr} {es : List Expr} {ta : TE} {t : TA} {p pos apos : Pos} {pl : Sem Bool}
theorem pe_mth (he : PE X o ta) (c : Cls X.K C) (h : HasM X.prog X.w X.K X.mg X.base CX0 k C m ps sp) (hr : Room j X.A) (hk : k ≤ j) (ha : PA X (e :: es) t)
    (hst : starEach (e :: es) X.env = (false, eval e X.env) :: starEach es X.env := by rfl) (hpl : (backTo pos (starEach es X.env)).any (·.1) = false := by rfl)
    (ht : eval (.Call (.Attribute o m apos) (e :: es) [] pos) X.env = (do
      let ov ← eval o X.env
      standAt apos.atName
      let (f, first) ← holding [ov] (getMethod ov m pl)
      callWith pos f first (backTo pos (starEach (e :: es) X.env)) (backToKw pos (keywordEach [] X.env))) := by rfl) :
    PE X (.Call (.Attribute o m apos) (e :: es) [] pos) (tMeth C m sp [] E0 ta t) := by
  obtain ⟨f, fd, F, hm, b⟩ := h
  exact pe_meth he c hm F (hr.mono hk) b .nil pass0 ha hst hpl ht
theorem pe_mth0 (he : PE X o ta) (c : Cls X.K C) (h : HasM X.prog X.w X.K X.mg X.base CX0 k C m ps sp) (hr : Room j X.A) (hk : k ≤ j)
    (ht : eval (.Call (.Attribute o m apos) [] [] pos) X.env = (do
      let ov ← eval o X.env
      standAt apos.atName
      let (f, first) ← holding [ov] (getMethod ov m pl)
      callWith pos f first (backTo pos (starEach [] X.env)) (backToKw pos (keywordEach [] X.env))) := by rfl) :
    PE X (.Call (.Attribute o m apos) [] [] pos) (tMeth C m sp [] E0 ta tNil) := by
  obtain ⟨f, fd, F, hm, b⟩ := h
  exact pe_meth0 he c hm F (hr.mono hk) b .nil pass0 ht
/-- C(..) -/
def HasI (P : Program) (w : World) (K : PySem.W.Frag) (mg : Str → Option Value) (base : Heap) (CX : CXT) (k : Nat) (x : Str) (C : Addr) (ps : List Str) (sp : Sp) : Prop :=
  ∃ (f : Addr) (fd : FuncData), FnOk P w K mg base CX k f fd ps sp ∧ Mk K C f ∧ Binds K fd ps [] ∧ mg x = some (.ref C)
theorem pe_new (h : HasI X.prog X.w X.K X.mg X.base CX0 k x C ps sp) (hr : Room j X.A) (hk : k + 1 ≤ j) (hg : Gl X x) (ha : PA X (e :: es) t) (hdb : (x == ("__debug__" : Str)) = false := by decide)
    (he : starEach (e :: es) X.env = (false, eval e X.env) :: starEach es X.env := by rfl) (hpl : (backTo pos (starEach es X.env)).any (·.1) = false := by rfl) :
    PE X (.Call (.Name x p) (e :: es) [] pos) (tMake C sp [] E0 t) := by
  obtain ⟨f, fd, F, M, b, hm⟩ := h
  exact pe_make M F (hr.mono hk) hg hm b .nil pass0 ha hdb he hpl
/-- C.m(..), m a plain def of the class -/
def HasC (P : Program) (w : World) (K : PySem.W.Frag) (mg : Str → Option Value) (base : Heap) (CX : CXT) (k : Nat) (C : Addr) (m : Str) (ps : List Str) (sp : Sp) : Prop :=
  ∃ (f : Addr) (fd : FuncData) (mc : Value), FnOk P w K mg base CX k f fd ps sp ∧ ClX.CRead K C mc ∧ ClX.CVal K C mc m (.ref f) (.ref f) ∧ PySem.W.keepIn K (.ref f) = true ∧ Binds K fd ps []
def tCFun (C : Addr) (sp : Sp) (E : XK) (ta : TE) (t : TA) : TE := fun σ H Q => ta σ H fun x H1 => x = .ref C ∧ t σ H1 fun vs H2 => sp (vs ++ []) H2 Q E
theorem pe_cfun (he : PE X o ta) (h : HasC X.prog X.w X.K X.mg X.base CX0 k C m ps sp) (hr : Room j X.A) (hk : k ≤ j) (ha : PA X (e :: es) t)
    (hst : starEach (e :: es) X.env = (false, eval e X.env) :: starEach es X.env := by rfl) (hpl : (backTo pos (starEach es X.env)).any (·.1) = false := by rfl)
    (ht : eval (.Call (.Attribute o m apos) (e :: es) [] pos) X.env = (do
      let ov ← eval o X.env
      standAt apos.atName
      let (f, first) ← holding [ov] (getMethod ov m pl)
      callWith pos f first (backTo pos (starEach (e :: es) X.env)) (backToKw pos (keywordEach [] X.env))) := by rfl) :
    PE X (.Call (.Attribute o m apos) (e :: es) [] pos) (tCFun C sp E0 ta t) := by
  obtain ⟨f, fd, mc, F, r, c, kp, b⟩ := h
  refine ⟨fun pins s σ H Q I h => ?_⟩
  refine PySem.W.methodCall_KW (pl := pl) (thn (he.run pins s σ H _ I h) fun u s1 ⟨y, H1, I1, rx, ex, q⟩ => ?_) ht
  subst ex
  obtain rfl : u = Value.ref C := rx
  refine PySem.W.method_cls I1.kIn r.ga (ClX.getcval_ok I1 r c fun s2 I2 => ?_)
  refine PySem.W.callWith_K (h₀ := X.base) I.ok.mod.kin kp (thn (ha.run pos pins s2 σ H1 _ I2 q) fun us s3 ⟨vs, H2, I3, r3, q2⟩ => ⟨I3.kIn, ?_⟩) hst hpl
  exact run_fn F (hr.mono hk) b .nil pass0 I3 r3 q2
end
/-- a method's def as the top has left it -/
def MethIn (K : PySem.W.Frag) (C : Addr) (m q : Str) (st : Stmt) : Prop := ∃ (f : Addr) (fd : FuncData), Fun K m q st f fd ∧ Meth K C m f
theorem meth_mk {K : PySem.W.Frag} {C : Addr} {m q : Str} {st : Stmt} {f : Addr} {oc : Value} {od an : Option Addr} {osl : Array (Option Value)} {kV doc pm cdv ct : Value} (a : PySem.W.findIn K (.ref C) m = some (some (.ref f))) (i : PySem.W.isFn K (.ref f) = true)
    (l : K.lookup f = some ⟨oc, od, .func (PySem.W.fnOf m q (defArgs st) (defBody st) (defScope st) .none kV doc pm an cdv ct), osl⟩) (c : PySem.W.codeIn K cdv q = true) (k : PySem.W.keepIn K (.ref f) = true) : MethIn K C m q st := ⟨f, _, fun_mk l c k, a, i, k⟩
/-- .. and read off the class itself -/
def CfunIn (K : PySem.W.Frag) (C : Addr) (m q : Str) (st : Stmt) : Prop := ∃ (f : Addr) (fd : FuncData) (mc : Value), Fun K m q st f fd ∧ ClX.CRead K C mc ∧ ClX.CVal K C mc m (.ref f) (.ref f)
theorem cfun_mk {K : PySem.W.Frag} {C : Addr} {m q : Str} {st : Stmt} {f : Addr} {oc mc : Value} {od an : Option Addr} {osl : Array (Option Value)} {kV doc pm cdv ct : Value} (rd : PySem.W.readsIn K C mc = true) (ga : PySem.W.specialIn K (.ref C) "__getattribute__" = some (some (.builtin "type.__getattribute__"))) (a : PySem.W.findCls K (.ref C) mc m = some (.val (.ref f)))
    (l : K.lookup f = some ⟨oc, od, .func (PySem.W.fnOf m q (defArgs st) (defBody st) (defScope st) .none kV doc pm an cdv ct), osl⟩) (c : PySem.W.codeIn K cdv q = true) (k : PySem.W.keepIn K (.ref f) = true) : CfunIn K C m q st := ⟨f, _, mc, fun_mk l c k, ⟨rd, ga⟩, ⟨a, rfl⟩⟩
def InitIn (K : PySem.W.Frag) (mg : Str → Option Value) (x : Str) (C : Addr) (q : Str) (st : Stmt) : Prop := ∃ (f : Addr) (fd : FuncData), Fun K "__init__" q st f fd ∧ Mk K C f ∧ mg x = some (.ref C)
theorem init_mk {K : PySem.W.Frag} {C : Addr} {q : Str} {st : Stmt} {f : Addr} {oc : Value} {od an : Option Addr} {osl : Array (Option Value)} {kV doc pm cdv ct : Value} (m : PySem.W.makesIn K C = true) (a : PySem.W.findIn K (.ref C) "__init__" = some (some (.ref f))) (i : PySem.W.isFn K (.ref f) = true) (kc : PySem.W.keepIn K (.ref C) = true)
    (l : K.lookup f = some ⟨oc, od, .func (PySem.W.fnOf "__init__" q (defArgs st) (defBody st) (defScope st) .none kV doc pm an cdv ct), osl⟩) (c : PySem.W.codeIn K cdv q = true) (k : PySem.W.keepIn K (.ref f) = true) : ∃ (f : Addr) (fd : FuncData), Fun K "__init__" q st f fd ∧ Mk K C f := ⟨f, _, fun_mk l c k, m, a, i, kc⟩
section
variable {P : Program} {w : World} {K : PySem.W.Frag} {mg : Str → Option Value} {base : Heap} {C : Addr} {m x q : Str} {st : Stmt} {N ps : List Str} {k : Nat} {sp : Sp} {R : List PyData → PyData → Prop}
theorem MethIn.ok (F : MethIn K C m q st) (S : FnScope N ps (defScope st)) (len : ∀ vs H Q E, sp vs H Q E → vs.length = ps.length)
    (hb : ∀ (kV doc pm : Value) (an : Option Addr) (cdv ct : Value) (us : List Value), us.length = ps.length → bindArgs (PySem.W.fnOf m q (defArgs st) (defBody st) (defScope st) .none kV doc pm an cdv ct) ⟨us, []⟩ = Pure.pure (ps.zip us))
    (hbody : ∀ (f : Addr) (cdv : Value) (A : Around) (outer : List Env) (s : Shared) (H : Hp) (vs : List V) (Q : VK) (E : XK), Room k (A.deeper (PyProof.Rows.envOfC q (defScope st) s.heap.objs.size f cdv)) → sp vs H Q E →
      ∃ t, PSs (cxOf CX0 P w K mg base N q (defScope st) f cdv A outer s H E).nox (defBody st) t ∧ t { nx := fun _ H' => Q .non H', rt := Q } (start N vs) H) : HasM P w K mg base CX0 (k + 1) C m ps sp := by
  obtain ⟨f, fd, F, hm⟩ := F
  exact ⟨f, fd, F.ok S len (hbody f), hm, F.binds hb⟩
theorem CfunIn.ok (F : CfunIn K C m q st) (S : FnScope N ps (defScope st)) (len : ∀ vs H Q E, sp vs H Q E → vs.length = ps.length)
    (hb : ∀ (kV doc pm : Value) (an : Option Addr) (cdv ct : Value) (us : List Value), us.length = ps.length → bindArgs (PySem.W.fnOf m q (defArgs st) (defBody st) (defScope st) .none kV doc pm an cdv ct) ⟨us, []⟩ = Pure.pure (ps.zip us))
    (hbody : ∀ (f : Addr) (cdv : Value) (A : Around) (outer : List Env) (s : Shared) (H : Hp) (vs : List V) (Q : VK) (E : XK), Room k (A.deeper (PyProof.Rows.envOfC q (defScope st) s.heap.objs.size f cdv)) → sp vs H Q E →
      ∃ t, PSs (cxOf CX0 P w K mg base N q (defScope st) f cdv A outer s H E).nox (defBody st) t ∧ t { nx := fun _ H' => Q .non H', rt := Q } (start N vs) H) : HasC P w K mg base CX0 (k + 1) C m ps sp := by
  obtain ⟨f, fd, mc, F, r, c⟩ := F
  exact ⟨f, fd, mc, F.ok S len (hbody f), r, c, F.kp, F.binds hb⟩
theorem InitIn.ok (F : InitIn K mg x C q st) (S : FnScope N ps (defScope st)) (len : ∀ vs H Q E, sp vs H Q E → vs.length = ps.length)
    (hb : ∀ (kV doc pm : Value) (an : Option Addr) (cdv ct : Value) (us : List Value), us.length = ps.length → bindArgs (PySem.W.fnOf "__init__" q (defArgs st) (defBody st) (defScope st) .none kV doc pm an cdv ct) ⟨us, []⟩ = Pure.pure (ps.zip us))
    (hbody : ∀ (f : Addr) (cdv : Value) (A : Around) (outer : List Env) (s : Shared) (H : Hp) (vs : List V) (Q : VK) (E : XK), Room k (A.deeper (PyProof.Rows.envOfC q (defScope st) s.heap.objs.size f cdv)) → sp vs H Q E →
      ∃ t, PSs (cxOf CX0 P w K mg base N q (defScope st) f cdv A outer s H E).nox (defBody st) t ∧ t { nx := fun _ H' => Q .non H', rt := Q } (start N vs) H) : HasI P w K mg base CX0 (k + 1) x C ps sp := by
  obtain ⟨f, fd, F, M, hm⟩ := F
  exact ⟨f, fd, F.ok S len (hbody f), M, F.binds hb, hm⟩
theorem MethIn.pure (F : MethIn K C m q st) (S : FnScope N ps (defScope st)) (len : ∀ ds d, R ds d → ds.length = ps.length)
    (hb : ∀ (kV doc pm : Value) (an : Option Addr) (cdv ct : Value) (us : List Value), us.length = ps.length → bindArgs (PySem.W.fnOf m q (defArgs st) (defBody st) (defScope st) .none kV doc pm an cdv ct) ⟨us, []⟩ = Pure.pure (ps.zip us))
    (body : ∀ (f : Addr) (cdv : Value) (A : Around) (outer : List Env) (s : Shared) (H : Hp) (E : XK), Room k (A.deeper (PyProof.Rows.envOfC q (defScope st) s.heap.objs.size f cdv)) →
      ∃ t, PSs (cxOf CX0 P w K mg base N q (defScope st) f cdv A outer s H E).nox (defBody st) t ∧ ∀ G vs ds d, DtAll K G vs ds → R ds d → ES K G t (start N vs) (fun d' => d' = d) (fun _ _ => d = .none)) : HasM P w K mg base CX0 (k + 1) C m ps (PFn K R) := by
  refine F.ok S (fun vs H Q E ⟨G, ds, d, gh, hv, hr, q⟩ => (dts_len hv).trans (len ds d hr)) hb (fun f cdv A outer s H vs Q E hr ⟨G, ds, d, gh, hv, hR, q⟩ => ?_)
  obtain ⟨t, ht, hs⟩ := body f cdv A outer s H E hr
  refine ⟨t, ht, hs G vs ds d hv hR G H (Same.refl G) gh _ (fun v d' G2 H2 e hv' e' => ?_) (fun σ' G2 H2 e e' => ?_)⟩
  · subst e'
    exact q v G2 H2 e hv'
  · exact q .non G2 H2 e (by rw [e']; exact .non)
theorem MethIn.fresh (F : MethIn K C m q st) (S : FnScope N ps (defScope st)) (len : ∀ ds d, R ds d → ds.length = ps.length)
    (hb : ∀ (kV doc pm : Value) (an : Option Addr) (cdv ct : Value) (us : List Value), us.length = ps.length → bindArgs (PySem.W.fnOf m q (defArgs st) (defBody st) (defScope st) .none kV doc pm an cdv ct) ⟨us, []⟩ = Pure.pure (ps.zip us))
    (body : ∀ (f : Addr) (cdv : Value) (A : Around) (outer : List Env) (s : Shared) (H : Hp) (E : XK), Room k (A.deeper (PyProof.Rows.envOfC q (defScope st) s.heap.objs.size f cdv)) →
      ∃ t, PSs (cxOf CX0 P w K mg base N q (defScope st) f cdv A outer s H E).nox (defBody st) t ∧ ∀ G vs ds d, DtAll K G vs ds → R ds d → ∀ H, Same G H → ∀ D : Ends, (∀ v G2 H2, Ext [] G H G2 H2 → Dt K (news H G2) v d → D.rt v H2) → t D (start N vs) H) : HasM P w K mg base CX0 (k + 1) C m ps (FFn K R) := by
  refine F.ok S (fun vs H Q E ⟨G, ds, d, gh, hv, hr, q⟩ => (dts_len hv).trans (len ds d hr)) hb (fun f cdv A outer s H vs Q E hr ⟨G, ds, d, gh, hv, hR, q⟩ => ?_)
  obtain ⟨t, ht, hs⟩ := body f cdv A outer s H E hr
  exact ⟨t, ht, hs G vs ds d hv hR H gh _ q⟩
end
/-! ### __init__: a new instance's fields, all new -/
def IFn (K : PySem.W.Frag) (okC : Addr → Prop) (R : List PyData → List (PyData × PyData) → Prop) : Sp := fun vs H Q _ => ∃ (G : Hp) (x C dx : Addr) (ws : List V) (ds : List PyData) (os : List (PyData × PyData)), vs = .ref x :: ws ∧ okC C ∧ Same G H ∧ G x = none ∧ H x = some (.ins C dx []) ∧ DtAll K G ws ds ∧ R ds os ∧
  ∀ G' H' dx' fs, Ext [x] G H G' H' → H' x = some (.ins C dx' fs) → DtFs K (news H G') fs os → Q .non H'
theorem ef_make {K : PySem.W.Frag} {G : Hp} {σ : L2.St} {tas : TA} {ds : List PyData} {C : Addr} {okC : Addr → Prop} {R : List PyData → List (PyData × PyData) → Prop} {os : List (PyData × PyData)} {E : XK} (h : EA K G tas σ ds) (hc : okC C) (hr : R ds os) : EF K G (tMake C (IFn K okC R) [] E tas) σ (dObj C os) := fun G1 H a gh Q q => h G1 H a gh _ fun vs G2 H2 e hvs => by
  intro x dx hx hdx ne
  rw [List.append_nil]
  have hx3 : upd H2 dx (.own x) x = none := by rw [upd_ne ne.symm]; exact hx
  have e3 : Ext [] G2 H2 G2 (upd H2 dx (.own x)) := Ext.cell e.gh hdx
  have e4 : Ext [] G2 (upd H2 dx (.own x)) G2 (upd (upd H2 dx (.own x)) x (.ins C dx [])) := Ext.cell e3.gh hx3
  have e04 := (e.same e3).same e4
  refine ⟨G2, x, C, dx, vs, ds, os, rfl, hc, e4.gh, e.gh.free hx, upd_same, hvs, hr, fun G' H' dx' fs e5 hx' hf => ⟨rfl, ?_⟩⟩
  have hxH : H x = none := e.dm x hx
  have e05 : Ext [] G1 H G' H' := e04.trans e5 fun z hz => .inr (by rw [List.mem_singleton] at hz; rw [hz]; exact hxH)
  have gx : G' x = none := e5.free (e.gh.free hx) upd_same
  refine q _ _ _ (Ext.know e5.gh hx' gx e05 hxH) (.obj (news_at hxH upd_same) (same_dtf (fun b u z => ?_) hf))
  obtain ⟨z1, z2⟩ := news_of z
  have nb : b ≠ x := fun z => by rw [z, upd_same] at z1; cases z1
  exact news_at (e04.dm b z1) (by rw [upd_ne nb]; exact z2)
/-! ### zip of two texts, by data -/
section
variable {K : PySem.W.Frag} {G : Hp} {σ : L2.St} {tas : TA}
theorem dw_zipS {k l : List Nat} : DW K G (ItzS (mkS k) (mkS l)) (min k.length l.length) (fun i => .tuple [.str (sg (k.getD i 0)), .str (sg (l.getD i 0))]) where
  goes := fun i H hi _ => by show i < (mkS k).cps.size ∧ i < (mkS l).cps.size; rw [mkS_size, mkS_size]; omega
  stops := fun H _ => by show min k.length l.length ≤ (mkS k).cps.size ∧ min k.length l.length ≤ (mkS l).cps.size ∧ (min k.length l.length = (mkS k).cps.size ∨ min k.length l.length = (mkS l).cps.size); rw [mkS_size, mkS_size]; omega
  yields := fun i H x H' G1 hi g1 gh y => by
    obtain ⟨T, c1, c2, rfl, hT, rfl, h1, h2⟩ := y
    refine ⟨_, Ext.new gh hT, ?_⟩
    have e1 : k.getD i 0 = c1 := by rw [← mkS_getD, Array.getD_eq_getD_getElem?, h1]; rfl
    have e2 : l.getD i 0 = c2 := by rw [← mkS_getD, Array.getD_eq_getD_getElem?, h2]; rfl
    rw [e1, e2]
    exact .tup (SqT.of upd_same) (.cons (.str _) (.cons (.str _) .nil))
theorem ei_zipS {k l : List Nat} (h : EA K G tas σ [.str (mkS k), .str (mkS l)]) : EI K G (iZipS tas) σ (min k.length l.length) (fun i => .tuple [.str (sg (k.getD i 0)), .str (sg (l.getD i 0))]) := fun G1 H a gh R q => h G1 H a gh _ fun vs G2 H2 e hvs => by
  obtain ⟨v, w, rfl, h1, h2⟩ := dts2 hvs
  rw [dt_str h1, dt_str h2]
  exact ⟨_, _, rfl, q _ G2 H2 e dw_zipS⟩
end
end S

set_option linter.unusedVariables false
namespace S
open PySem L2
/-! ### x = []; for ..: ..; x.append(e): what is gathered, with draws -/
def SA (ε : Eff) (K : PySem.W.Frag) (c : Nat) (G : Hp) (l : Addr) (ts : TS) (σ : L2.St) (P : PyData → Prop) (N : Hp → L2.St → Prop) : Prop := ∀ G1 H n xs, Same G G1 → Same G1 H → ε.I n G1 H → G1 l = none → H l = some (.lst xs) → l ∉ ε.M → n + c ≤ lim → xs.length < 100000 → ∀ D : Ends,
  (∀ σ' v d G2 H2, Ext (l :: ε.M) G1 H G2 H2 → ε.I (n + c) G2 H2 → H2 l = some (.lst (xs ++ [v])) → Dt K G2 v d → P d → N G2 σ' → D.nx σ' H2) → ts D σ H
section
variable {ε : Eff} {K : PySem.W.Frag} {c c1 c2 : Nat} {G G' H : Hp} {σ : L2.St} {l : Addr} {te : TE} {ts tz rest body : TS} {P P1 : PyData → Prop} {N M : Hp → L2.St → Prop} {R : PyData → Prop} {i j m : Nat}
theorem SA.up (h : SA ε K c G l ts σ P N) (k : c ≤ c2) : SA ε K c2 G l ts σ P N := fun G1 H n xs a gh hI g0 h0 hM hl hz D q => h G1 H n xs a gh hI g0 h0 hM (by omega) hz D fun σ' v d G2 H2 e hI2 => q σ' v d G2 H2 e (ε.up (by omega) hI2)
theorem sa_app (hj : σ[j]? = some (some (.ref l))) (h : EV ε K c G te σ P) (hN : ∀ G1, Same G G1 → N G1 σ) : SA ε K c G l (tDrop (tBM K "list" rAppend (tVar j) (tCons te tNil))) σ P N := fun G1 H n xs a gh hI g0 h0 hM hl hz D q => by
  refine ⟨_, hj, .inl ⟨rfl, xs, SqL.of h0⟩, h G1 H n a gh hI hl _ fun v d G2 H2 e hI2 hv hp => ?_⟩
  have h2 : H2 l = some (.lst xs) := e.keep h0 hM
  have g2 : G2 l = none := e.free g0 h0
  have ep := Ext.put (o := .lst (xs ++ [v])) e.gh g2 h2
  refine ⟨l, xs, v, rfl, rfl, h2, sz_list (by omega), q σ v d G2 _ ((e.mono fun x hx => .inl (List.mem_cons_of_mem _ hx)).trans ep fun z hz => .inl (by rw [List.mem_singleton] at hz; rw [hz]; exact List.mem_cons_self)) (ε.keep hI2 ep fun b hb z => hM (by rw [List.mem_singleton] at z; rw [← z]; exact hb)) upd_same hv hp (hN G2 (a.trans e.gg))⟩
theorem sa_set (h : EV ε K c1 G te σ P1) (k : ∀ G1 x d, Same G G1 → Dt K G1 x d → P1 d → SA ε K c2 G1 l tz (σ.set i (some x)) P N) : SA ε K (c1 + c2) G l (tSeq (tAsg te (gName i)) tz) σ P N := fun G1 H n xs a gh hI g0 h0 hM hl hz D q =>
  h G1 H n a gh hI (by omega) _ fun v d G2 H2 e hI2 hv hp => k G2 v d (a.trans e.gg) hv hp G2 H2 (n + c1) xs (Same.refl G2) e.gh hI2 (e.free g0 h0) (e.keep h0 hM) hM (by omega) hz D fun σ' v d G3 H3 e3 hI3 => q σ' v d G3 H3 ((e.mono fun x hx => .inl (List.mem_cons_of_mem _ hx)).trans e3 fun _ h => .inl h) (by rw [← Nat.add_assoc]; exact hI3)
theorem sa_es (h : ES K G ts σ (fun _ => False) M) (k : ∀ G1 σ1, Same G G1 → M G1 σ1 → SA ε K c G1 l tz σ1 P N) : SA ε K c G l (tSeq ts tz) σ P N := fun G1 H n xs a gh hI g0 h0 hM hl hz D q =>
  h G1 H a gh { D with nx := tz D } (fun _ _ _ _ _ _ z => z.elim) fun σ1 G2 H2 e hm => k G2 σ1 (a.trans e.gg) hm G2 H2 n xs (Same.refl G2) e.gh (ε.stay hI e) (e.free g0 h0) (e.keep h0 (by simp)) hM hl hz D fun σ' v d G3 H3 e3 => q σ' v d G3 H3 (e.toM.trans e3 fun _ h => .inl h)
theorem ss_gather {wi : TI} {g : TG} {f : Nat → PyData} {Q : Nat → PyData → Prop} {B : Addr → Nat → L2.St → Hp → L2.St → Prop} (hi : ∀ G1 l, Same G G1 → EI K G1 wi (σ.set j (some (.ref l))) m f) (hm : m < 100000) (J : Addr → Nat → Hp → L2.St → Prop) (h0 : ∀ l G1, Same G G1 → J l 0 G1 (σ.set j (some (.ref l))))
    (mono : ∀ l i G1 G2 σ1, Same G1 G2 → J l i G1 σ1 → J l i G2 σ1) (hb : ∀ l i G1 σ1, i < m → Same G G1 → J l i G1 σ1 → EG K g σ1 (f i) (B l i σ1)) (hs : ∀ l i G1 σ1 σ2, i < m → Same G G1 → J l i G1 σ1 → B l i σ1 G1 σ2 → SA ε K c G1 l body σ2 (Q i) (J l (i + 1)))
    (hk : ∀ l G1 σ1 ds, Same G G1 → J l m G1 σ1 → Dt K G1 (.ref l) (.list ds) → ds.length = m → (∀ i x, ds[i]? = some x → Q i x) → SS ε K c2 G1 rest σ1 R N) :
    SS ε K (m * c + c2) G (tSeq (tAsg (tLst tNil) (gName j)) (tSeq (tFor wi g body) rest)) σ R N := fun G1 H n a gh hI hlim D hrt hnx => by
  refine ⟨by show 0 ≤ sizeLine; exact Nat.zero_le _, fun l hl0 => ?_⟩
  have e1 : Ext [] G1 H G1 (upd H l (.lst [])) := Ext.cell gh hl0
  refine hi G1 l a G1 _ (Same.refl G1) e1.gh _ fun It G2 H2 e2 W => ?_
  have e12 := e1.same e2
  have hI2 := ε.stay hI e12
  have hM : l ∉ ε.M := fun z => by
    obtain ⟨o, ho⟩ := ε.trk hI l z
    rw [hl0] at ho
    cases ho
  have g2 : G2 l = none := e2.free (gh.free hl0) upd_same
  have h2 : H2 l = some (.lst []) := e2.keep upd_same (by simp)
  refine ⟨fun i k σ' H' => k = m - i ∧ i ≤ m ∧ ∃ G' acc ds, Ext (l :: ε.M) G2 H2 G' H' ∧ G' l = none ∧ H' l = some (.lst acc) ∧ DtAll K G' acc ds ∧ ds.length = i ∧ (∀ j x, ds[j]? = some x → Q j x) ∧ ε.I (n + i * c) G' H' ∧ J l i G' σ',
    ⟨m, by simp, Nat.zero_le _, G2, [], [], Ext.refl e2.gh, g2, h2, .nil, rfl, fun _ _ z => by simp at z, by rw [Nat.zero_mul]; exact hI2, mono l 0 _ _ _ e2.gg (h0 l G1 a)⟩, ?_⟩
  rintro i k σ' H' ⟨rfl, hin, G', acc, ds, e, gD, hacc, hds, hlen, hP, hI', hJ⟩
  have gsame : Same G2 H' := e.gg.trans e.gh
  by_cases hlt : i < m
  · have hle : (i + 1) * c ≤ m * c := Nat.mul_le_mul_right c hlt
    have hsc : (i + 1) * c = i * c + c := Nat.succ_mul i c
    refine .inr ⟨W.goes i H' hlt gsame, fun σ'' H'' => ∃ G' acc ds, Ext (l :: ε.M) G2 H2 G' H'' ∧ G' l = none ∧ H'' l = some (.lst acc) ∧ DtAll K G' acc ds ∧ ds.length = i + 1 ∧ (∀ j x, ds[j]? = some x → Q j x) ∧ ε.I (n + (i + 1) * c) G' H'' ∧ J l (i + 1) G' σ'', fun σ'' H'' h => ⟨m - (i + 1), by omega, rfl, hlt, h⟩, fun x H3 y => ?_⟩
    obtain ⟨G3, e3, hx⟩ := W.yields i H' x H3 G' hlt e.gg e.gh y
    have eG : Same G G3 := ((a.trans e2.gg).trans e.gg).trans e3.gg
    have hJ3 := mono l i _ _ _ e3.gg hJ
    refine hb l i G3 σ' hlt eG hJ3 G3 H3 x e3.gh hx _ fun σ2 hσ => ?_
    have l2 := dts_len hds
    refine hs l i G3 σ' σ2 hlt eG hJ3 hσ G3 H3 (n + i * c) acc (Same.refl G3) e3.gh (ε.stay hI' e3) (e3.free gD hacc) (e3.keep hacc (by simp)) hM (by omega) (by omega) _ fun σ4 v d G5 H5 e5 hI5 h5 hv hp hJ5 => ?_
    refine ⟨G5, acc ++ [v], ds ++ [d], (e.same e3).trans e5 fun _ h => .inl h, e5.free (e3.free gD hacc) (e3.keep hacc (by simp)), h5, dts_app (same_dts (e3.gg.trans e5.gg) hds) (.cons hv .nil), by rw [List.length_append, hlen]; rfl, fun j y hy => ?_, ?_, hJ5⟩
    · by_cases hj : j < ds.length
      · rw [List.getElem?_append_left hj] at hy
        exact hP j y hy
      · rw [List.getElem?_append_right (by omega)] at hy
        have : j - ds.length = 0 := by
          cases q : j - ds.length with
          | zero => rfl
          | succ q' => rw [q] at hy; simp at hy
        rw [this] at hy
        have e1 : d = y := by simpa using hy
        have e2 : j = i := by omega
        subst e1 e2
        exact hp
    · rw [hsc, ← Nat.add_assoc]
      exact hI5
  · have ei : i = m := by omega
    subst ei
    refine .inl ⟨W.stops H' gsame, ?_⟩
    have e01 : Ext ε.M G1 H G' H' := (e12.toM (M := ε.M)).trans e fun z hz => by
      rcases List.mem_cons.mp hz with q | q
      · exact .inr (by rw [q]; exact hl0)
      · exact .inl q
    have ek := Ext.know e.gh hacc gD e01 hl0
    have hI3 : ε.I (n + i * c) (upd G' l (.lst acc)) H' := ε.know hI' (same_new gD) fun b hb => by
      have z : b ≠ l := fun z => hM (z ▸ hb)
      rw [upd_ne z]
      exact ε.unk hI' b hb
    have sk := same_new (o := .lst acc) gD
    exact hk l _ σ' ds (a.trans ek.gg) (mono l i _ _ _ sk hJ) (.lst upd_same (same_dts sk hds)) hlen hP _ H' (n + i * c) (Same.refl _) ek.gh hI3 (by omega) D (fun v d G4 H4 e4 hI4 => hrt v d G4 H4 (ek.trans e4 fun _ h => .inl h) (by rw [← Nat.add_assoc]; exact hI4)) (fun σ'' G4 H4 e4 hI4 => hnx σ'' G4 H4 (ek.trans e4 fun _ h => .inl h) (by rw [← Nat.add_assoc]; exact hI4))
end
end S

set_option linter.unusedVariables false
namespace S
open PySem L2
/-! ### a walk over a text or a list -/
def iSL (K : PySem.W.Frag) (te : TE) : TI := fun σ H R => te σ H fun v H1 => (∃ x, v = .str x ∧ R (Its x) H1) ∨ (∃ a, v = .ref a ∧ (∃ xs, SqL K H1 a xs) ∧ R (Itl K a) H1)
theorem pi_slK {X : Cx} {tg e : Expr} {te : TE} (K : PySem.W.Frag) (he : PE X e te) (hK : X.K = K := by rfl) : PI X tg e (iSL K te) := by
  subst hK
  refine ⟨fun pins s σ H R I h => ?_⟩
  refine thn (he.run pins s σ H _ I h) fun v s1 ⟨y, H1, I1, r1, q1⟩ => ?_
  rcases q1 with ⟨x, ex, q⟩ | ⟨a, ex, ⟨xs, hq⟩, q⟩
  · subst ex
    obtain ⟨t, rfl⟩ := r1
    cases ha : x.cps.all (· < 128)
    · exact wpAny_pyIter_wide ha (pi_one (tk := s1.toks) I1 _ (turn_str _ x t "str_iterator" (.inr rfl)) ⟨_, Heap.get?_push_size _ rfl, rfl, rfl⟩ q)
    · exact wpAny_pyIter_ascii ha (pi_one (tk := s1.toks) I1 _ (turn_str _ x t "str_ascii_iterator" (.inl rfl)) ⟨_, Heap.get?_push_size _ rfl, rfl, rfl⟩ q)
  · subst ex
    cases r1
    obtain ⟨its, rv, p, hz⟩ := I1.list hq
    refine wpAny_pyIter_list p.isList ?_
    refine ⟨s1.heap.objs.size, [s1.heap.objs.size], _, _, H1, rfl, I1.kept (t' := s1.toks) fun b o e => Heap.get?_push_of_some _ e, turn_list a _, ⟨_, Heap.get?_push_size _ rfl, rfl, rfl⟩, fun b hb => ?_, q⟩
    have e : b = s1.heap.objs.size := by simpa using hb
    subst e
    exact I1.fpOk (Nat.le_refl _) (I1.hok.fresh (Nat.le_refl _))
section
variable {K : PySem.W.Frag} {G : Hp} {σ : L2.St} {te ta : TE} {tas : TA} {ds : List PyData} {d : PyData}
theorem ei_slS {z : Str} (h : ED K G te σ (.str z)) : EI K G (iSL K te) σ z.cps.size (fun i => .str ⟨#[z.cps.getD i 0]⟩) := fun G1 H a gh R q => h G1 H a gh _ fun v G2 H2 e hv => .inl ⟨z, dt_str hv, q _ G2 H2 e dw_str⟩
theorem ei_slL (h : ED K G te σ (.list ds)) : EI K G (iSL K te) σ ds.length (fun i => ds.getD i .none) := fun G1 H a gh R q => h G1 H a gh _ fun v G2 H2 e hv => by
  obtain ⟨p, xs, rfl, hl, hs⟩ := dt_list hv (Same.refl G2)
  exact .inr ⟨p, rfl, ⟨xs, e.gh.seq hl⟩, q _ G2 H2 e (dw_list hl hs)⟩
/-! ### more operations by data -/
theorem r2_eqB {x y : Bool} : R2D K rEq (.bool x) (.bool y) (.bool (decide (x = y))) := fun v w G H gh hx hy Q q => by
  rw [dt_bool hx, dt_bool hy]
  refine ⟨rfl, ?_⟩
  rw [show decide (V.bl x = V.bl y) = decide (x = y) by simp]
  exact q _ G H (Ext.refl gh) (.bl _)
theorem r2_neB {x y : Bool} : R2D K rNe (.bool x) (.bool y) (.bool (!decide (x = y))) := fun v w G H gh hx hy Q q => by
  rw [dt_bool hx, dt_bool hy]
  refine ⟨rfl, ?_⟩
  rw [show decide (V.bl x = V.bl y) = decide (x = y) by simp]
  exact q _ G H (Ext.refl gh) (.bl _)
def isNoneD : PyData → Bool
  | .none => true
  | _ => false
theorem dt_isNone {v : V} (h : Dt K G v d) : decide (v = .non) = isNoneD d := by
  cases h <;> rfl
theorem r2_isN : R2D K (fun x y H Q => y = .non ∧ Q (.bl (decide (x = .non))) H) d .none (.bool (isNoneD d)) := fun v w G H gh hx hy Q q => ⟨dt_none hy, by
  rw [dt_isNone hx]
  exact q _ G H (Ext.refl gh) (.bl _)⟩
theorem r2_notN : R2D K (fun x y H Q => y = .non ∧ Q (.bl (!decide (x = .non))) H) d .none (.bool (!isNoneD d)) := fun v w G H gh hx hy Q q => ⟨dt_none hy, by
  rw [dt_isNone hx]
  exact q _ G H (Ext.refl gh) (.bl _)⟩
theorem cb_intB {b : Bool} : CBD K (fun xs H Q => (∃ i, xs = [.int i] ∧ Q (.int i) H) ∨ ∃ k, xs = [.bl k] ∧ Q (.int (if k then 1 else 0)) H) [.bool b] (.int (if b then 1 else 0)) := fun vs G H gh h Q q => by
  obtain ⟨v, rfl, hv⟩ := dts1 h
  rw [dt_bool hv]
  exact .inr ⟨b, rfl, q _ G H (Ext.refl gh) (.int _)⟩
theorem cb_min2 {i j : Int} : CBD K (fun xs H Q => ∃ i j, xs = [.int i, .int j] ∧ Q (.int (if j < i then j else i)) H) [.int i, .int j] (.int (if j < i then j else i)) := fun vs G H gh h Q q => by
  obtain ⟨v, w, rfl, h1, h2⟩ := dts2 h
  rw [dt_int h1, dt_int h2]
  exact ⟨i, j, rfl, q _ G H (Ext.refl gh) (.int _)⟩
/-- the last item -/
theorem atI_last {α : Type} {xs : List α} {x : α} (h : xs[xs.length - 1]? = some x) (h0 : 0 < xs.length) : atI xs (-1) = some x := by
  unfold atI ixN
  rw [if_neg (by decide), if_pos (by omega), show ((-1 : Int) + (xs.length : Int)).toNat = xs.length - 1 by omega]
  exact h
theorem atI_getD {α : Type} {xs : List α} {i : Nat} {z : α} (h : i < xs.length) : atI xs (i : Int) = some (xs.getD i z) := by
  apply atI_nat
  rw [List.getD_eq_getElem?_getD, List.getElem?_eq_getElem h]
  rfl
/-! ### pure steps ahead of what isn't pure -/
variable {H : Hp} {D : Ends} {t : TT} {ts tz : TS} {b : Bool} {i : Nat} {v : V}
theorem raw_no (h : ET K G t σ b) (gh : Same G H) (hb : b = false) (k : ∀ G2 H2, Ext [] G H G2 H2 → tz D σ H2) : tSeq (tIfS t ts tNext) tz D σ H := h G H (Same.refl G) gh _ fun G2 H2 e => by
  subst hb
  exact iteF (k G2 H2 e)
theorem raw_yes (h : ET K G t σ b) (gh : Same G H) (hb : b = true) (k : ∀ G2 H2, Ext [] G H G2 H2 → ts { D with nx := tz D } σ H2) : tSeq (tIfS t ts tNext) tz D σ H := h G H (Same.refl G) gh _ fun G2 H2 e => by
  subst hb
  exact iteT (k G2 H2 e)
theorem raw_orNo {u : TT} (h : ET K G t σ b) (gh : Same G H) (hb : b = false) (k : ∀ G2 H2, Ext [] G H G2 H2 → tIfS u ts tNext D σ H2) : tIfS (tOr t u) ts tNext D σ H := h G H (Same.refl G) gh _ fun G2 H2 e => by
  subst hb
  exact iteF (k G2 H2 e)
theorem raw_noV {ε : Eff} {c n : Nat} (h : TV ε K c G t σ (fun b => b = false)) (gh : Same G H) (hI : ε.I n G H) (hl : n + c ≤ lim) (k : ∀ G2 H2, Ext ε.M G H G2 H2 → ε.I (n + c) G2 H2 → D.nx σ H2) : tIfS t ts tNext D σ H := h G H n (Same.refl G) gh hI hl _ fun b G2 H2 e hI2 hb => by
  subst hb
  exact iteF (k G2 H2 e hI2)
theorem raw_setC (h : tz D (σ.set i (some v)) H) : tSeq (tAsg (tC v) (gName i)) tz D σ H := h
theorem raw_seq (h : ts { D with nx := tz D } σ H) : tSeq ts tz D σ H := h
theorem raw_drop (h : te σ H fun _ H1 => D.nx σ H1) : tDrop te D σ H := h
theorem raw_no1 (h : ET K G t σ b) (gh : Same G H) (hb : b = false) (k : ∀ G2 H2, Ext [] G H G2 H2 → D.nx σ H2) : tIfS t ts tNext D σ H := h G H (Same.refl G) gh _ fun G2 H2 e => by
  subst hb
  exact iteF (k G2 H2 e)
theorem raw_set (h : ED K G te σ d) (gh : Same G H) (k : ∀ v G2 H2, Ext [] G H G2 H2 → Dt K G2 v d → tz D (σ.set i (some v)) H2) : tSeq (tAsg te (gName i)) tz D σ H := h G H (Same.refl G) gh _ fun v G2 H2 e hv => k v G2 H2 e hv
theorem raw_setF (h : EF K G te σ d) (gh : Same G H) (k : ∀ v G2 H2, Ext [] G H G2 H2 → Dt K (news H G2) v d → tz D (σ.set i (some v)) H2) : tSeq (tAsg te (gName i)) tz D σ H := h G H (Same.refl G) gh _ fun v G2 H2 e hv => k v G2 H2 e hv
theorem raw_setV {ε : Eff} {c n : Nat} {P : PyData → Prop} (h : EV ε K c G te σ P) (gh : Same G H) (hI : ε.I n G H) (hl : n + c ≤ lim) (k : ∀ v d G2 H2, Ext ε.M G H G2 H2 → ε.I (n + c) G2 H2 → Dt K G2 v d → P d → tz D (σ.set i (some v)) H2) : tSeq (tAsg te (gName i)) tz D σ H := h G H n (Same.refl G) gh hI hl _ fun v d G2 H2 e hI2 hv hp => k v d G2 H2 e hI2 hv hp
theorem raw_es {R : PyData → Prop} {N : Hp → L2.St → Prop} (h : ES K G ts σ R N) (gh : Same G H) (hr : ∀ v d G2 H2, Ext [] G H G2 H2 → Dt K G2 v d → R d → D.rt v H2) (hn : ∀ σ' G2 H2, Ext [] G H G2 H2 → N G2 σ' → D.nx σ' H2) : ts D σ H := h G H (Same.refl G) gh D hr hn
end
end S

set_option linter.unusedVariables false
namespace S
open PySem PySem.Spec PyProof.Rows L2
/-! ### an exception that was caught is kept: from then on it is tracked -/
section
variable {X : Cx} {pins : List (Addr × Obj)} {σ σ' : L2.St} {H H' : Hp} {s sI : Shared} {a C : Addr} {oe : Obj} {vs : Array Value}
theorem Inv.track (I : Inv X ((a, oe) :: pins) σ H s) (J : Inv X pins σ' H' sI) (hn : sI.heap.get? a = none) (hc : oe.cls = .ref C) (hdc : oe.dict = none) (hd : oe.data = .fields vs) : Inv X pins σ (upd H a (.ext (excφ a C))) s := by
  obtain ⟨ha, na, nL, nF, _⟩ := I.pin (a, oe) (List.mem_append_right _ List.mem_cons_self)
  have up : ∀ b o, H b = some o → upd H a (.ext (excφ a C)) b = some o := fun b o e => by rw [upd_ne (ne_of_none e na)]; exact e
  refine ⟨I.ok, I.os, I.bare, ⟨I.base.keep, I.base.slot, fun b o e n hx => ?_, I.base.there, fun b xs e => up _ _ (I.base.tups b xs e), fun b o u e => up _ _ (I.base.frzs b o u e), fun b ps e => ?_⟩, I.loc, I.cell, ?_, fun x c e => ?_, fun p hp => ?_, fun b o e => ?_, I.len⟩
  · have nb : b ≠ a := fun z => by
      subst z
      obtain ⟨o', q⟩ := J.base.there _ o e hx
      rw [hn] at q
      cases q
    rw [upd_ne nb]
    exact I.base.free b o e n hx
  · obtain ⟨more, q⟩ := I.base.tbls b ps e
    exact ⟨more, up _ _ q⟩
  · rw [upd_ne nL.symm]
    exact I.free
  · have nc : c ≠ a := fun z => by
      obtain ⟨v, o, ho, hdv⟩ := I.cell x c e
      have ha' : s.heap.get? a = some oe := ha
      rw [z, ha'] at ho
      cases ho
      rw [hd] at hdv
      cases hdv
    rw [upd_ne nc]
    exact I.freeC x c e
  · have hp' : p ∈ X.pn ++ ((a, oe) :: pins) := by
      rcases List.mem_append.mp hp with q | q
      · exact List.mem_append_left _ q
      · exact List.mem_append_right _ (List.mem_cons_of_mem _ q)
    obtain ⟨p1, p2, p3⟩ := I.pin p hp'
    obtain ⟨q1, _⟩ := J.pin p hp
    have np : p.1 ≠ a := fun z => by rw [z, hn] at q1; cases q1
    exact ⟨p1, by rw [upd_ne np]; exact p2, p3⟩
  · by_cases q : b = a
    · subst q
      rw [upd_same] at e
      cases e
      exact ⟨⟨oe, vs, ha, hc, hdc, hd⟩, ⟨oe, ha⟩, fun h1 h2 ⟨o1, v1, k1, k2⟩ k => ⟨o1, v1, k o1 k1, k2⟩⟩
    · rw [upd_ne q] at e
      exact (I.hok b o e).stay (fun _ _ _ z => z) (fun c z => up _ _ z) fun c xs z => up _ _ z
end
/-- 'except x as n: ..' whose exception is kept: behind the suite it is tracked -/
def wKeep (K : PySem.W.Frag) (c : Value) (i : Nat) (ts : Addr → Value → Option Addr → TS) (Wout : WX) (D : Ends) : WX := fun cls d σ H =>
  ∃ b, PySem.W.exmOne K cls c = some b ∧ (b = true → ∃ C : Addr, cls = .ref C ∧ d = none ∧ ∀ a, H a = none → ts a cls d { nx := fun σ' H' => D.nx (σ'.set i none) (upd H' a (.ext (excφ a C))), rt := fun v H' => D.rt v (upd H' a (.ext (excφ a C))), bk := fun σ' H' => D.bk (σ'.set i none) (upd H' a (.ext (excφ a C))), ct := fun σ' H' => D.ct (σ'.set i none) (upd H' a (.ext (excφ a C))) } (σ.set i (some (.ref a))) H) ∧
    (b = false → Wout cls d σ H)
section
variable {X : Cx} {x n : Str} {c : Value} {i : Nat} {body suite : List Stmt} {b₀ : Stmt} {np pos pos' : Pos} {tb : WX → TS} {ts : Addr → Value → Option Addr → TS} {Wout : WX}
theorem ps_try_keep (K : PySem.W.Frag) (hs : X.stack = X.env :: X.outer) (hf : X.env.frame = some X.env.locals) (hN : X.N.Nodup) (hi : X.N[i]? = some n) (hln : X.env.kindOf n = some .local) (hc : Names X x c) (tk : Takes X Wout)
    (hb : ∀ (W : WX) (pn : List (Addr × Obj)) (xe : Value → Shared → Prop), Takes (X.tr pn xe) W → PassesOwn (model X.prog X.w) X.A X.env xe → PSs (X.tr pn xe) body (tb W))
    (hsu : ∀ (a : Addr) (oe : Obj) (cls : Value) (d : Option Addr) (pn : List (Addr × Obj)), Zc cls d oe → (∃ vs, oe.data = .fields vs) → PSs (X.suite a ((a, oe) :: pn)) (b₀ :: suite) (ts a cls d)) (hK : X.K = K := by rfl) :
    PS X (.Try body [.ExceptHandler (some (.Name x np)) (some n) (b₀ :: suite) pos'] [] [] pos) (fun D σ H => tb (wKeep K c i ts Wout D) D σ H) := by
  subst hK
  refine ⟨fun pins s σ H D I h => ?_⟩
  have ok := I.ok
  have hfr : X.A.frames = some (X.env :: X.outer) := by rw [ok.frames, hs]
  have hloc : Loc X.env.scope n := .inl hln
  refine wpAny_Try_except ?_
  refine wpAny_mono ((hb (wKeep X.K c i ts Wout D) (X.pn ++ pins) (fun e s₁ => wpAny (model X.prog X.w) X.A (noteFrame e X.env) (fun _ s₂ => wpAny (model X.prog X.w) X.A (setFlight e none) (fun _ s₃ =>
    wpAny (model X.prog X.w) X.A (handleBy e X.env [.ExceptHandler (some (.Name x np)) (some n) (b₀ :: suite) pos']) (SP X pins D) X.xe s₃) X.xe s₂) X.xe s₁) (fun u s' xx => ?_) PassesOwn.looking).run [] s σ H D (I.toTry _) h) (fun f s1 hsp => ?_) (fun e s1 he => he)
  · -- the catch
    obtain ⟨a, B, sI, pins', σ', H', cls, d, rfl, J', nb, up, sky, na, os, ag, b, hb1, hyes, hno⟩ := xx
    have J : Inv X pins σ' H' sI := J'.ofTry ok
    have sky' : Sky B (X.env :: X.outer) a (Zc cls d) X.env.locals s'.heap := by rw [← hs]; exact sky
    show wpAny (model X.prog X.w) X.A (noteFrame (.ref a) X.env) _ _ _
    refine Sky.land Zc.steady hfr hf sky' fun h3 fl3 up3 => ?_
    have J3 : Inv X pins σ' H' { s' with heap := h3 } := J.landed nb fl3.1 (up.trans up3) os ag
    obtain ⟨oe3, vs3, he3, hz3, hd3⟩ := fl3.there
    have notFr : ∀ {h : Heap} {o : Obj} {vs : Array Value}, h.FunFrames B (X.env :: X.outer) → h.get? a = some o → o.data = .fields vs → a ∉ frs (X.env :: X.outer) := fun {h o vs} ff e dd hm => by
      obtain ⟨_, o', e', hnf⟩ := ff.mem hm
      rw [e] at e'; cases e'
      exact hnf _ dd
    have nfr := notFr fl3.2.2.1 he3 hd3
    have nL : a ≠ X.env.locals := fun z => nfr (List.mem_filterMap.mpr ⟨X.env, List.mem_cons_self, by rw [hf, z]⟩)
    have nF : a ∉ X.fs := fun hm => by
      obtain ⟨e, he, q⟩ := List.mem_filterMap.mp hm
      exact nfr (List.mem_filterMap.mpr ⟨e, List.mem_cons_of_mem _ he, q⟩)
    have newI : sI.heap.get? a = none := by
      cases q : sI.heap.get? a with
      | none => rfl
      | some o =>
        have z := nb a o q (by rw [hs]; exact nfr)
        rw [fl3.2.1] at z
        cases z
    have S3 := J3.suite he3 hd3 na nL nF
    refine wpAny_handleBy_cons (codeAny_handlers_test ?_) (by intro q; cases q)
    have LT : PySem.W.Looks (model X.prog X.w) h3 (typeOf (.ref a)) cls := fun A Q E s k q => wpAny_typeOf_ref (k _ _ he3) (by rw [hz3.1]; exact q)
    have LM := PySem.W.exm_one (M := model X.prog X.w) (J3.kIn) LT hb1
    have test : ∀ {Q : Value → Shared → Prop} {E : Value → Shared → Prop}, Q c { s' with heap := h3 } → wpAny (model X.prog X.w) (X.A.mark (some (.ref a))) (eval (.Name x np) X.env) Q E { s' with heap := h3 } := fun {Q E} q => by
      obtain ⟨hg, hdbg, hm | ⟨hm, hv, hnn⟩⟩ := hc
      · exact ld_glob (X := X.suite a ((a, oe3) :: (X.pn ++ pins))) S3 hg hm q hdbg
      · exact ld_blt (X := X.suite a ((a, oe3) :: (X.pn ++ pins))) S3 hg hm hv q hnn hdbg
    refine test (LM.here ?_)
    cases b with
    | true =>
      obtain ⟨C, hcls, hdn, hyes⟩ := hyes rfl
      refine codeAny_handlers_suite_as ?_
      refine HandSPX.lands_againZ fl3 fun h4 fl4 up4 => ?_
      have J4 : Inv X pins σ' H' { s' with heap := h4 } := J.landed nb fl4.1 ((up.trans up3).trans up4) os ag
      obtain ⟨oe4, vs4, he4, hz4, hd4⟩ := fl4.there
      have S4 := J4.suite he4 hd4 na nL nF
      refine store_ok (X := X.suite a ((a, oe4) :: (X.pn ++ pins))) (v := .ref a) S4 hN hi hloc rfl (fun s5 S5 => ?_) (.inr hln)
      refine wpAny_mono ((hsu a oe4 cls d (X.pn ++ pins) hz4 ⟨_, hd4⟩).run [] s5 _ H' _ S5 (hyes a na)) (fun f s6 hsp => ?_) (fun _ _ z => False.elim z)
      have end_ : ∀ {σ6 : L2.St} {H6 : Hp} {Q : Shared → Prop}, Inv (X.suite a ((a, oe4) :: (X.pn ++ pins))) [] σ6 H6 s6 → (∀ s7, Inv X pins (σ6.set i none) (upd H6 a (.ext (excφ a C))) s7 → Q s7) →
          wpAny (model X.prog X.w) X.A (do bindName X.env n .none; unbindBehindTheSuite X.env n pos') (fun _ s7 => Q s7) X.xe s6 := fun {σ6 H6 Q} S6 hq => by
        have U : Inv X ((a, oe4) :: pins) σ6 H6 s6 := ⟨ok, S6.os, S6.bare, S6.base, S6.loc, S6.cell, S6.free, S6.freeC, fun p hp => S6.pin p (List.mem_append_left _ (by
          rcases List.mem_append.mp hp with q | q
          · exact List.mem_cons_of_mem _ (List.mem_append_left _ q)
          · rcases List.mem_cons.mp q with q | q
            · rw [q]; exact List.mem_cons_self
            · exact List.mem_cons_of_mem _ (List.mem_append_right _ q))), S6.hok, S6.len⟩
        exact gone_ok U hN hi hln fun s7 J7 => hq s7 (Inv.track J7 J newI (hz4.1.trans hcls) (hz4.2.trans hdn) hd4)
      cases f with
      | next =>
        obtain ⟨σ6, H6, S6, q6⟩ := hsp
        exact end_ S6 fun s7 J7 => ⟨_, _, J7, q6⟩
      | brk =>
        obtain ⟨σ6, H6, S6, q6⟩ := hsp
        exact end_ S6 fun s7 J7 => ⟨_, _, J7, q6⟩
      | cont =>
        obtain ⟨σ6, H6, S6, q6⟩ := hsp
        exact end_ S6 fun s7 J7 => ⟨_, _, J7, q6⟩
      | ret u =>
        obtain ⟨v6, σ6, H6, S6, r6, q6⟩ := hsp
        exact end_ S6 fun s7 J7 => ⟨_, _, _, J7, r6, q6⟩
    | false =>
      show wpAny _ X.A (handleBy (.ref a) X.env []) _ _ _
      refine wpAny_handleBy_nil ?_
      obtain ⟨k1, k2, k3, oe, vs, T, oT, ts', he, hz, hd, h1, hr⟩ := id fl3
      unfold PySem.passOn
      refine wpAny_bind (wpAny_field he hd h1 ?_)
      rw [if_neg (show ¬ ((Value.ref T == Value.none) = true) from by simp)]
      have fin : wpAny (model X.prog X.w) X.A (setFlight (.ref a) X.env.frame) (fun _ s4 => wpAny (model X.prog X.w) X.A (throw (.ref a) : Sem Flow) (SP X pins D) X.xe s4) X.xe { s' with heap := h3 } := by
        rw [hf]
        refine HandSPX.setFlight_upZ fl3 fun h4 hh4 up4 => wpAny_throw (tk _ _ ?_)
        exact ⟨a, B, sI, pins, σ', H', cls, d, rfl, J, nb, (up.trans up3).trans up4, .inr (.inr (by rw [hs]; exact hh4)), na, os, ag, hno rfl⟩
      first
        | exact wpAny_bind (wpAny_pure (wpAny_bind fin))
        | exact wpAny_bind fin
  · cases f with
    | next =>
      obtain ⟨σ', H', J', q⟩ := hsp
      exact wpAny_execs_nil ⟨σ', H', J'.ofTry ok, q⟩
    | brk =>
      obtain ⟨σ', H', J', q⟩ := hsp
      exact ⟨σ', H', J'.ofTry ok, q⟩
    | cont =>
      obtain ⟨σ', H', J', q⟩ := hsp
      exact ⟨σ', H', J'.ofTry ok, q⟩
    | ret u =>
      obtain ⟨v, σ', H', J', r, q⟩ := hsp
      exact ⟨v, σ', H', J'.ofTry ok, r, q⟩
end
/-! ### isinstance(e, c) of an exception that was kept -/
def rIsX (K : PySem.W.Frag) : List V → Hp → VK → Prop := fun xs H Q => ∃ (a C : Addr) (c : V) (cv : Value) (b : Bool), xs = [.ref a, c] ∧ H a = some (.ext (excφ a C)) ∧ ExcC K C ∧ ClsV c cv ∧ PySem.W.kitOne K (.ref C) cv = some b ∧ Q (.bl b) H
theorem call_isX {X : Cx} (K : PySem.W.Frag) (hK : X.K = K := by rfl) : CallR X (.builtin "isinstance") (rIsX K) := by
  subst hK
  intro pins s σ H xs us Q I r h
  obtain ⟨a, C, c, cv, b, rfl, ha, hC, hcv, e, q⟩ := h
  cases r with
  | cons rx rr =>
    cases rr with
    | cons rt rr =>
      cases rr
      cases rx
      have ec := hcv.eq rt
      subst ec
      obtain ⟨⟨oe, vs, h1, h2, h3, h4⟩, _, _⟩ := (show ObjOk X.prog X.w H s.heap a (.ext (excφ a C)) from I.hok a _ ha)
      have J : PySem.W.InstAt s.heap a oe C none := by
        obtain ⟨oc, od, oda, osl⟩ := oe
        dsimp only at h2 h3 h4
        subst h2 h3 h4
        exact ⟨h1, rfl, rfl, trivial⟩
      exact PySem.W.kia_one (PySem.W.handS_kitx_exc hC.hg hC.hk hC.hs hC.hd hC.ha hC.hn hC.ht hC.hm) I.kIn J e (fun z => nomatch z) fun tk => ⟨.bl b, H, I.kept (t' := tk) fun _ _ z => z, rfl, q⟩
section
variable {K : PySem.W.Frag} {G H : Hp} {σ : L2.St} {ta : TE} {C D : Addr} {ans : Bool} {v : V}
theorem dt_exc (h : Dt K G v (dExc C)) (gh : Same G H) : ∃ a, v = .ref a ∧ H a = some (.ext (excφ a C)) := by
  generalize e : dExc C = d at h
  cases h with
  | dct h hs =>
    cases hs with
    | nil => cases e
    | @cons k _ _ _ _ _ _ =>
      cases k with
      | inl i => simp [keyD] at e
      | inr x => simp [keyD] at e
  | exc h =>
    simp only [PyData.dict.injEq, List.cons.injEq, Prod.mk.injEq, true_and, PyData.int.injEq, and_true] at e
    have e2 : C = _ := Int.ofNat.inj e
    subst e2
    exact ⟨_, rfl, gh _ _ h⟩
  | _ => cases e
theorem ed_isX (h : ED K G ta σ (dExc C)) (c : ExcC K C) (hk : PySem.W.kitOne K (.ref C) (.ref D) = some ans) : ED K G (tCB (rIsX K) (tCons ta (tCons (tC (.ref D)) tNil))) σ (.bool ans) := fun G1 H a gh Q q => h G1 H a gh _ fun v G2 H2 e hv => by
  obtain ⟨p, rfl, hp⟩ := dt_exc hv e.gh
  exact ⟨p, C, _, _, ans, rfl, hp, c, .own D, hk, q _ G2 H2 e (.bl _)⟩
theorem ed_isXT {T : String} (h : ED K G ta σ (dExc C)) (c : ExcC K C) (hk : PySem.W.kitOne K (.ref C) (.type T) = some ans) : ED K G (tCB (rIsX K) (tCons ta (tCons (tC (.ty T)) tNil))) σ (.bool ans) := fun G1 H a gh Q q => h G1 H a gh _ fun v G2 H2 e hv => by
  obtain ⟨p, rfl, hp⟩ := dt_exc hv e.gh
  exact ⟨p, C, _, _, ans, rfl, hp, c, .ty T, hk, q _ G2 H2 e (.bl _)⟩
end
/-! ### what a class of exceptions must have -/
structure ExT (K : PySem.W.Frag) (mg : Str → Option Value) (x : Str) (C : Addr) : Prop where
  gm : mg x = some (.ref C)
  q : PySem.W.excIn K C [.type "ValueError", .type "Exception", .type "BaseException", .type "object"] "ValueError.__new__" = true
  kp : PySem.W.keepIn K (.ref C) = true
  b : PySem.W.subIn K (.ref C) (.type "BaseException") = some true
  t : PySem.W.typeIn K (.ref C) = some (.type "type")
  c : ExcC K C
/-- raise X("..") out of a def -/
theorem ps_raiseX {X : Cx} {x m : Str} {C : Addr} {j : Nat} {p p2 pos pos2 : Pos} {W : WX} (T : ExT X.K X.mg x C) (tk : Takes X W) (hc : X.calm = true := by rfl) (hg : Gl X x := by rfl) (hdb : (x == ("__debug__" : Str)) = false := by decide) :
    PS X (.Raise (some (.Call (.Name x p) [.Constant (.str m) j p2] [] pos)) none pos2) (fun _ σ H => W (.ref C) none σ H) :=
  ps_raise hc tk (pmk_own PySem.F.excBase_ValueError T.q T.gm T.kp (raises_own T.b T.t) hg hdb)
/-! ### C(..) where __init__ may raise -/
def tMakeS (C : Addr) (sp : Sp) (E : L2.St → XK) (t : TA) : TE := fun σ H Q => t σ H fun vs H1 => ∀ x dx, H1 x = none → H1 dx = none → dx ≠ x →
  sp (.ref x :: vs) (upd (upd H1 dx (.own x)) x (.ins C dx [])) (fun v H2 => v = .non ∧ Q (.ref x) H2) (E σ)
section
variable {X : Cx} {j k : Nat} {C f : Addr} {x : Str} {ps : List Str} {sp : Sp} {e : Expr} {es : List Expr} {t : TA} {p pos : Pos} {E : L2.St → XK} {CX : CXT} {fd : FuncData}
theorem passE {X : Cx} : ∀ σ, PassesAt (L2.CX X.prog X.w) X σ E0 := fun _ _ _ _ _ _ _ h => by
  obtain ⟨_, _, _, _, _, _, _, _, _, _, _, _, z⟩ := h
  exact z.elim
theorem run_makeS {pins : List (Addr × Obj)} {σ : L2.St} {H : Hp} {s : Shared} {Q : VK} {us : List Value} {vs : List V} (M : Mk X.K C f) (F : FnOk X.prog X.w X.K X.mg X.base CX k f fd ps sp) (hr : Room (k + 1) X.A) (hb : Binds X.K fd ps [])
    (hx : PassesAt CX X σ (E σ)) (I : Inv X pins σ H s) (r : Vals vs us)
    (h : ∀ x dx, H x = none → H dx = none → dx ≠ x → sp (.ref x :: vs) (upd (upd H dx (.own x)) x (.ins C dx [])) (fun v H2 => v = .non ∧ Q (.ref x) H2) (E σ)) :
    wpAny (model X.prog X.w) X.A (call (.ref C) us) (EP X pins σ Q) X.xe s := by
  have hq := h (s.heap.objs.size + 1) s.heap.objs.size (I.hok.fresh (Nat.le_succ _)) (I.hok.fresh (Nat.le_refl _)) (Nat.ne_of_lt (Nat.lt_succ_self _))
  have I2 := Inv.made (C := C) I
  have r2 : Vals (V.ref (s.heap.objs.size + 1) :: vs) (Value.ref (s.heap.objs.size + 1) :: us) := .cons rfl r
  have hl : (Value.ref (s.heap.objs.size + 1) :: us ++ []).length = ps.length := by
    have e := r2.length
    rw [F.len _ _ _ _ hq] at e
    rw [List.append_nil]
    exact e.symm
  have hbb := hb _ (Value.ref (s.heap.objs.size + 1) :: us) I2.kIn hl
  rw [List.append_nil] at hbb
  refine wpAny_call (make_map (f := f) I.kIn M.makes M.init (beq_iff_eq.mp M.fn) (codeAny_mono (F.run _ X.stack _ _ ⟨Value.ref (s.heap.objs.size + 1) :: us, []⟩ (Value.ref (s.heap.objs.size + 1) :: us) _ _ (E σ) (hr.make C us [])
    (I2.env0.make C us []) hbb r2 hq) fun r s' hq' => ?_))
  cases r with
  | error e => exact hx pins _ _ e s' I2 hq'
  | ok fl =>
    cases fl with
    | ret u =>
      obtain ⟨v, H', I3, rv, ev, q3⟩ := I2.after hq'
      subst ev
      exact ⟨rv, ⟨V.ref (s.heap.objs.size + 1), H', I3, rfl, q3⟩⟩
    | next => exact False.elim hq'
    | brk => exact False.elim hq'
    | cont => exact False.elim hq'
theorem pe_newX (h : HasI X.prog X.w X.K X.mg X.base (L2.CX X.prog X.w) k x C ps sp) (hr : Room j X.A) (hk : k + 1 ≤ j) (hg : Gl X x) (hx : ∀ σ, PassesAt (L2.CX X.prog X.w) X σ (E σ)) (ha : PA X (e :: es) t) (hdb : (x == ("__debug__" : Str)) = false := by decide)
    (he : starEach (e :: es) X.env = (false, eval e X.env) :: starEach es X.env := by rfl) (hpl : (backTo pos (starEach es X.env)).any (·.1) = false := by rfl) :
    PE X (.Call (.Name x p) (e :: es) [] pos) (tMakeS C sp E t) := by
  obtain ⟨f, fd, F, M, b, hm⟩ := h
  refine ⟨fun pins s σ H Q I h => ?_⟩
  refine wpAny_Call_Name_kw (ld_glob I hg hm ?_ hdb)
  refine PySem.W.callWith_K (h₀ := X.base) I.ok.mod.kin M.kp (thn (ha.run pos pins s σ H _ I h) fun us s1 ⟨vs, H1, I1, r, q⟩ => ⟨I1.kIn, ?_⟩) he hpl
  exact run_makeS M F (hr.mono hk) b (hx σ) I1 r q
end
/-- __init__ that may refuse: Bad tells of what, and by which class -/
def IXFn (K : PySem.W.Frag) (okC : Addr → Prop) (R : List PyData → List (PyData × PyData) → Prop) (Bad : List PyData → Addr → Prop) : Sp := fun vs H Q E => ∃ (G : Hp) (x C dx : Addr) (ws : List V) (ds : List PyData), vs = .ref x :: ws ∧ okC C ∧ Same G H ∧ G x = none ∧ H x = some (.ins C dx []) ∧ DtAll K G ws ds ∧ 
  ((∃ os, R ds os ∧ ∀ G' H' dx' fs, Ext [x] G H G' H' → H' x = some (.ins C dx' fs) → DtFs K (news H G') fs os → Q .non H') ∨ (∃ B, Bad ds B ∧ ∀ G' H', Ext [x] G H G' H' → E (.ref B) none H'))
theorem ef_makeX {K : PySem.W.Frag} {G : Hp} {σ : L2.St} {tas : TA} {ds : List PyData} {C : Addr} {okC : Addr → Prop} {R : List PyData → List (PyData × PyData) → Prop} {Bad : List PyData → Addr → Prop} {os : List (PyData × PyData)} {E : L2.St → XK} (h : EA K G tas σ ds) (hc : okC C) (hr : R ds os) : EF K G (tMakeS C (IXFn K okC R Bad) E tas) σ (dObj C os) := fun G1 H a gh Q q => h G1 H a gh _ fun vs G2 H2 e hvs => by
  intro x dx hx hdx ne
  have hx3 : upd H2 dx (.own x) x = none := by rw [upd_ne ne.symm]; exact hx
  have e3 : Ext [] G2 H2 G2 (upd H2 dx (.own x)) := Ext.cell e.gh hdx
  have e4 : Ext [] G2 (upd H2 dx (.own x)) G2 (upd (upd H2 dx (.own x)) x (.ins C dx [])) := Ext.cell e3.gh hx3
  have e04 := (e.same e3).same e4
  refine ⟨G2, x, C, dx, vs, ds, rfl, hc, e4.gh, e.gh.free hx, upd_same, hvs, .inl ⟨os, hr, fun G' H' dx' fs e5 hx' hf => ⟨rfl, ?_⟩⟩⟩
  have hxH : H x = none := e.dm x hx
  have e05 : Ext [] G1 H G' H' := e04.trans e5 fun z hz => .inr (by rw [List.mem_singleton] at hz; rw [hz]; exact hxH)
  have gx : G' x = none := e5.free (e.gh.free hx) upd_same
  refine q _ _ _ (Ext.know e5.gh hx' gx e05 hxH) (.obj (news_at hxH upd_same) (same_dtf (fun b u z => ?_) hf))
  obtain ⟨z1, z2⟩ := news_of z
  have nb : b ≠ x := fun z => by rw [z, upd_same] at z1; cases z1
  exact news_at (e04.dm b z1) (by rw [upd_ne nb]; exact z2)
theorem ev_makeX {ε : Eff} {K : PySem.W.Frag} {G : Hp} {σ : L2.St} {tas : TA} {c : Nat} {Ps : List PyData → Prop} {Pd : PyData → Prop} {C : Addr} {okC : Addr → Prop} {R : List PyData → List (PyData × PyData) → Prop} {Bad : List PyData → Addr → Prop} {E : L2.St → XK} (h : AV ε K c G tas σ Ps) (hc : okC C) (hr : ∀ ds, Ps ds → ∃ os, R ds os ∧ Pd (dObj C os)) : EV ε K c G (tMakeS C (IXFn K okC R Bad) E tas) σ Pd := fun G1 H n a gh hI hl Q q => h G1 H n a gh hI hl _ fun vs ds G2 H2 e hI2 hvs hps => by
  obtain ⟨os, h1, h2⟩ := hr ds hps
  exact ef_makeX (E := E) (Bad := Bad) (tas := fun _ H Q => Q vs H) (fun G3 H3 a3 gh3 Q q => q vs G3 H3 (Ext.refl gh3) (same_dts a3 hvs)) hc h1 G2 H2 (Same.refl G2) e.gh Q fun v G3 H3 e3 hv => q v _ G3 H3 (e.same e3) (ε.stay hI2 e3) (same_dt news_le hv) h2
/-- C(..) is refused -/
theorem make_bad {K : PySem.W.Frag} {G H : Hp} {σ : L2.St} {tas : TA} {ds : List PyData} {C B : Addr} {okC : Addr → Prop} {R : List PyData → List (PyData × PyData) → Prop} {Bad : List PyData → Addr → Prop} {E : L2.St → XK} {Q : VK} (h : EA K G tas σ ds) (gh : Same G H) (hc : okC C) (hb : Bad ds B) (k : ∀ G' H', Ext [] G H G' H' → E σ (.ref B) none H') : tMakeS C (IXFn K okC R Bad) E tas σ H Q := h G H (Same.refl G) gh _ fun vs G2 H2 e hvs => by
  intro x dx hx hdx ne
  have hx3 : upd H2 dx (.own x) x = none := by rw [upd_ne ne.symm]; exact hx
  have e3 : Ext [] G2 H2 G2 (upd H2 dx (.own x)) := Ext.cell e.gh hdx
  have e4 : Ext [] G2 (upd H2 dx (.own x)) G2 (upd (upd H2 dx (.own x)) x (.ins C dx [])) := Ext.cell e3.gh hx3
  have e04 := (e.same e3).same e4
  exact ⟨G2, x, C, dx, vs, ds, rfl, hc, e4.gh, e.gh.free hx, upd_same, hvs, .inr ⟨B, hb, fun G' H' e5 => k G' H' (e04.trans e5 fun z hz => .inr (by rw [List.mem_singleton] at hz; rw [hz]; exact e.dm x hx))⟩⟩
section
variable {P : Program} {w : World} {K : PySem.W.Frag} {mg : Str → Option Value} {base : Heap} {C : Addr} {x q : Str} {st : Stmt} {N ps : List Str} {k : Nat} {sp : Sp}
theorem InitIn.okX (F : InitIn K mg x C q st) (S : FnScope N ps (defScope st)) (len : ∀ vs H Q E, sp vs H Q E → vs.length = ps.length)
    (hb : ∀ (kV doc pm : Value) (an : Option Addr) (cdv ct : Value) (us : List Value), us.length = ps.length → bindArgs (PySem.W.fnOf "__init__" q (defArgs st) (defBody st) (defScope st) .none kV doc pm an cdv ct) ⟨us, []⟩ = Pure.pure (ps.zip us))
    (hbody : ∀ (f : Addr) (cdv : Value) (A : Around) (outer : List Env) (s : Shared) (H : Hp) (vs : List V) (Q : VK) (E : XK), Room k (A.deeper (PyProof.Rows.envOfC q (defScope st) s.heap.objs.size f cdv)) → sp vs H Q E →
      ∃ t, PSs (cxOf (L2.CX P w) P w K mg base N q (defScope st) f cdv A outer s H E) (defBody st) t ∧ t { nx := fun _ H' => Q .non H', rt := Q } (start N vs) H) : HasI P w K mg base (L2.CX P w) (k + 1) x C ps sp := by
  obtain ⟨f, fd, F, M, hm⟩ := F
  exact ⟨f, fd, F.okX S len (hbody f), M, F.binds hb, hm⟩
end
end S

set_option linter.unusedVariables false
namespace S
open PySem PySem.Spec PyProof.Rows L2
/-! ### a sign n times; the signs of a text as a list; a list n times -/
theorem foldl_rep (c : Nat) : ∀ (n : Nat) (a : Array Nat), (List.replicate n #[c]).foldl (· ++ ·) a = a ++ (List.replicate n c).toArray
  | 0, a => by simp
  | n + 1, a => by
    rw [List.replicate_succ, List.foldl_cons, foldl_rep c n, List.replicate_succ]
    apply Array.ext'
    simp
def rRepS : R2 := fun x y H Q => ∃ (c : Nat) (n : Int), x = .str (sg c) ∧ y = .int n ∧ 2 ≤ n ∧ n ≤ 1000 ∧ Q (.str (mkS (List.replicate n.toNat c))) H
theorem op_repS {X : Cx} : OpR X (binaryOp .Mult) rRepS := by
  intro pins s σ H x y v u Q I rx ry h
  obtain ⟨c, n, rfl, rfl, h1, h2, q⟩ := h
  obtain ⟨t, rfl⟩ := rx
  obtain ⟨t', rfl⟩ := ry
  have e1 : Str.length (sg c) = 1 := rfl
  refine PySem.P.mul_str (by rw [decide_eq_false (by omega), decide_eq_false (by omega)]; rfl) (fun _ _ => by
    rw [e1]
    have hq : 1 ≤ (2 ^ 63 - 1) / n := by (apply Int.le_ediv_of_mul_le <;> omega)
    exact Int.not_lt.mpr hq) (fun _ _ => by
    rw [e1]
    unfold Builtin.Str.tooLong
    exact decide_eq_false (by have : (sizeLine : Nat) = 16777216 := rfl; omega)) ?_
  rw [if_neg (by omega), if_neg (by rw [e1]; simp; omega)]
  have e2 : (⟨(List.replicate n.toNat (sg c).cps).foldl (· ++ ·) #[]⟩ : Str) = mkS (List.replicate n.toNat c) := by
    show (⟨(List.replicate n.toNat #[c]).foldl (· ++ ·) #[]⟩ : Str) = _
    rw [foldl_rep]
    simp [mkS]
  rw [e2]
  refine ⟨?_, .str _, H, I.tok _, ⟨_, rfl⟩, q⟩
  rw [mkS_len, List.length_replicate]
  have : (sizeLine : Nat) = 16777216 := rfl
  omega
theorem call_listT {X : Cx} (hc : X.calm = true) : CallR X (.type "list") (fun xs H Q => ∃ z : List Nat, xs = [.str (mkS z)] ∧ z.length ≤ 10000 ∧ ∀ l, H l = none → Q (.ref l) (upd H l (.lst (z.map fun c => .str (sg c))))) := by
  intro pins s σ H xs us Q I r h
  obtain ⟨z, rfl, hz, q⟩ := h
  obtain ⟨u, rfl, t, rfl⟩ := vals1 r
  have hsz : (mkS z).cps.size = z.length := mkS_size z
  refine call_list_str (I.ok.hd hc) (mkS z) t (fun h' tk acc' c' hkeep hS hacc => ?_) (by rw [hsz]; exact Nat.le_trans hz (by decide))
  refine ⟨.ref s.heap.objs.size, upd H s.heap.objs.size (.lst (z.map fun c => .str (sg c))), I.laid hkeep (Nat.le_refl _) (show ObjOk X.prog X.w _ _ _ (.lst (z.map fun c => .str (sg c))) from ⟨?_, acc'.toList, c', ?_, ?_⟩), rfl, q _ (I.hok.fresh (Nat.le_refl _))⟩
  · rw [List.length_map]; exact Nat.le_trans hz (by decide)
  · have el : acc'.toList.length = acc'.size := by simp
    refine vals_of_at (by rw [List.length_map, el, hacc.1, hsz]) fun j x w h1 h2 => ?_
    obtain ⟨c, tu, hcu, rfl⟩ := hacc.2 j w (by rw [← Array.getElem?_toList]; exact h2)
    have hz2 : z[j]? = some c := by
      have : (mkS z).cps[j]? = some c := hcu
      show _
      rw [← Array.getElem?_toList] at this
      exact this
    rw [List.getElem?_map, hz2] at h1
    cases h1
    exact ⟨_, rfl⟩
  · exact hS
section
variable {K : PySem.W.Frag} {G : Hp} {σ : L2.St} {te : TE} {ds : List PyData}
theorem r2_repS {c : Nat} {n : Int} (h1 : 2 ≤ n) (h2 : n ≤ 1000) : R2D K rRepS (.str (sg c)) (.int n) (.str (mkS (List.replicate n.toNat c))) := fun v w G H gh hx hy Q q => by
  rw [dt_str hx, dt_int hy]
  exact ⟨c, n, rfl, rfl, h1, h2, q _ G H (Ext.refl gh) (.str _)⟩
theorem cb_listT' {z : List Nat} (hz : z.length ≤ 10000) : CBD K (fun xs H Q => ∃ z : List Nat, xs = [.str (mkS z)] ∧ z.length ≤ 10000 ∧ ∀ l, H l = none → Q (.ref l) (upd H l (.lst (z.map fun c => .str (sg c))))) [.str (mkS z)] (.list (z.map fun c => .str (sg c))) := fun vs G H gh h Q q => by
  obtain ⟨v, rfl, hv⟩ := dts1 h
  rw [dt_str hv]
  refine ⟨z, rfl, hz, fun l hl => q _ _ _ (Ext.new gh hl) (.lst upd_same ?_)⟩
  have e1 : (z.map fun c => V.str (sg c)) = (z.map sg).map V.str := by rw [List.map_map]; rfl
  have e2 : (z.map fun c => PyData.str (sg c)) = (z.map sg).map PyData.str := by rw [List.map_map]; rfl
  rw [e1, e2]
  exact strs_dts _
theorem dts_rep {xs : List V} (h : DtAll K G xs ds) : ∀ n : Nat, DtAll K G (List.replicate n xs).flatten (List.replicate n ds).flatten
  | 0 => .nil
  | n + 1 => by
    rw [List.replicate_succ, List.replicate_succ, List.flatten_cons, List.flatten_cons]
    exact dts_app h (dts_rep h n)
theorem r2_rep {n : Int} (h1 : 0 ≤ n) (h2 : n ≤ 1000) (h3 : ds.length ≤ 1000) : R2D K rRep (.list ds) (.int n) (.list (List.replicate n.toNat ds).flatten) := fun v w G H gh hx hy Q q => by
  obtain ⟨a, xs, rfl, ha, hs⟩ := dt_lst hx gh
  rw [dt_int hy]
  have hl := dts_len hs
  refine ⟨a, n, xs, rfl, rfl, ha, by omega, by omega, ?_, fun p hp => q _ _ _ (Ext.new gh hp) (.lst upd_same (dts_rep (same_dts (same_new (gh.free hp)) hs) _))⟩
  have : xs.length * n.toNat ≤ 1000 * 1000 := Nat.mul_le_mul (by omega) (by omega)
  exact Nat.le_trans this (by decide)
theorem cb_tupleL : CBD K (fun xs H Q => ∃ p ys, xs = [.ref p] ∧ ((SqL K H p ys ∧ ∀ l, H l = none → Q (.ref l) (upd H l (.tup ys))) ∨ (SqT K H p ys ∧ Q (.ref p) H))) [.list ds] (.tuple ds) := fun vs G H gh h Q q => by
  obtain ⟨v, rfl, hv⟩ := dts1 h
  obtain ⟨a, xs, rfl, hl, hs⟩ := dt_list hv gh
  exact ⟨a, xs, rfl, .inl ⟨hl, fun l hl => q _ _ _ (Ext.new gh hl) (.tup (SqT.of upd_same) (same_dts (same_new (gh.free hl)) hs))⟩⟩
end
end S

set_option autoImplicit false
namespace S
open PySem L2
local macro_rules | `(tactic| walk_at "dt") => `(tactic| first | assumption | (refine same_dt (by assumption) ?_; walk_at "dt"))
local macro_rules | `(tactic| walk_at "if") => `(tactic| first | refine ite_pos (by decide +kernel) ?_ | refine ite_neg (by decide +kernel) ?_)
def top (i : Nat) : Stmt := PySem.Challenge.pw_sheetland_k03_grounds.main.body.getD i (.Pass ⟨0, 0, 0, 0⟩)
abbrev s_BadText___init__ : Stmt := inClass (top 11) 0
abbrev s_is_among : Stmt := top 16
abbrev s_is_size : Stmt := top 17
abbrev s_are_rows : Stmt := top 19
abbrev s_Layer___init__ : Stmt := inClass (top 20) 0
abbrev s_Layer_rows : Stmt := inClass (top 20) 1
abbrev s_Layer_sign_at : Stmt := inClass (top 20) 2
abbrev s_Layer_size : Stmt := inClass (top 20) 3
abbrev s_Layer_signs_along : Stmt := inClass (top 20) 4
abbrev s_Layer_edge : Stmt := inClass (top 20) 5
abbrev s_Layer_clash : Stmt := inClass (top 20) 6
abbrev s_Ground___init__ : Stmt := inClass (top 21) 0
abbrev s__law_mixed : Stmt := top 23
abbrev s__law_state : Stmt := top 24
abbrev s__law_take : Stmt := top 25
abbrev s__law_whole : Stmt := top 26
abbrev s__law_word : Stmt := top 27
abbrev s__law_size : Stmt := top 28
abbrev s__law_ground : Stmt := top 29
abbrev s__law_edge : Stmt := top 30
abbrev s__law_bad_rows : Stmt := top 31
abbrev s__law_refused : Stmt := top 32
abbrev s__law_right : Stmt := top 33
abbrev s_law : Stmt := top 34
theorem sc_BadText___init__ : FnScope ["self", "line"] ["self", "line"] (defScope s_BadText___init__) := ⟨rfl, rfl, rfl, by decide +kernel, rfl, by decide +kernel, by decide +kernel⟩
theorem sc_is_among : FnScope ["thing", "least", "most"] ["thing", "least", "most"] (defScope s_is_among) := ⟨rfl, rfl, rfl, by decide +kernel, rfl, by decide +kernel, by decide +kernel⟩
theorem sc_is_size : FnScope ["thing"] ["thing"] (defScope s_is_size) := ⟨rfl, rfl, rfl, by decide +kernel, rfl, by decide +kernel, by decide +kernel⟩
theorem sc_are_rows : FnScope ["thing", "signs", "row", "sign"] ["thing", "signs"] (defScope s_are_rows) := ⟨rfl, rfl, rfl, by decide +kernel, rfl, by decide +kernel, by decide +kernel⟩
theorem sc_Layer___init__ : FnScope ["self", "rows"] ["self", "rows"] (defScope s_Layer___init__) := ⟨rfl, rfl, rfl, by decide +kernel, rfl, by decide +kernel, by decide +kernel⟩
theorem sc_Layer_rows : FnScope ["self"] ["self"] (defScope s_Layer_rows) := ⟨rfl, rfl, rfl, by decide +kernel, rfl, by decide +kernel, by decide +kernel⟩
theorem sc_Layer_sign_at : FnScope ["self", "row", "column"] ["self", "row", "column"] (defScope s_Layer_sign_at) := ⟨rfl, rfl, rfl, by decide +kernel, rfl, by decide +kernel, by decide +kernel⟩
theorem sc_Layer_size : FnScope ["self"] ["self"] (defScope s_Layer_size) := ⟨rfl, rfl, rfl, by decide +kernel, rfl, by decide +kernel, by decide +kernel⟩
theorem sc_Layer_signs_along : FnScope ["self", "way", "row"] ["self", "way"] (defScope s_Layer_signs_along) := ⟨rfl, rfl, rfl, by decide +kernel, rfl, by decide +kernel, by decide +kernel⟩
theorem sc_Layer_edge : FnScope ["self", "way"] ["self", "way"] (defScope s_Layer_edge) := ⟨rfl, rfl, rfl, by decide +kernel, rfl, by decide +kernel, by decide +kernel⟩
theorem sc_Layer_clash : FnScope ["self", "other", "way"] ["self", "other", "way"] (defScope s_Layer_clash) := ⟨rfl, rfl, rfl, by decide +kernel, rfl, by decide +kernel, by decide +kernel⟩
theorem sc_Ground___init__ : FnScope ["self", "rows"] ["self", "rows"] (defScope s_Ground___init__) := ⟨rfl, rfl, rfl, by decide +kernel, rfl, by decide +kernel, by decide +kernel⟩
theorem sc__law_mixed : FnScope ["_law_cell", "_law_k", "_law_more"] ["_law_cell", "_law_k"] (defScope s__law_mixed) := ⟨rfl, rfl, rfl, by decide +kernel, rfl, by decide +kernel, by decide +kernel⟩
theorem sc__law_state : FnScope ["_law_cells", "_law_k"] ["_law_cells", "_law_k"] (defScope s__law_state) := ⟨rfl, rfl, rfl, by decide +kernel, rfl, by decide +kernel, by decide +kernel⟩
theorem sc__law_take : FnScope ["_law_state_here", "_law_many", "_law_at", "_law_cell", "_law_found", "_law_k"] ["_law_state_here", "_law_many"] (defScope s__law_take) := ⟨rfl, rfl, rfl, by decide +kernel, rfl, by decide +kernel, by decide +kernel⟩
theorem sc__law_whole : FnScope ["_law_found"] ["_law_found"] (defScope s__law_whole) := ⟨rfl, rfl, rfl, by decide +kernel, rfl, by decide +kernel, by decide +kernel⟩
theorem sc__law_word : FnScope ["_law_e", "_law_found", "_law_word_here", "_law_fits"] ["_law_e"] (defScope s__law_word) := ⟨rfl, rfl, rfl, by decide +kernel, rfl, by decide +kernel, by decide +kernel⟩
theorem sc__law_size : FnScope ["_law_state_here"] ["_law_state_here"] (defScope s__law_size) := ⟨rfl, rfl, rfl, by decide +kernel, rfl, by decide +kernel, by decide +kernel⟩
theorem sc__law_ground : FnScope ["_law_state_here", "_law_size_here", "_law_few", "_law_first", "_law_rows", "_law_row", "_law_some", "_law_column", "_law_one"] ["_law_state_here", "_law_size_here"] (defScope s__law_ground) := ⟨rfl, rfl, rfl, by decide +kernel, rfl, by decide +kernel, by decide +kernel⟩
theorem sc__law_edge : FnScope ["_law_rows", "_law_way", "_law_row"] ["_law_rows", "_law_way"] (defScope s__law_edge) := ⟨rfl, rfl, rfl, by decide +kernel, rfl, by decide +kernel, by decide +kernel⟩
theorem sc__law_bad_rows : FnScope ["_law_rows", "_law_state_here", "_law_at", "_law_spot", "_law_row", "_law_sign", "_law_one", "_law_some", "_law_other"] ["_law_rows", "_law_state_here"] (defScope s__law_bad_rows) := ⟨rfl, rfl, rfl, by decide +kernel, rfl, by decide +kernel, by decide +kernel⟩
theorem sc__law_refused : FnScope ["_law_thing", "_law_caught", "_law_e"] ["_law_thing"] (defScope s__law_refused) := ⟨rfl, rfl, rfl, by decide +kernel, rfl, by decide +kernel, by decide +kernel⟩
theorem sc__law_right : FnScope ["_law_layer", "_law_rows", "_law_size_here", "_law_told", "_law_row", "_law_column", "_law_way"] ["_law_layer", "_law_rows"] (defScope s__law_right) := ⟨rfl, rfl, rfl, by decide +kernel, rfl, by decide +kernel, by decide +kernel⟩
theorem sc_law : FnScope ["_law_script", "_law_cells", "_law_k", "_law_state_here", "_law_size_here", "_law_rows", "_law_handed", "_law_layer", "_law_other", "_law_way", "_law_found"] ["_law_script"] (defScope s_law) := ⟨rfl, rfl, rfl, by decide +kernel, rfl, by decide +kernel, by decide +kernel⟩
/-- what the walk asks of the module's names -/
structure Txt (mg : Str → Option Value) : Prop where
  b_ValueError : mg "ValueError" = none
  b_all : mg "all" = none
  b_bool : mg "bool" = none
  b_int : mg "int" = none
  b_isinstance : mg "isinstance" = none
  b_len : mg "len" = none
  b_list : mg "list" = none
  b_min : mg "min" = none
  b_range : mg "range" = none
  b_str : mg "str" = none
  b_tuple : mg "tuple" = none
  g_GROUNDS : GV mg "GROUNDS" (.str ".t~^")
  g_LEAST_SIZE : GV mg "LEAST_SIZE" (.int (2))
  g_MOST_SIZE : GV mg "MOST_SIZE" (.int (12))
/-- where the classes lie -/
structure Adr where
  Layer : Addr
  Ground : Addr
  MapError : Addr
  BadSheet : Addr
  BadPlace : Addr
  BadCell : Addr
  BadWindow : Addr
  NoSheet : Addr
  NoWay : Addr
  NoName : Addr
  TooMany : Addr
  BadLine : Addr
  BadText : Addr
/-- what the walk asks of the classes -/
structure TxC (K : PySem.W.Frag) (mg : Str → Option Value) (A : Adr) : Prop where
  g_Layer : GV mg "Layer" (.ref A.Layer)
  o_Layer : IsO K A.Layer
  n_Layer_lines : NoAttr K A.Layer "lines"
  s_Layer_Layer : PySem.W.kitOne K (.ref A.Layer) (.ref A.Layer) = some true
  s_Layer_Ground : PySem.W.kitOne K (.ref A.Layer) (.ref A.Ground) = some false
  g_Ground : GV mg "Ground" (.ref A.Ground)
  o_Ground : IsO K A.Ground
  n_Ground_lines : NoAttr K A.Ground "lines"
  s_Ground_Layer : PySem.W.kitOne K (.ref A.Ground) (.ref A.Layer) = some true
  s_Ground_Ground : PySem.W.kitOne K (.ref A.Ground) (.ref A.Ground) = some true
  g_MapError : GV mg "MapError" (.ref A.MapError)
  m_MapError : mg "MapError" = some (.ref A.MapError)
  g_BadSheet : GV mg "BadSheet" (.ref A.BadSheet)
  m_BadSheet : mg "BadSheet" = some (.ref A.BadSheet)
  g_BadPlace : GV mg "BadPlace" (.ref A.BadPlace)
  m_BadPlace : mg "BadPlace" = some (.ref A.BadPlace)
  g_BadCell : GV mg "BadCell" (.ref A.BadCell)
  m_BadCell : mg "BadCell" = some (.ref A.BadCell)
  g_BadWindow : GV mg "BadWindow" (.ref A.BadWindow)
  m_BadWindow : mg "BadWindow" = some (.ref A.BadWindow)
  g_NoSheet : GV mg "NoSheet" (.ref A.NoSheet)
  m_NoSheet : mg "NoSheet" = some (.ref A.NoSheet)
  g_NoWay : GV mg "NoWay" (.ref A.NoWay)
  m_NoWay : mg "NoWay" = some (.ref A.NoWay)
  g_NoName : GV mg "NoName" (.ref A.NoName)
  m_NoName : mg "NoName" = some (.ref A.NoName)
  g_TooMany : GV mg "TooMany" (.ref A.TooMany)
  m_TooMany : mg "TooMany" = some (.ref A.TooMany)
  g_BadLine : GV mg "BadLine" (.ref A.BadLine)
  m_BadLine : mg "BadLine" = some (.ref A.BadLine)
  g_BadText : GV mg "BadText" (.ref A.BadText)
  m_BadText : mg "BadText" = some (.ref A.BadText)
  x_BadSheet : ExT K mg "BadSheet" A.BadSheet
  s_BadSheet_MapError : PySem.W.kitOne K (.ref A.BadSheet) (.ref A.MapError) = some true
  s_BadSheet_BadSheet : PySem.W.kitOne K (.ref A.BadSheet) (.ref A.BadSheet) = some true
  s_BadSheet_BadPlace : PySem.W.kitOne K (.ref A.BadSheet) (.ref A.BadPlace) = some false
  s_BadSheet_BadCell : PySem.W.kitOne K (.ref A.BadSheet) (.ref A.BadCell) = some false
  s_BadSheet_BadWindow : PySem.W.kitOne K (.ref A.BadSheet) (.ref A.BadWindow) = some false
  s_BadSheet_NoSheet : PySem.W.kitOne K (.ref A.BadSheet) (.ref A.NoSheet) = some false
  s_BadSheet_NoWay : PySem.W.kitOne K (.ref A.BadSheet) (.ref A.NoWay) = some false
  s_BadSheet_NoName : PySem.W.kitOne K (.ref A.BadSheet) (.ref A.NoName) = some false
  s_BadSheet_TooMany : PySem.W.kitOne K (.ref A.BadSheet) (.ref A.TooMany) = some false
  s_BadSheet_BadLine : PySem.W.kitOne K (.ref A.BadSheet) (.ref A.BadLine) = some false
  s_BadSheet_BadText : PySem.W.kitOne K (.ref A.BadSheet) (.ref A.BadText) = some false
  v_BadSheet : PySem.W.kitOne K (.ref A.BadSheet) (.type "ValueError") = some true
  e_BadSheet : PySem.W.exmOne K (.ref A.BadSheet) (.ref A.MapError) = some true
/-! ### what things are, by data -/
def isAmong (x : PyData) (lo hi : Int) : Bool := match x with
  | .int i => decide (lo ≤ i) && decide (i ≤ hi)
  | _ => false
def smallD : PyData → Prop
  | .str z => z.length ≤ 10000
  | _ => True
def R_is_among (ds : List PyData) (d : PyData) : Prop := ∃ (x : PyData) (lo hi : Int), ds = [x, .int lo, .int hi] ∧ isObjD x = false ∧ d = .bool (isAmong x lo hi)
def R_is_size (ds : List PyData) (d : PyData) : Prop := ∃ x, ds = [x] ∧ isObjD x = false ∧ d = .bool (isAmong x 2 12)
theorem str_sz {z : Str} (h : z.length ≤ 10000) : z.length ≤ sizeLine := Nat.le_trans h (by decide)
theorem all_outs {n : Nat} {f : Nat → Bool} : outs n (fun _ => true) (fun i => .bool (f i)) = ((List.range n).map f).map PyData.bool := by
  unfold outs
  rw [List.filter_eq_self.mpr (by simp), List.map_map]
  rfl
theorem range_all {α : Type} {l : List α} {z : α} {p : α → Bool} : (((List.range l.length).map fun i => p (l.getD i z)).all id) = l.all p := by
  have e : ((List.range l.length).map fun i => p (l.getD i z)) = l.map p := by
    apply List.ext_getElem?
    intro i
    simp only [List.getElem?_map]
    by_cases h : i < l.length
    · simp [h]
    · simp [h]
  rw [e]
  simp [List.all_map, Function.comp_def]
section
variable {P : Program} {w : World} {K : PySem.W.Frag} {mg : Str → Option Value} {base : Heap}
theorem ok_is_among (F : FnIn K mg "is_among" s_is_among) (T : Txt mg) : Has P w K mg base CX0 1 "is_among" ["thing", "least", "most"] (PFn K R_is_among) := by
  refine F.pure sc_is_among (fun ds d ⟨x, lo, hi, h, _⟩ => by rw [h]; rfl) (fun _ _ _ _ _ _ us hl => match us, hl with | [_, _, _], _ => rfl) (fun f cdv A outer s H E hr => ?_)
  refine ⟨_, (pss_one (ps_ret (pe_and (pe_callB (call_isiK' K) (by rfl) T.b_isinstance (by decide +kernel) (pa_cons (pv 0) (pa_cons (pe_bltn (v := .ty "int") (by rfl) T.b_int (by decide +kernel) rfl) pa_nil))) (pe_and (pe_not (pe_callB (call_isiK' K) (by rfl) T.b_isinstance (by decide +kernel) (pa_cons (pv 0) (pa_cons (pe_bltn (v := .ty "bool") (by rfl) T.b_bool (by decide +kernel) rfl) pa_nil)))) (pe_one (pe_chain op_le op_le (pv 1) (pv 0) (pv 2))))))), ?_⟩
  rintro G vs ds d hv ⟨x, lo, hi, rfl, ho, rfl⟩
  obtain ⟨v0, v1, v2, rfl, h0, h1, h2⟩ := dts3 hv
  cases x with
  | int i =>
    exact es_ret (ed_and (b := true) (ed_isi (ed_var rfl h0) (by kernel_rfl)) fun hb => (ed_and (ed_not (b := false) (ed_isi (ed_var rfl h0) (by kernel_rfl))) fun hb => (ed_chain (ed_var rfl h1) (ed_var rfl h0) r2_b (ed_var rfl h2) r2_b))) rfl
  | bool i => exact es_ret (ed_and (b := true) (c := false) (ed_isi (ed_var rfl h0) (by kernel_rfl)) fun hb => (ed_and (c := false) (ed_not (b := true) (ed_isi (ed_var rfl h0) (by kernel_rfl))) fun hb => Bool.noConfusion hb)) rfl
  | _ => exact es_ret (ed_and (b := false) (c := false) (ed_isi (ed_var rfl h0) (by kernel_rfl) ho) fun hb => Bool.noConfusion hb) rfl
theorem ok_is_size (F : FnIn K mg "is_size" s_is_size) (T : Txt mg) (F_is_among : Has P w K mg base CX0 1 "is_among" ["thing", "least", "most"] (PFn K R_is_among)) : Has P w K mg base CX0 2 "is_size" ["thing"] (PFn K R_is_size) := by
  refine F.pure sc_is_size (fun ds d ⟨x, h, _⟩ => by rw [h]; rfl) (fun _ _ _ _ _ _ us hl => match us, hl with | [_], _ => rfl) (fun f cdv A outer s H E hr => ?_)
  refine ⟨_, (pss_one (ps_ret (pe_fn F_is_among hr (by decide) rfl (pa_cons (pv 0) (pa_cons (pe_gl rfl T.g_LEAST_SIZE) (pa_cons (pe_gl rfl T.g_MOST_SIZE) pa_nil)))))), ?_⟩
  rintro G vs ds d hv ⟨x, rfl, ho, rfl⟩
  obtain ⟨v0, rfl, h0⟩ := dts1 hv
  exact es_ret (ed_fn (ea_cons (ed_var rfl h0) (ea_cons ed_int (ea_cons ed_int ea_nil))) ⟨x, _, _, rfl, ho, rfl⟩) rfl
end

/-! ### rows of signs -/
def rowOk (n : Nat) (signs : List Nat) : PyData → Bool
  | .str z => decide (z.cps.toList.length = n) && z.cps.toList.all (fun c => decide (c ∈ signs))
  | _ => false
def areRows (x : PyData) (signs : List Nat) : Bool := match x with
  | .list ds => isAmong (.int ds.length) 2 12 && ds.all (rowOk ds.length signs)
  | _ => false
def smallRows : PyData → Prop
  | .list ds => ∀ x ∈ ds, smallD x ∧ isObjD x = false
  | x => isObjD x = false
def R_are_rows (ds : List PyData) (d : PyData) : Prop := ∃ x s, ds = [x, .str s] ∧ smallRows x ∧ d = .bool (areRows x s.cps.toList)
section
variable {P : Program} {w : World} {K : PySem.W.Frag} {mg : Str → Option Value} {base : Heap}
theorem ok_are_rows (F : FnIn K mg "are_rows" s_are_rows) (T : Txt mg) (F_is_size : Has P w K mg base CX0 2 "is_size" ["thing"] (PFn K R_is_size)) : Has P w K mg base CX0 3 "are_rows" ["thing", "signs"] (PFn K R_are_rows) := by
  refine F.pure sc_are_rows (fun ds d ⟨x, s, h, _⟩ => by rw [h]; rfl) (fun _ _ _ _ _ _ us hl => match us, hl with | [_, _], _ => rfl) (fun f cdv A outer s H E hr => ?_)
  have nd := sc_are_rows.nd
  refine ⟨_, (pss_cons (ps_if (PW.pt (pw_or (pt_not (pt_val (pe_callB (call_isiK' K) (by rfl) T.b_isinstance (by decide +kernel) (pa_cons (pv 0) (pa_cons (pe_bltn (v := .ty "list") (by rfl) T.b_list (by decide +kernel) rfl) pa_nil))))) (pw_or1 (pt_not (pt_val (pe_fn F_is_size hr (by decide) rfl (pa_cons (pe_callB (call_lenK K) (by rfl) T.b_len (by decide +kernel) (pa_cons (pv 0) pa_nil)) pa_nil))))))) (pss_one (ps_ret pe_bl)) pss_nil)
    (pss_cons (ps_for PassesOwn.never rfl (pi_listK K (pv 0)) (pg_name (i := 2) nd rfl (Or.inl rfl))
      (pss_one (ps_if (PW.pt (pw_or (pt_not (pt_val (pe_callB (call_isiK' K) (by rfl) T.b_isinstance (by decide +kernel) (pa_cons (pv 2) (pa_cons (pe_bltn (v := .ty "str") (by rfl) T.b_str (by decide +kernel) rfl) pa_nil))))) (pw_or (pt_cmpR op_ne (pe_callB (call_lenK K) (by rfl) T.b_len (by decide +kernel) (pa_cons (pv 2) pa_nil)) (pe_callB (call_lenK K) (by rfl) T.b_len (by decide +kernel) (pa_cons (pv 0) pa_nil)) (nomark _)) (pw_or1 (pt_not (pt_val (pe_callB (cr_allK K rfl) (by rfl) T.b_all (by decide +kernel) (pa_cons (pe_lc (own := [("sign", 3)]) (by rfl) nd (pi_str (pv 2)) (blkOk_by (own := [("sign", 3)]) (N := ["thing", "signs", "row", "sign"]) (sc := (defScope s_are_rows)) (by decide +kernel)) (fun _ _ _ _ _ => (pg_name (i := 3) nd rfl (Or.inl rfl))) (fun _ _ _ _ _ => pts_nil) (fun _ _ _ _ _ => (pe_cmpR op_in_sign (pv 3) (pv 1) (by rfl)))) pa_nil)))))))) (pss_one (ps_ret pe_bl)) pss_nil)))
    (pss_one (ps_ret pe_bl)))), ?_⟩
  rintro G vs ds d hv ⟨x, sg', rfl, hsm, rfl⟩
  obtain ⟨v0, v1, rfl, h0, h1⟩ := dts2 hv
  cases x with
  | list ds =>
    refine es_when (et_or (et_not (b := true) (et_B (ed_isi (ed_var rfl h0) (by kernel_rfl)))) fun hb => (et_not (et_B (ed_fn (ea_cons (ed_cb (ea_cons (ed_var rfl h0) ea_nil) cb_lenL) ea_nil) ⟨_, rfl, rfl, rfl⟩)))) (fun hb => es_retSeq ed_bl ?_) (fun hb => ?_)
    · have e : isAmong (.int ds.length) 2 12 = false := by simpa using hb
      show _ = PyData.bool (isAmong (.int ds.length) 2 12 && _)
      rw [e]
      rfl
    · have e : isAmong (.int ds.length) 2 12 = true := by simpa using hb
      have eD : areRows (.list ds) sg'.cps.toList = ds.all (rowOk ds.length sg'.cps.toList) := by
        show (isAmong (.int ds.length) 2 12 && _) = _
        rw [e, Bool.true_and]
      rw [eD]
      refine es_seq (M := fun _ _ => ds.all (rowOk ds.length sg'.cps.toList) = true) (es_for (ei_list (ed_var rfl h0)) (fun i G' σ' => (∃ x2, σ' = [some v0, some v1, x2, none]) ∧ ∀ j, j < i → rowOk ds.length sg'.cps.toList (ds.getD j .none) = true)
        (fun G1 a => ⟨⟨_, rfl⟩, fun j hj => absurd hj (Nat.not_lt_zero _)⟩) (fun i G1 G2 σ1 a h => h) (fun _ _ _ _ _ _ => eg_name) ?_ ?_) ?_
      · rintro i G1 σ1 σ2 hi a1 ⟨⟨x2, rfl⟩, hall⟩ ⟨x, hx, rfl⟩
        have hmem : ds.getD i .none ∈ ds := by
          rw [List.getD_eq_getElem?_getD, List.getElem?_eq_getElem hi]
          exact List.getElem_mem hi
        obtain ⟨hz, hob⟩ := hsm _ hmem
        have hno : rowOk ds.length sg'.cps.toList (ds.getD i .none) = false → PyData.bool false = PyData.bool (ds.all (rowOk ds.length sg'.cps.toList)) := fun h => by
          rw [List.all_eq_false.mpr ⟨_, hmem, by rw [h]; decide⟩]
        have hyes : rowOk ds.length sg'.cps.toList (ds.getD i .none) = true → ∀ j, j < i + 1 → rowOk ds.length sg'.cps.toList (ds.getD j .none) = true := fun h j hj => by
          by_cases z : j < i
          · exact hall j z
          · rw [show j = i by omega]; exact h
        have h0' := same_dt a1 h0
        have h1' := same_dt a1 h1
        generalize ds.getD i .none = x0 at hx hz hob hno hyes hmem
        cases x0 with
        | str z =>
          have hz : z.length ≤ 10000 := hz
          have hk : rowOk ds.length sg'.cps.toList (.str z) = (decide (z.cps.toList.length = ds.length) && z.cps.toList.all (fun c => decide (c ∈ sg'.cps.toList))) := rfl
          rw [hk] at hno hyes
          clear hk hmem hob
          rw [mkS_of z] at hx hz hno hyes
          generalize z.cps.toList = l at hx hz hno hyes
          rw [mkS_list] at hno hyes
          refine es_if (et_or (et_not (b := true) (et_B (ed_isi (ed_var rfl hx) (by kernel_rfl)))) fun hb => (et_or (et_test (ed_op (ed_cb (ea_cons (ed_var rfl hx) ea_nil) (cb_lenS (str_sz hz))) (ed_cb (ea_cons (ed_var rfl h0') ea_nil) cb_lenL) r2_neI)) fun hb => (et_not (et_B (ed_cb (ea_cons (ED.to (ed_lc (p := fun _ => true) (h := fun i => .bool (decide (l.getD i 0 ∈ sg'.cps.toList))) (ei_str (ed_var rfl hx)) (by rw [mkS_size]; rw [mkS_len] at hz; omega) (fun _ _ => eg_name) (fun i G1 σ2 hi hB => by obtain ⟨x0, hx0, rfl⟩ := hB; rfl) (fun i G1 σ2 hi a1 hB => et_yes) (fun i G1 σ2 hi a2 hB hp => by
            obtain ⟨x0, hx0, rfl⟩ := hB
            rw [mkS_getD] at hx0
            exact (ed_op (ed_var rfl hx0) (ed_var rfl (same_dt a2 h1')) r2_inS))) (congrArg PyData.list all_outs)) ea_nil) cb_all))))) (fun hb => es_ret ed_bl (hno ?_)) (fun hb => es_next fun G2 a2 => ⟨⟨_, rfl⟩, hyes ?_⟩)
          · rw [mkS_size, range_all (p := fun c => decide (c ∈ sg'.cps.toList)), mkS_len] at hb
            simp at hb
            simp only [Bool.and_eq_false_iff, decide_eq_false_iff_not]
            by_cases q : l.length = ds.length
            · right
              simp [List.all_eq_false, Array.mem_toList_iff]
              rcases hb with hb | hb
              · omega
              · exact hb
            · exact .inl q
          · rw [mkS_size, range_all (p := fun c => decide (c ∈ sg'.cps.toList)), mkS_len] at hb
            simp at hb
            simp
            exact ⟨by omega, hb.2⟩
        | _ => exact es_if (b := true) (ET.to (et_or (c := true) (et_not (b := false) (et_B (ed_isi (ed_var rfl hx) (by kernel_rfl) hob))) fun hb => Bool.noConfusion hb) rfl) (fun hb => es_ret ed_bl (hno rfl)) (fun hb => Bool.noConfusion hb)
      · rintro G1 σ1 a1 ⟨_, hall⟩
        rw [List.all_eq_true]
        intro x hx
        obtain ⟨i, hi, rfl⟩ := List.getElem_of_mem hx
        have := hall i hi
        rwa [List.getD_eq_getElem?_getD, List.getElem?_eq_getElem hi] at this
      · intro G1 σ1 a1 hM
        exact es_ret ed_bl (by rw [hM])
  | _ => exact es_when (b := true) (ET.to (et_or (c := true) (et_not (b := false) (et_B (ed_isi (ed_var rfl h0) (by kernel_rfl) hsm))) fun hb => Bool.noConfusion hb) rfl) (fun hb => es_retSeq ed_bl rfl) (fun hb => Bool.noConfusion hb)
end

/-! ### ways.py: the mathematics -/
abbrev B16 := _root_.Fin 16
abbrev W4 := _root_.Fin 4
def wc : _root_.Fin 4 → Nat | 0 => 110 | 1 => 101 | 2 => 115 | 3 => 119
def wy (i : _root_.Fin 4) : Str := ⟨#[wc i]⟩
abbrev WAYS : Str := "nesw"
abbrev SIXTEENS : Str := "0123456789abcdef"
theorem fin4 (i : _root_.Fin 4) : i = 0 ∨ i = 1 ∨ i = 2 ∨ i = 3 := by revert i; decide
theorem occ_ways : ∀ i : _root_.Fin 4, Builtin.Str.occurrences WAYS (wy i) 0 WAYS.length 1 = [i.val] := by decide +kernel
theorem at_against : ∀ i : _root_.Fin 4, atI WAYS.cps.toList ((((i.val : Nat) : Int) + 2) % 4) = some (wc (i + 2)) := by decide +kernel
def nbR : _root_.Fin 4 → Int | 0 => -1 | 1 => 0 | 2 => 1 | 3 => 0
def nbC : _root_.Fin 4 → Int | 0 => 0 | 1 => 1 | 2 => 0 | 3 => -1
abbrev dCell (r c : Int) : PyData := .tuple [.int r, .int c]
def R_bit_of (ds : List PyData) (d : PyData) : Prop := ∃ i : _root_.Fin 4, ds = [.str (wy i)] ∧ d = .int (2 ^ i.val)
def R_against (ds : List PyData) (d : PyData) : Prop := ∃ i : _root_.Fin 4, ds = [.str (wy i)] ∧ d = .str (wy (i + 2))
def R_neighbour (ds : List PyData) (d : PyData) : Prop := ∃ (r c : Int) (i : _root_.Fin 4), ds = [dCell r c, .str (wy i)] ∧ d = dCell (r + nbR i) (c + nbC i)
/-- the ways of a sum, those below n -/
def wl (b : _root_.Fin 16) (n : Nat) : List Str := ((List.range n).filter (fun i => b.val.testBit i)).map (fun i => ⟨#[WAYS.cps.getD i 0]⟩)
def waysS (b : _root_.Fin 16) : Str := Txt.join Str.empty (wl b 4)
def R_ways_in (ds : List PyData) (d : PyData) : Prop := ∃ b : _root_.Fin 16, ds = [.int (b.val : Int)] ∧ d = .str (waysS b)
def sxc (b : _root_.Fin 16) : Nat := SIXTEENS.cps.getD b.val 0
def sx (b : _root_.Fin 16) : Str := ⟨#[sxc b]⟩
theorem occ_sx : ∀ b : _root_.Fin 16, Builtin.Str.occurrences SIXTEENS (sx b) 0 SIXTEENS.length 1 = [b.val] := by decide +kernel
theorem at_sx : ∀ b : _root_.Fin 16, atI SIXTEENS.cps.toList (b.val : Int) = some (sxc b) := by decide +kernel
def R_bits_of (ds : List PyData) (d : PyData) : Prop := ∃ b : _root_.Fin 16, ds = [.str (sx b)] ∧ d = .int (b.val : Int)
def R_sign_of (ds : List PyData) (d : PyData) : Prop := ∃ b : _root_.Fin 16, ds = [.int (b.val : Int)] ∧ d = .str (sx b)
theorem bit_test : ∀ (b : _root_.Fin 16) (i : _root_.Fin 4), decide (0 < Builtin.bitAnd (b.val : Int) (2 ^ i.val)) = b.val.testBit i.val := by decide +kernel
theorem ways_at : ∀ i : _root_.Fin 4, WAYS.cps.getD i.val 0 = wc i := by decide +kernel
theorem wl_len : ∀ (b : _root_.Fin 16), (wl b 4).length ≤ 4 ∧ ((wl b 4).map (·.length)).sum ≤ 4 := by decide +kernel
section
variable {P : Program} {w : World} {K : PySem.W.Frag} {mg : Str → Option Value} {base : Heap}
end

/-! ### layers -/
abbrev dTxts (ls : List (List Nat)) : List PyData := (ls.map mkS).map PyData.str
abbrev dRows (ls : List (List Nat)) : PyData := .list (dTxts ls)
abbrev dLay (C : Addr) (ls : List (List Nat)) : PyData := dObj C [(.str "lines", dRows ls)]
/-- what is asked of a layer's class -/
structure LayC (K : PySem.W.Frag) (C : Addr) : Prop where
  cl : Cls K C
  no : NoAttr K C "lines"
theorem dTxts_len (ls : List (List Nat)) : (dTxts ls).length = ls.length := by rw [List.length_map, List.length_map]
theorem dTxts_at {ls : List (List Nat)} {i : Nat} (h : i < ls.length) : (dTxts ls)[i]? = some (.str (mkS (ls.getD i []))) := by
  rw [List.getElem?_map, List.getElem?_map, List.getD_eq_getElem?_getD, List.getElem?_eq_getElem h]
  rfl
theorem dTxts_getD {ls : List (List Nat)} {i : Nat} (h : i < ls.length) : (dTxts ls).getD i .none = .str (mkS (ls.getD i [])) := by
  rw [List.getD_eq_getElem?_getD, dTxts_at h]
  rfl
theorem look_lines {ls : List (List Nat)} : lookD "lines" [(PyData.str "lines", dRows ls)] = some (dRows ls) := by
  show (if (("lines" : Str) == ("lines" : Str)) = true then some (dRows ls) else lookD "lines" []) = some (dRows ls)
  rw [if_pos (by decide +kernel)]
def along (ls : List (List Nat)) (i : W4) : List Nat := match i with
  | 0 => ls.getD 0 []
  | 2 => ls.getD (ls.length - 1) []
  | 3 => ls.map fun l => l.getD 0 0
  | 1 => ls.map fun l => l.getD (l.length - 1) 0
def okLs (ls : List (List Nat)) : Prop := 0 < ls.length ∧ ls.length ≤ 100 ∧ ∀ l ∈ ls, 0 < l.length ∧ l.length ≤ 100
def R_init (ds : List PyData) (os : List (PyData × PyData)) : Prop := ∃ ls, ds = [dRows ls] ∧ os = [(.str "lines", dRows ls)]
def R_rows (K : PySem.W.Frag) (ds : List PyData) (d : PyData) : Prop := ∃ C ls, LayC K C ∧ ds = [dLay C ls] ∧ d = dRows ls
def R_lsize (K : PySem.W.Frag) (ds : List PyData) (d : PyData) : Prop := ∃ C ls, LayC K C ∧ ds = [dLay C ls] ∧ d = .int (ls.length : Nat)
def R_sign_at (K : PySem.W.Frag) (ds : List PyData) (d : PyData) : Prop := ∃ C ls, ∃ r c : Nat, LayC K C ∧ okLs ls ∧ ds = [dLay C ls, .int r, .int c] ∧ r < ls.length ∧ c < (ls.getD r []).length ∧ d = .str (sg ((ls.getD r []).getD c 0))
def R_along (K : PySem.W.Frag) (ds : List PyData) (d : PyData) : Prop := ∃ C ls i, LayC K C ∧ okLs ls ∧ ds = [dLay C ls, .str (wy i)] ∧ d = .str (mkS (along ls i))
theorem okLs_at {ls : List (List Nat)} (h : okLs ls) {i : Nat} (hi : i < ls.length) : 0 < (ls.getD i []).length ∧ (ls.getD i []).length ≤ 100 := by
  rw [List.getD_eq_getElem?_getD, List.getElem?_eq_getElem hi]
  exact h.2.2 _ (List.getElem_mem hi)
theorem putF_nil (f : Str) (v : V) : putF f v [] = [(f, v)] := rfl
/-- the first (or any) sign of each row, put together -/
theorem ed_colS {K : PySem.W.Frag} {G : Hp} {σ : L2.St} {te tl : TE} {g : TG} {vs : List Nat} {ls : List (List Nat)} (f : List Nat → Nat) (hl : ED K G tl σ (dRows ls)) (hn : ls.length ≤ 100) {B : Nat → Hp → L2.St → Prop} (hb : ∀ i, i < (dTxts ls).length → EG K g (wipe σ vs) ((dTxts ls).getD i .none) (B i)) (hw : ∀ i G1 σ2, i < (dTxts ls).length → B i G1 σ2 → wipe σ2 vs = wipe σ vs)
    (he : ∀ i G1 σ2, i < ls.length → Same G G1 → B i G1 σ2 → ED K G1 te σ2 (.str (sg (f (ls.getD i []))))) : ED K G (tM1 (fun x xs H Q => ∃ a p, ∃ ys : List Str, x = .str a ∧ xs = [.ref p] ∧ (SqL K H p (ys.map V.str) ∨ SqT K H p (ys.map V.str)) ∧ (ys.map (·.length)).sum + ys.length * a.length ≤ 16777216 ∧ Q (.str (Txt.join a ys)) H) (tC (.str "")) (tLc (iList K tl) g tYes te vs)) σ (.str (mkS (ls.map f))) := by
  refine ed_m1 ed_str (ED.to (ed_lc (p := fun _ => true) (h := fun i => .str (sg (f (ls.getD i [])))) (ei_list hl) (by rw [dTxts_len]; omega) hb hw (fun _ _ _ _ _ _ => et_yes) fun i G1 σ2 hi a hB _ => he i G1 σ2 (by rw [dTxts_len] at hi; exact hi) a hB) ?_) (md_joinS (ls.map f) (by rw [List.length_map]; omega))
  rw [dTxts_len, outs_map (xs := ls) (f := fun l => .str (sg (f l))) fun i x hx => by rw [List.getD_eq_getElem?_getD, hx]; rfl, List.map_map]
  rfl
section
variable {P : Program} {w : World} {K : PySem.W.Frag} {mg : Str → Option Value} {base : Heap} {C : Addr}
theorem ok_Layer_init (F : CfunIn K C "__init__" "Layer.__init__" s_Layer___init__) (T : Txt mg) : HasC P w K mg base CX0 1 C "__init__" ["self", "rows"] (IFn K (LayC K) R_init) := by
  refine F.ok sc_Layer___init__ (fun vs H Q E h => ?_) (fun _ _ _ _ _ _ us hl => match us, hl with | [_, _], _ => rfl) (fun f cdv A outer s H vs Q E hr h => ?_)
  · obtain ⟨G, x, C', dx, ws, ds, os, rfl, _, _, _, _, hws, ⟨ls, rfl, rfl⟩, _⟩ := h
    rw [List.length_cons, dts_len hws]
    rfl
  · obtain ⟨G, x, C', dx, ws, ds, os, rfl, hC, gh, gx, hx, hws, ⟨ls, rfl, rfl⟩, q⟩ := h
    obtain ⟨v1, rfl, h1⟩ := dts1 hws
    have nd := sc_Layer___init__.nd
    refine ⟨_, (pss_one (ps_fld (pv 0) (pe_callTy (call_list_ofK K) (by rfl) T.b_list (by decide +kernel) (pa_cons (pv 1) pa_nil)) rfl)), ?_⟩
    refine ef_listS (ss := ls.map mkS) (ed_var rfl h1) G H (Same.refl G) gh _ fun v G2 H2 e hv => ?_
    have hx2 : H2 x = some (.ins C' dx []) := e.keep hx (by simp)
    have gx2 : G2 x = none := e.free gx hx
    refine ⟨_, rfl, x, C', dx, [], rfl, hx2, hC.cl, hC.no, by show 0 < 1000; decide, ?_⟩
    have ep := Ext.put (o := .ins C' dx (putF "lines" v [])) e.gh gx2 hx2
    exact q G2 _ dx _ (e.toM.trans ep fun _ h => .inl h) upd_same (.cons hv .nil)
theorem ok_rows (F : MethIn K C "rows" "Layer.rows" s_Layer_rows) (T : Txt mg) : HasM P w K mg base CX0 1 C "rows" ["self"] (FFn K (R_rows K)) := by
  refine F.fresh sc_Layer_rows (fun ds d ⟨C, ls, _, h, _⟩ => by rw [h]; rfl) (fun _ _ _ _ _ _ us hl => match us, hl with | [_], _ => rfl) (fun f cdv A outer s H E hr => ?_)
  refine ⟨_, (pss_one (ps_ret (pe_callTy (call_list_ofK K) (by rfl) T.b_list (by decide +kernel) (pa_cons (pe_fldK K (pv 0) rfl) pa_nil)))), ?_⟩
  rintro G vs ds d hv ⟨C, ls, hC, rfl, rfl⟩ H gh D q
  obtain ⟨v0, rfl, h0⟩ := dts1 hv
  exact ef_listS (ed_fld hC.cl hC.no (ed_var rfl h0) look_lines) G H (Same.refl G) gh _ q
theorem ok_lsize (F : MethIn K C "size" "Layer.size" s_Layer_size) (T : Txt mg) : HasM P w K mg base CX0 1 C "size" ["self"] (PFn K (R_lsize K)) := by
  refine F.pure sc_Layer_size (fun ds d ⟨C, ls, _, h, _⟩ => by rw [h]; rfl) (fun _ _ _ _ _ _ us hl => match us, hl with | [_], _ => rfl) (fun f cdv A outer s H E hr => ?_)
  refine ⟨_, (pss_one (ps_ret (pe_callB (call_lenK K) (by rfl) T.b_len (by decide +kernel) (pa_cons (pe_fldK K (pv 0) rfl) pa_nil)))), ?_⟩
  rintro G vs ds d hv ⟨C, ls, hC, rfl, rfl⟩
  obtain ⟨v0, rfl, h0⟩ := dts1 hv
  refine es_ret (ed_cb (ea_cons (ed_fld hC.cl hC.no (ed_var rfl h0) look_lines) ea_nil) cb_lenL) ?_
  rw [dTxts_len]
theorem ok_sign_at (F : MethIn K C "sign_at" "Layer.sign_at" s_Layer_sign_at) : HasM P w K mg base CX0 1 C "sign_at" ["self", "row", "column"] (PFn K (R_sign_at K)) := by
  refine F.pure sc_Layer_sign_at (fun ds d ⟨C, ls, r, c, _, _, h, _⟩ => by rw [h]; rfl) (fun _ _ _ _ _ _ us hl => match us, hl with | [_, _, _], _ => rfl) (fun f cdv A outer s H E hr => ?_)
  refine ⟨_, (pss_one (ps_ret (pe_ix ix_str (pe_ix (ix_listK K) (pe_fldK K (pv 0) rfl) (pv 1) (fun _ _ => rfl)) (pv 2) (fun _ _ => rfl)))), ?_⟩
  rintro G vs ds d hv ⟨C, ls, r, c, hC, hk, rfl, hr, hc, rfl⟩
  obtain ⟨v0, v1, v2, rfl, h0, h1, h2⟩ := dts3 hv
  have hl := okLs_at hk hr
  exact es_ret (ed_op (ed_op (ed_fld hC.cl hC.no (ed_var rfl h0) look_lines) (ed_var rfl h1) (r2_ixL (atI_nat (dTxts_at hr)))) (ed_var rfl h2) (r2_ixS (by rw [mkS_len]; exact szn _ (by omega)) (atI_getD hc))) rfl
theorem ok_signs_along (F : MethIn K C "signs_along" "Layer.signs_along" s_Layer_signs_along) : HasM P w K mg base CX0 1 C "signs_along" ["self", "way"] (PFn K (R_along K)) := by
  refine F.pure sc_Layer_signs_along (fun ds d ⟨C, ls, i, _, _, h, _⟩ => by rw [h]; rfl) (fun _ _ _ _ _ _ us hl => match us, hl with | [_, _], _ => rfl) (fun f cdv A outer s H E hr => ?_)
  have nd := sc_Layer_signs_along.nd
  refine ⟨_, (pss_cons (ps_if (pt_cmpR op_eq (pv 1) pe_str (nomark _)) (pss_one (ps_ret (pe_ix (ix_listK K) (pe_fldK K (pv 0) rfl) pe_int (fun _ _ => rfl)))) pss_nil)
    (pss_cons (ps_if (pt_cmpR op_eq (pv 1) pe_str (nomark _)) (pss_one (ps_ret (pe_ix (ix_listK K) (pe_fldK K (pv 0) rfl) (pe_un un_neg pe_int) (fun _ _ => rfl)))) pss_nil)
    (pss_cons (ps_if (pt_cmpR op_eq (pv 1) pe_str (nomark _)) (pss_one (ps_ret (pe_joinK K pe_str (pe_lc (own := [("row", 2)]) (by rfl) nd (pi_listK K (pe_fldK K (pv 0) rfl)) (blkOk_by (own := [("row", 2)]) (N := ["self", "way", "row"]) (sc := (defScope s_Layer_signs_along)) (by decide +kernel)) (fun _ _ _ _ _ => (pg_name (i := 2) nd rfl (Or.inl rfl))) (fun _ _ _ _ _ => pts_nil) (fun _ _ _ _ _ => (pe_ix ix_str (pv 2) pe_int (fun _ _ => rfl))))))) pss_nil)
    (pss_one (ps_ret (pe_joinK K pe_str (pe_lc (own := [("row", 2)]) (by rfl) nd (pi_listK K (pe_fldK K (pv 0) rfl)) (blkOk_by (own := [("row", 2)]) (N := ["self", "way", "row"]) (sc := (defScope s_Layer_signs_along)) (by decide +kernel)) (fun _ _ _ _ _ => (pg_name (i := 2) nd rfl (Or.inl rfl))) (fun _ _ _ _ _ => pts_nil) (fun _ _ _ _ _ => (pe_ix ix_str (pv 2) (pe_un un_neg pe_int) (fun _ _ => rfl)))))))))), ?_⟩
  rintro G vs ds d hv ⟨C, ls, i, hC, hk, rfl, rfl⟩
  obtain ⟨v0, v1, rfl, h0, h1⟩ := dts2 hv
  have fl : ∀ {G' : Hp} {σ : L2.St}, Same G G' → σ[0]? = some (some v0) → ED K G' (tFld K (tVar 0) "lines") σ (dRows ls) := fun a e => ed_fld hC.cl hC.no (ed_var e (same_dt a h0)) look_lines
  have hlast : ls.length - 1 < ls.length := by have := hk.1; omega
  rcases fin4 i with rfl | rfl | rfl | rfl
  · refine es_when (b := true) (et_test (ED.to (ed_op (ed_var rfl h1) ed_str r2_eqS) (congrArg PyData.bool (by decide +kernel)))) (fun hb => es_retSeq (ed_op (fl (Same.refl G) rfl) ed_int (r2_ixL (atI_nat (j := 0) (dTxts_at hk.1)))) rfl) (fun hb => Bool.noConfusion hb)
  · refine es_when (b := false) (et_test (ED.to (ed_op (ed_var rfl h1) ed_str r2_eqS) (congrArg PyData.bool (by decide +kernel)))) (fun hb => Bool.noConfusion hb) (fun hb => ?_)
    refine es_when (b := false) (et_test (ED.to (ed_op (ed_var rfl h1) ed_str r2_eqS) (congrArg PyData.bool (by decide +kernel)))) (fun hb => Bool.noConfusion hb) (fun hb => ?_)
    refine es_when (b := false) (et_test (ED.to (ed_op (ed_var rfl h1) ed_str r2_eqS) (congrArg PyData.bool (by decide +kernel)))) (fun hb => Bool.noConfusion hb) (fun hb => ?_)
    refine es_ret (ed_colS (fun l => l.getD (l.length - 1) 0) (fl (Same.refl G) rfl) hk.2.1 (fun _ _ => eg_name) (fun i G1 σ2 hi hB => by obtain ⟨x0, hx0, rfl⟩ := hB; rfl) fun i G1 σ2 hi a hB => ?_) rfl
    obtain ⟨x0, hx0, rfl⟩ := hB
    rw [dTxts_getD hi] at hx0
    have hz := okLs_at hk hi
    refine ed_op (ed_var rfl hx0) (ed_un ed_int) (r2_ixS (by rw [mkS_len]; exact szn _ (by omega)) (atI_last ?_ (by rw [mkS_list]; exact hz.1)))
    have hz1 : (ls.getD i []).length - 1 < (ls.getD i []).length := by omega
    rw [mkS_list]
    generalize ls.getD i [] = l at hz1
    rw [List.getD_eq_getElem?_getD, List.getElem?_eq_getElem hz1]
    rfl
  · refine es_when (b := false) (et_test (ED.to (ed_op (ed_var rfl h1) ed_str r2_eqS) (congrArg PyData.bool (by decide +kernel)))) (fun hb => Bool.noConfusion hb) (fun hb => ?_)
    refine es_when (b := true) (et_test (ED.to (ed_op (ed_var rfl h1) ed_str r2_eqS) (congrArg PyData.bool (by decide +kernel)))) (fun hb => es_retSeq (ed_op (fl (Same.refl G) rfl) (ed_un ed_int) (r2_ixL (atI_last (by rw [dTxts_len]; exact dTxts_at hlast) (by rw [dTxts_len]; exact hk.1)))) rfl) (fun hb => Bool.noConfusion hb)
  · refine es_when (b := false) (et_test (ED.to (ed_op (ed_var rfl h1) ed_str r2_eqS) (congrArg PyData.bool (by decide +kernel)))) (fun hb => Bool.noConfusion hb) (fun hb => ?_)
    refine es_when (b := false) (et_test (ED.to (ed_op (ed_var rfl h1) ed_str r2_eqS) (congrArg PyData.bool (by decide +kernel)))) (fun hb => Bool.noConfusion hb) (fun hb => ?_)
    refine es_when (b := true) (et_test (ED.to (ed_op (ed_var rfl h1) ed_str r2_eqS) (congrArg PyData.bool (by decide +kernel)))) (fun hb => ?_) (fun hb => Bool.noConfusion hb)
    refine es_retSeq (ed_colS (fun l => l.getD 0 0) (fl (Same.refl G) rfl) hk.2.1 (fun _ _ => eg_name) (fun i G1 σ2 hi hB => by obtain ⟨x0, hx0, rfl⟩ := hB; rfl) fun i G1 σ2 hi a hB => ?_) rfl
    obtain ⟨x0, hx0, rfl⟩ := hB
    rw [dTxts_getD hi] at hx0
    have hz := okLs_at hk hi
    exact ed_op (ed_var rfl hx0) ed_int (r2_ixS (by rw [mkS_len]; exact szn _ (by omega)) (atI_getD (i := 0) (by rw [mkS_list]; exact hz.1)))
end

/-! ### the class Ground -/
abbrev GROUNDS : Str := ".t~^"
def okG (ls : List (List Nat)) : Prop := areRows (dRows ls) GROUNDS.cps.toList = true
theorem okG.size {ls : List (List Nat)} (h : okG ls) : 2 ≤ ls.length ∧ ls.length ≤ 12 := by
  have h' : (isAmong (.int (dTxts ls).length) 2 12 && (dTxts ls).all (rowOk (dTxts ls).length GROUNDS.cps.toList)) = true := h
  rw [Bool.and_eq_true, dTxts_len] at h'
  have h1 : (decide ((2 : Int) ≤ (ls.length : Nat)) && decide (((ls.length : Nat) : Int) ≤ 12)) = true := h'.1
  simp at h1
  omega
theorem okG.row {ls : List (List Nat)} (h : okG ls) {i : Nat} (hi : i < ls.length) : (ls.getD i []).length = ls.length ∧ ∀ c ∈ ls.getD i [], c ∈ GROUNDS.cps.toList := by
  have h' : (isAmong (.int (dTxts ls).length) 2 12 && (dTxts ls).all (rowOk (dTxts ls).length GROUNDS.cps.toList)) = true := h
  rw [Bool.and_eq_true, List.all_eq_true] at h'
  have q := h'.2 (.str (mkS (ls.getD i []))) (List.mem_of_getElem? (dTxts_at hi))
  rw [dTxts_len] at q
  have q' : (decide ((ls.getD i []).length = ls.length) && (ls.getD i []).all fun c => decide (c ∈ GROUNDS.cps.toList)) = true := q
  rw [Bool.and_eq_true, List.all_eq_true] at q'
  exact ⟨of_decide_eq_true q'.1, fun c hc => of_decide_eq_true (q'.2 c hc)⟩
theorem mem_at {α : Type} {l : List α} {x z : α} (h : x ∈ l) : ∃ i, i < l.length ∧ l.getD i z = x := by
  obtain ⟨i, hi, rfl⟩ := List.getElem_of_mem h
  exact ⟨i, hi, by rw [List.getD_eq_getElem?_getD, List.getElem?_eq_getElem hi]; rfl⟩
theorem okG.ls {ls : List (List Nat)} (h : okG ls) : okLs ls := by
  have hs := h.size
  refine ⟨by omega, by omega, fun l hl => ?_⟩
  obtain ⟨i, hi, rfl⟩ := mem_at (z := []) hl
  rw [(h.row hi).1]
  omega
theorem small_rows {ls : List (List Nat)} (h : ∀ l ∈ ls, l.length ≤ 10000) : smallRows (dRows ls) := by
  intro x hx
  obtain ⟨i, hi, rfl⟩ := mem_at (z := .none) hx
  rw [dTxts_len] at hi
  rw [dTxts_getD hi]
  refine ⟨?_, rfl⟩
  show (mkS (ls.getD i [])).length ≤ 10000
  rw [mkS_len, List.getD_eq_getElem?_getD, List.getElem?_eq_getElem hi]
  exact h _ (List.getElem_mem hi)
theorem okG.small {ls : List (List Nat)} (h : okG ls) : smallRows (dRows ls) := small_rows fun l hl => Nat.le_trans (h.ls.2.2 l hl).2 (by decide)
/-- what is no ground -/
def badG (x : PyData) : Prop := smallRows x ∧ areRows x GROUNDS.cps.toList = false
def R_ginit (ds : List PyData) (os : List (PyData × PyData)) : Prop := ∃ ls, okG ls ∧ ds = [dRows ls] ∧ os = [(.str "lines", dRows ls)]
def Bad_ginit (B : Addr) (ds : List PyData) (b : Addr) : Prop := b = B ∧ ∃ x, badG x ∧ ds = [x]
theorem look_no {m : Str} {d : PyData} (h : (m == ("lines" : Str)) = false) : lookD m [(PyData.str "lines", d)] = none := by
  show (if (m == ("lines" : Str)) = true then some d else lookD m []) = none
  rw [if_neg (by rw [h]; decide)]
  rfl
section
variable {P : Program} {w : World} {K : PySem.W.Frag} {mg : Str → Option Value} {base : Heap} {A : Adr}
theorem TxC.layG (TC : TxC K mg A) : LayC K A.Ground := ⟨TC.o_Ground.cl, TC.n_Ground_lines⟩
theorem ok_Ground_init (F : InitIn K mg "Ground" A.Ground "Ground.__init__" s_Ground___init__) (T : Txt mg) (TC : TxC K mg A) (F_are_rows : Has P w K mg base CX0 3 "are_rows" ["thing", "signs"] (PFn K R_are_rows))
    (C_Layer___init__ : HasC P w K mg base CX0 1 A.Layer "__init__" ["self", "rows"] (IFn K (LayC K) R_init)) : HasI P w K mg base (L2.CX P w) 4 "Ground" A.Ground ["self", "rows"] (IXFn K (LayC K) R_ginit (Bad_ginit A.BadSheet)) := by
  refine F.okX sc_Ground___init__ (fun vs H Q E h => ?_) (fun _ _ _ _ _ _ us hl => match us, hl with | [_, _], _ => rfl) (fun f cdv Ar outer s H vs Q E hr h => ?_)
  · obtain ⟨G, x, C', dx, ws, ds, rfl, _, _, _, _, hws, hor⟩ := h
    rw [List.length_cons, dts_len hws]
    rcases hor with ⟨os, ⟨ls, _, rfl, rfl⟩, _⟩ | ⟨B, ⟨_, x, _, rfl⟩, _⟩ <;> rfl
  · obtain ⟨G, x, C', dx, ws, ds, rfl, hC, gh, gx, hx, hws, hor⟩ := h
    have nd := sc_Ground___init__.nd
    refine ⟨_, (pss_cons (ps_if (pt_not (pt_val (pe_fn F_are_rows hr (by decide) rfl (pa_cons (pv 1) (pa_cons (pe_gl rfl T.g_GROUNDS) pa_nil))))) (pss_one (ps_raiseX TC.x_BadSheet (takes_of rfl rfl rfl rfl))) pss_nil)
    (pss_one (ps_expr (pe_cfun (pe_gl rfl TC.g_Layer) C_Layer___init__ hr (by decide) (pa_cons (pv 0) (pa_cons (pv 1) pa_nil)))))), ?_⟩
    rcases hor with ⟨os, ⟨ls, hk, rfl, rfl⟩, q⟩ | ⟨B, ⟨rfl, y, ⟨hy1, hy2⟩, rfl⟩, q⟩
    · obtain ⟨v1, rfl, h1⟩ := dts1 hws
      refine raw_no (et_not (b := true) (et_B (ED.to (ed_fn (ea_cons (ed_var rfl h1) (ea_cons ed_str ea_nil)) ⟨_, _, rfl, hk.small, rfl⟩) (congrArg PyData.bool hk)))) gh rfl fun G3 H3 e03 => ?_
      refine ⟨rfl, _, rfl, _, rfl, G3, x, C', dx, [v1], [dRows ls], _, rfl, hC, e03.gh, e03.free gx hx, e03.keep hx (by simp), .cons (same_dt e03.gg h1) .nil, ⟨ls, rfl, rfl⟩, fun G' H' dx' fs e hx' hf => ?_⟩
      exact q G' H' dx' fs (e03.toM.trans e fun _ h => .inl h) hx' (same_dtf (news_mono e03.dm (Same.refl G')) hf)
    · obtain ⟨v1, rfl, h1⟩ := dts1 hws
      exact raw_yes (et_not (b := false) (et_B (ED.to (ed_fn (ea_cons (ed_var rfl h1) (ea_cons ed_str ea_nil)) ⟨_, _, rfl, hy1, rfl⟩) (congrArg PyData.bool hy2)))) gh rfl fun G3 H3 e03 => q G3 H3 e03.toM
end

/-! ### draws -/
/-- the state by which draws are made -/
def stD (c : V) (at_ rest k : Int) : List (Key × V) := [(ks "cells", c), (ks "at", .int at_), (ks "rest", .int rest), (ks "k", .int k)]
theorem st_cells {c : V} {a r k : Int} : valV (stD c a r k) (ks "cells") = some c := by kernel_rfl
theorem st_at {c : V} {a r k : Int} : valV (stD c a r k) (ks "at") = some (.int a) := by kernel_rfl
theorem st_rest {c : V} {a r k : Int} : valV (stD c a r k) (ks "rest") = some (.int r) := by kernel_rfl
theorem st_k {c : V} {a r k : Int} : valV (stD c a r k) (ks "k") = some (.int k) := by kernel_rfl
theorem put_at {c : V} {a r k z : Int} : putK (stD c a r k) (ks "at") (.int z) = stD c z r k := by kernel_rfl
theorem put_rest {c : V} {a r k z : Int} : putK (stD c a r k) (ks "rest") (.int z) = stD c a z k := by kernel_rfl
theorem put_new {c : V} {k : Int} : mergeK [] [(ks "cells", c), (ks "at", .int 0), (ks "rest", .int 0), (ks "k", .int k)] = stD c 0 0 k := by kernel_rfl
theorem st_sz {c : V} {a r k : Int} : (stD c a r k).length < sizeLine := by show 4 < sizeLine; decide
/-- a state stands at p: its cells are known, at most n draws were made -/
structure St (K : PySem.W.Frag) (G H : Hp) (p : Addr) (n : Nat) : Prop where
  ex : ∃ (c : V) (ns : List Int) (at_ rest k : Int), H p = some (.dK (stD c at_ rest k)) ∧ Dt K G c (.list (ns.map PyData.int)) ∧ 0 < ns.length ∧ 0 ≤ at_ ∧ at_ ≤ n ∧ 0 ≤ k ∧ k ≤ 1000
  un : G p = none
def stE (K : PySem.W.Frag) (p : Addr) : Eff where
  M := [p]
  I := fun n G H => St K G H p n
  keep := fun {n G H G' H' M'} s e hm => by
    obtain ⟨⟨c, ns, a, r, k, h, hc, q⟩, u⟩ := s
    exact ⟨⟨c, ns, a, r, k, e.keep h (hm p (by simp)), same_dt e.gg hc, q⟩, e.free u h⟩
  up := fun {n m G H} h s => by
    obtain ⟨⟨c, ns, a, r, k, h, hc, q1, q2, q3, q⟩, u⟩ := s
    exact ⟨⟨c, ns, a, r, k, h, hc, q1, q2, by omega, q⟩, u⟩
  trk := fun {n G H} s a ha => by
    obtain ⟨⟨c, ns, a', r, k, h, hc, q⟩, u⟩ := s
    rw [List.mem_singleton] at ha
    rw [ha]
    exact ⟨_, h⟩
  unk := fun {n G H} s a ha => by
    rw [List.mem_singleton] at ha
    rw [ha]
    exact s.un
  know := fun {n G H G'} s e hm => by
    obtain ⟨⟨c, ns, a, r, k, h, hc, q⟩, u⟩ := s
    exact ⟨⟨c, ns, a, r, k, h, same_dt e hc, q⟩, hm p (by simp)⟩
theorem st_new {K : PySem.W.Frag} {G H : Hp} {p : Addr} {c : V} {ns : List Int} {k : Int} (gh : Same G H) (hp : H p = none) (hc : Dt K G c (.list (ns.map PyData.int))) (hn : 0 < ns.length) (k0 : 0 ≤ k) (k1 : k ≤ 1000) : St K G (upd H p (.dK (stD c 0 0 k))) p 0 :=
  ⟨⟨c, ns, 0, 0, k, upd_same, hc, hn, by omega, by omega, k0, k1⟩, gh.free hp⟩

section
variable {P : Program} {w : World} {K : PySem.W.Frag} {mg : Str → Option Value} {base : Heap}
/-! ### _law_mixed -/
def sp_mixed : Sp := fun vs H Q _ => ∃ c k : Int, vs = [.int c, .int k] ∧ 0 ≤ k ∧ k < 2 ^ 60 ∧ ∀ r : Int, 0 ≤ r → r < 2147483629 → Q (.int r) H
theorem ok_mixed (F : FnIn K mg "_law_mixed" s__law_mixed) : Has P w K mg base CX0 1 "_law_mixed" ["_law_cell", "_law_k"] sp_mixed := by
  refine F.ok sc__law_mixed (fun vs H Q E h => ?_) (fun _ _ _ _ _ _ us hl => match us, hl with | [_, _], _ => rfl) (fun f cdv A outer s H vs Q E hr h => ?_)
  · obtain ⟨c, k, rfl, _⟩ := h
    rfl
  · obtain ⟨c, k, rfl, k0, k1, q⟩ := h
    have nd := sc__law_mixed.nd
    refine ⟨_, (pss_cons (ps_set (i := 2) nd rfl (Or.inl rfl) (pe_op op_mod (pe_op op_mul (pe_op op_add (pe_op op_add (pe_op op_add (pe_op op_mod (pv 0) pe_int) (pe_op op_mul (pe_op op_mul pe_int (pv 1)) (pv 1))) (pe_op op_mul pe_int (pv 1))) pe_int) pe_int) pe_int))
    (pss_one (ps_ret (pe_op op_mod (pe_op op_mul (pv 2) (pe_op op_add pe_int (pe_op op_mul pe_int (pv 1)))) pe_int)))), ?_⟩
    refine ⟨_, rfl, _, _, rfl, rfl, (by decide : (0 : Int) < 2147483647), _, rfl, _, _, rfl, rfl, .inl ⟨by decide, by decide⟩, _, rfl, _, _, rfl, rfl, .inr ⟨by omega, by omega⟩, _, _, rfl, rfl, _, rfl, _, _, rfl, rfl, .inl ⟨by decide, by decide⟩, _, _, rfl, rfl, _, _, rfl, rfl,
      _, _, rfl, rfl, .inr ⟨by decide, by decide⟩, _, _, rfl, rfl, (by decide : (0 : Int) < 2147483647), ?_⟩
    refine ⟨_, rfl, _, rfl, _, _, rfl, rfl, .inl ⟨by decide, by decide⟩, _, _, rfl, rfl, _, _, rfl, rfl, .inr ⟨by omega, by omega⟩, _, _, rfl, rfl, (by decide : (0 : Int) < 2147483629), ?_⟩
    exact q _ (Int.emod_nonneg _ (by decide)) (Int.emod_lt_of_pos _ (by decide))
/-! ### _law_state -/
def sp_state : Sp := fun vs H Q _ => ∃ (c : V) (k : Int), vs = [c, .int k] ∧ ∀ p, H p = none → Q (.ref p) (upd H p (.dK (stD c 0 0 k)))
theorem ok_state (F : FnIn K mg "_law_state" s__law_state) : Has P w K mg base CX0 1 "_law_state" ["_law_cells", "_law_k"] sp_state := by
  refine F.ok sc__law_state (fun vs H Q E h => ?_) (fun _ _ _ _ _ _ us hl => match us, hl with | [_, _], _ => rfl) (fun f cdv A outer s H vs Q E hr h => ?_)
  · obtain ⟨c, k, rfl, _⟩ := h
    rfl
  · obtain ⟨c, k, rfl, q⟩ := h
    have nd := sc__law_state.nd
    refine ⟨_, (pss_one (ps_ret (pe_disp (pps_cons pe_str (pv 0) (pps_cons pe_str pe_int (pps_cons pe_str pe_int (pps_cons pe_str (pv 1) pps_nil)))) (by rfl) (by rfl) (fun z => by cases z) (by decide)))), ?_⟩
    intro p hp
    refine ⟨_, rfl, _, rfl, upd_same, [(ks "cells", c), (ks "at", .int 0), (ks "rest", .int 0), (ks "k", .int k)], rfl, (by show 4 ≤ 15; decide), ?_⟩
    rw [put_new, upd_upd]
    exact q p hp
/-! ### _law_take -/
def Pre_take (os : List (Option PyData)) : Prop := ∃ m : Int, os = [none, some (.int m)] ∧ 0 < m ∧ m < 1073741824
def R_take (os : List (Option PyData)) (d : PyData) : Prop := ∃ m r : Int, os = [none, some (.int m)] ∧ d = .int r ∧ 0 ≤ r ∧ r < m
abbrev sp_take (K : PySem.W.Frag) : Sp := SFn (stE K) K 1 Pre_take R_take
theorem ok_take (F : FnIn K mg "_law_take" s__law_take) (T : Txt mg) (F__law_mixed : Has P w K mg base CX0 1 "_law_mixed" ["_law_cell", "_law_k"] sp_mixed) : Has P w K mg base CX0 2 "_law_take" ["_law_state_here", "_law_many"] (sp_take K) := by
  refine F.ok sc__law_take (fun vs H Q E h => ?_) (fun _ _ _ _ _ _ us hl => match us, hl with | [_, _], _ => rfl) (fun f cdv A outer s H vs Q E hr h => ?_)
  · obtain ⟨G, p, n, os, gh, _, _, hv, ⟨m, rfl, _⟩, _⟩ := h
    exact (paired_len hv).trans rfl
  · obtain ⟨G, p, n, os, gh, ⟨⟨c, ns, a, r, k, hp, hc, hn, a0, a1, k0, k1⟩, gp⟩, hn2, hv, ⟨m, rfl, m0, m1⟩, q'⟩ := h
    have hn2 : n + 1 ≤ 2 ^ 40 := hn2
    have q : ∀ (r : Int) (H' : Hp), Ext [p] G H G H' → St K G H' p (n + 1) → 0 ≤ r → r < m → Q (.int r) H' := fun r H' e s r0 r1 => q' _ _ G H' e s (.int r) ⟨m, r, rfl, rfl, r0, r1⟩
    cases hv with
    | cons h1 hv =>
    cases hv with
    | cons h2 hv =>
    cases hv
    cases h1
    cases h2 with
    | dt h2 =>
    have h2 := dt_int h2
    subst h2
    have nd := sc__law_take.nd
    refine ⟨_, (pss_cons (ps_set (i := 2) nd rfl (Or.inl rfl) (pe_dget (hu_of hr) (pv 0) pe_str (fun _ _ => rfl)))
    (pss_cons (ps_dput (hu_of hr) (pv 0) pe_str (pe_op op_add (pv 2) pe_int) rfl)
    (pss_cons (ps_set (i := 3) nd rfl (Or.inl rfl) (pe_ix (ix_listK K) (pe_dget (hu_of hr) (pv 0) pe_str (fun _ _ => rfl)) (pe_op op_mod (pe_op op_fdiv (pv 2) pe_int) (pe_callB (call_lenK K) (by rfl) T.b_len (by decide +kernel) (pa_cons (pe_dget (hu_of hr) (pv 0) pe_str (fun _ _ => rfl)) pa_nil))) (fun _ _ => rfl)))
    (pss_cut (ps_if (pt_cmpR op_eq (pe_op op_mod (pv 2) pe_int) pe_int (nomark _)) (pss_one (ps_dput (hu_of hr) (pv 0) pe_str (pe_ifExp (pt_cmpR op_ge (pv 3) (pe_op op_pow pe_int pe_int) (nomark _)) (pv 3) pe_int) rfl)) pss_nil)
    (pss_cons (ps_if (pt_cmpR op_gt (pe_dget (hu_of hr) (pv 0) pe_str (fun _ _ => rfl)) pe_int (nomark _)) (pss_cons (ps_set (i := 4) nd rfl (Or.inl rfl) (pe_op op_mod (pe_dget (hu_of hr) (pv 0) pe_str (fun _ _ => rfl)) (pv 1)))
      (pss_cons (ps_dput (hu_of hr) (pv 0) pe_str (pe_op op_fdiv (pe_dget (hu_of hr) (pv 0) pe_str (fun _ _ => rfl)) (pv 1)) rfl)
      (pss_one (ps_ret (pv 4))))) pss_nil)
    (pss_cons (ps_set (i := 5) nd rfl (Or.inl rfl) (pe_op op_add (pv 2) (pe_op op_mul pe_int (pe_dget (hu_of hr) (pv 0) pe_str (fun _ _ => rfl)))))
    (pss_one (ps_ret (pe_op op_mod (pe_op op_fdiv (pe_op op_add (pe_op op_mul (pe_fn F__law_mixed hr (by decide) rfl (pa_cons (pv 3) (pa_cons (pv 5) pa_nil))) pe_int) (pe_fn F__law_mixed hr (by decide) rfl (pa_cons (pv 3) (pa_cons (pe_op op_add (pv 5) pe_int) pa_nil)))) pe_int) (pv 1)))))))))), ?_⟩
    obtain ⟨l, xs, rfl, hl, hx⟩ := dt_list hc gh
    have ex := dts_ints hx
    subst ex
    -- at; at + 1
    refine ⟨_, rfl, _, _, rfl, dget hp st_at, ?_⟩
    refine ⟨_, rfl, _, _, rfl, rfl, _, rfl, _, _, rfl, dput hp st_sz put_at, ?_⟩
    have e1 : Ext [p] G H G (upd H p (.dK (stD (.ref l) (a + 1) r k))) := Ext.put gh gp hp
    obtain ⟨l', xs', e', hl1, hx1⟩ := dt_list hc e1.gh
    cases e'
    have ex' := dts_ints hx1
    subst ex'
    -- the cell
    have hj : 0 ≤ a / 60 % ((ns.map V.int).length : Int) ∧ a / 60 % ((ns.map V.int).length : Int) < (ns.length : Int) := by
      rw [List.length_map]
      exact ⟨Int.emod_nonneg _ (by omega), Int.emod_lt_of_pos _ (by omega)⟩
    obtain ⟨cell, hcell⟩ : ∃ z : Int, atI (ns.map V.int) (a / 60 % ((ns.map V.int).length : Int)) = some (.int z) := by
      obtain ⟨x, h1, h2⟩ := atI_in (xs := ns.map V.int) hj.1 (by rw [List.length_map] at hj ⊢; exact hj.2)
      rw [List.getElem?_map] at h2
      cases e : ns[(a / 60 % ((ns.map V.int).length : Int)).toNat]? with
      | none => rw [e] at h2; cases h2
      | some z =>
        rw [e] at h2
        exact ⟨z, by rw [h1]; exact h2.symm⟩
    refine ⟨_, rfl, _, _, rfl, dget upd_same st_cells, _, rfl, _, _, rfl, rfl, ⟨by decide, by decide⟩, _, rfl, _, _, rfl, dget upd_same st_cells, _, _, rfl, .inl ⟨_, hl1, rfl⟩, _, _, rfl, rfl, (by rw [List.length_map]; omega), _, _, _, _, rfl, rfl, hl1, hcell, ?_⟩
    -- if at % 60 == 0: whatever is done, a rest stands there
    refine ⟨fun σ H1 => σ = [some (.ref p), some (.int m), some (.int a), some (.int cell), none, none] ∧ Ext [p] G H G H1 ∧ ∃ r, H1 p = some (.dK (stD (.ref l) (a + 1) r k)), ?_, ?_⟩
    · refine ⟨_, rfl, _, _, rfl, rfl, (by decide : (0 : Int) < 60), rfl, _, rfl, ?_⟩
      refine ite_both (fun _ => ?_) (fun _ => ⟨rfl, e1, r, upd_same⟩)
      refine ⟨_, rfl, _, _, rfl, rfl, ⟨by decide, by decide, by decide⟩, _, _, rfl, rfl, _, rfl, ?_⟩
      refine ite_both (fun _ => ?_) (fun _ => ?_)
      · refine ⟨_, rfl, _, rfl, _, _, rfl, dput upd_same st_sz put_rest, rfl, ?_, cell, upd_same⟩
        exact e1.trans (Ext.put e1.gh gp upd_same) fun _ h => .inl h
      · refine ⟨_, rfl, _, _, rfl, dput upd_same st_sz put_rest, rfl, ?_, 0, upd_same⟩
        exact e1.trans (Ext.put e1.gh gp upd_same) fun _ h => .inl h
    · rintro σ H1 ⟨rfl, e2, r2, hp2⟩
      refine ⟨_, rfl, _, _, rfl, dget hp2 st_rest, _, _, rfl, rfl, _, rfl, ?_⟩
      refine ite_both (fun _ => ?_) (fun _ => ?_)
      · refine ⟨_, rfl, _, _, rfl, dget hp2 st_rest, _, rfl, _, _, rfl, rfl, m0, ?_⟩
        refine ⟨_, rfl, _, _, rfl, dget hp2 st_rest, _, rfl, _, _, rfl, rfl, ⟨m0, m1⟩, _, rfl, _, _, rfl, dput hp2 st_sz put_rest, _, rfl, ?_⟩
        have e3 := e2.trans (Ext.put (o := .dK (stD (.ref l) (a + 1) (r2 / m) k)) e2.gh gp hp2) fun _ h => .inl h
        exact q _ _ e3 ⟨⟨_, ns, _, _, _, upd_same, hc, hn, by omega, by omega, k0, k1⟩, gp⟩ (Int.emod_nonneg _ (by omega)) (Int.emod_lt_of_pos _ m0)
      · refine ⟨_, rfl, _, rfl, _, _, rfl, dget hp2 st_k, _, _, rfl, rfl, .inl ⟨by decide, by decide⟩, _, _, rfl, rfl, ?_⟩
        refine ⟨_, rfl, _, rfl, cell, a + 60 * k, rfl, by omega, by omega, fun z z0 z1 => ⟨_, _, rfl, rfl, .inr ⟨by decide, by decide⟩, ?_⟩⟩
        refine ⟨_, rfl, _, rfl, _, _, rfl, rfl, cell, a + 60 * k + 9001, rfl, by omega, by omega, fun y y0 y1 => ⟨_, _, rfl, rfl, _, _, rfl, rfl, ⟨by decide, by decide⟩, ?_⟩⟩
        refine ⟨_, rfl, _, _, rfl, rfl, m0, ?_⟩
        exact q _ _ e2 ⟨⟨_, ns, _, _, _, hp2, hc, hn, by omega, by omega, k0, k1⟩, gp⟩ (Int.emod_nonneg _ (by omega)) (Int.emod_lt_of_pos _ m0)
/-! ### _law_whole -/
def isInt : PyData → Bool
  | .int _ => true
  | _ => false
def R_whole (ds : List PyData) (d : PyData) : Prop := ∃ x, ds = [x] ∧ isObjD x = false ∧ d = .bool (isInt x)
theorem ok_whole (F : FnIn K mg "_law_whole" s__law_whole) (T : Txt mg) : Has P w K mg base CX0 1 "_law_whole" ["_law_found"] (PFn K R_whole) := by
  refine F.pure sc__law_whole (fun ds d ⟨i, h, _⟩ => by rw [h]; rfl) (fun _ _ _ _ _ _ us hl => match us, hl with | [_], _ => rfl) (fun f cdv A outer s H E hr => ?_)
  refine ⟨_, (pss_one (ps_ret (pe_and (pe_callB (call_isiK' K) (by rfl) T.b_isinstance (by decide +kernel) (pa_cons (pv 0) (pa_cons (pe_bltn (v := .ty "int") (by rfl) T.b_int (by decide +kernel) rfl) pa_nil))) (pe_one (pe_not (pe_callB (call_isiK' K) (by rfl) T.b_isinstance (by decide +kernel) (pa_cons (pv 0) (pa_cons (pe_bltn (v := .ty "bool") (by rfl) T.b_bool (by decide +kernel) rfl) pa_nil)))))))), ?_⟩
  rintro G vs ds d hv ⟨x, rfl, ho, rfl⟩
  obtain ⟨v0, rfl, h0⟩ := dts1 hv
  cases x with
  | int i => exact es_ret (ed_and (b := true) (ed_isi (ed_var rfl h0) (by kernel_rfl)) fun hb => ed_not (b := false) (ed_isi (ed_var rfl h0) (by kernel_rfl))) rfl
  | bool i => exact es_ret (ed_and (b := true) (ed_isi (ed_var rfl h0) (by kernel_rfl)) fun hb => ed_not (b := true) (ed_isi (ed_var rfl h0) (by kernel_rfl))) rfl
  | _ => exact es_ret (ed_and (b := false) (c := false) (ed_isi (ed_var rfl h0) (by kernel_rfl) ho) fun hb => Bool.noConfusion hb) rfl
end

/-! ### a draw -/
theorem ev_take {K : PySem.W.Frag} {G : Hp} {σ : L2.St} {p : Addr} {i : Nat} {m : Int} {te : TE} {E : XK} (h : σ[i]? = some (some (.ref p))) (hm : ED K G te σ (.int m)) (h0 : 0 < m) (h1 : m < 1073741824) :
    EV (stE K p) K 1 G (tCall (sp_take K) [] E (tCons (tVar i) (tCons te tNil))) σ (fun d => ∃ r : Int, d = .int r ∧ 0 ≤ r ∧ r < m) :=
  EV.up (ev_sfn (ef := stE K) (ao_st h (ao_cons (ev_ed hm) ao_nil)) (fun os ⟨os', e1, d, os'', e2, e3, e4⟩ => by
    subst e1 e2 e3 e4
    exact ⟨⟨m, rfl, h0, h1⟩, fun d ⟨m', r, e, hd, r0, r1⟩ => ⟨r, hd, r0, by
      have : m = m' := by simpa using e
      omega⟩⟩)) (by omega)
def Pre1 (os : List (Option PyData)) : Prop := os = [none]
theorem dtos1 {K : PySem.W.Frag} {p : Addr} {G : Hp} {vs : List V} (h : DtOs K p G vs [none]) : vs = [.ref p] := by
  cases h with
  | cons a b => cases b; cases a; rfl
theorem dtos3 {K : PySem.W.Frag} {p : Addr} {G : Hp} {vs : List V} {d1 d2 : PyData} (h : DtOs K p G vs [none, some d1, some d2]) : ∃ v1 v2, vs = [.ref p, v1, v2] ∧ Dt K G v1 d1 ∧ Dt K G v2 d2 := by
  cases h with
  | cons a b =>
  cases a
  cases b with
  | cons a b =>
  cases a with
  | dt h1 =>
  cases b with
  | cons a b =>
  cases a with
  | dt h2 =>
  cases b
  exact ⟨_, _, rfl, h1, h2⟩
/-- a state is made -/
theorem raw_state {K : PySem.W.Frag} {G H : Hp} {σ : L2.St} {tas : TA} {E : XK} {D : Ends} {tz : TS} {i : Nat} {ns : List Int} {k : Int} (h : EA K G tas σ [.list (ns.map PyData.int), .int k]) (gh : Same G H) (hn : 0 < ns.length) (k0 : 0 ≤ k) (k1 : k ≤ 1000)
    (kk : ∀ p G2 H2, Ext [] G H G2 H2 → St K G2 H2 p 0 → tz D (σ.set i (some (.ref p))) H2) : tSeq (tAsg (tCall sp_state [] E tas) (gName i)) tz D σ H := h G H (Same.refl G) gh _ fun vs G2 H2 e hvs => by
  obtain ⟨v, w, rfl, h1, h2⟩ := dts2 hvs
  rw [dt_int h2]
  exact ⟨v, k, rfl, fun p hp => kk p G2 _ (e.same (Ext.cell e.gh hp)) (st_new e.gh hp h1 hn k0 k1)⟩
theorem cut_from {ds : List PyData} {k : Nat} (h : k ≤ ds.length) : cutD ds (some (k : Int)) none = ds.drop k := by
  have e : HT.sIx ds.length 0 (some (k : Int)) = k := by
    unfold HT.sIx
    simp only []
    rw [if_neg (by omega)]
    omega
  unfold cutD
  rw [e]
  show (ds.drop k).take (ds.length - k) = _
  rw [List.take_of_length_le (by simp)]

/-! ### drawn sizes and ties -/
def isSz (d : PyData) : Prop := ∃ n : Int, d = .int n ∧ 2 ≤ n ∧ n ≤ 12
def bi (b : Bool) : Int := if b then 1 else 0
abbrev rowG (l : Nat) (f : Nat → Bool) : PyData := .list ((List.range l).map fun c => .int (bi (f c)))
abbrev gridG (m l : Nat) (f : Nat → Nat → Bool) : PyData := .list ((List.range m).map fun r => rowG l (f r))
theorem dtos_cons {K : PySem.W.Frag} {p : Addr} {G : Hp} {vs : List V} {d : PyData} {os : List (Option PyData)} (h : DtOs K p G vs (some d :: os)) : ∃ v ws, vs = v :: ws ∧ Dt K G v d ∧ DtOs K p G ws os := by
  cases h with
  | cons a b =>
  cases a with
  | dt h1 => exact ⟨_, _, rfl, h1, b⟩
theorem dtos_st {K : PySem.W.Frag} {p : Addr} {G : Hp} {vs : List V} {os : List (Option PyData)} (h : DtOs K p G vs (none :: os)) : ∃ ws, vs = .ref p :: ws ∧ DtOs K p G ws os := by
  cases h with
  | cons a b =>
  cases a
  exact ⟨_, rfl, b⟩
theorem dtos_nil {K : PySem.W.Frag} {p : Addr} {G : Hp} {vs : List V} (h : DtOs K p G vs []) : vs = [] := by
  cases h; rfl
theorem choose_list {β : Type} (z : β) {f : β → PyData} {ds : List PyData} (h : ∀ (i : Nat) (x : PyData), ds[i]? = some x → ∃ b, x = f b) : ∃ F : Nat → β, ds = (List.range ds.length).map (fun i => f (F i)) := by
  have h' : ∀ i : Nat, ∃ b, ∀ x, ds[i]? = some x → x = f b := fun i => by
    cases e : ds[i]? with
    | none => exact ⟨z, fun x hx => by cases hx⟩
    | some y =>
      obtain ⟨b, hb⟩ := h i y e
      exact ⟨b, fun x hx => by cases hx; exact hb⟩
  refine ⟨fun i => Classical.choose (h' i), ?_⟩
  apply List.ext_getElem?
  intro i
  by_cases hi : i < ds.length
  · rw [List.getElem?_map, List.getElem?_range hi, List.getElem?_eq_getElem hi]
    exact congrArg some (Classical.choose_spec (h' i) _ (List.getElem?_eq_getElem hi))
  · rw [List.getElem?_eq_none (by omega), List.getElem?_eq_none (by rw [List.length_map, List.length_range]; omega)]
def Pre_bits (os : List (Option PyData)) : Prop := ∃ (m l : Nat) (s : Int), os = [none, some (.int m), some (.int l), some (.int s)] ∧ m ≤ 13 ∧ l ≤ 13
def R_bits (os : List (Option PyData)) (d : PyData) : Prop := ∃ (m l : Nat) (s : Int) (f : Nat → Nat → Bool), os = [none, some (.int m), some (.int l), some (.int s)] ∧ d = gridG m l f
section
variable {P : Program} {w : World} {K : PySem.W.Frag} {mg : Str → Option Value} {base : Heap}
theorem ok_size (F : FnIn K mg "_law_size" s__law_size) (F__law_take : Has P w K mg base CX0 2 "_law_take" ["_law_state_here", "_law_many"] (sp_take K)) : Has P w K mg base CX0 3 "_law_size" ["_law_state_here"] (SFn (stE K) K 3 Pre1 (fun _ d => isSz d)) := by
  refine F.draw sc__law_size (fun os h => by rw [h]; rfl) (fun _ _ _ _ _ _ us hl => match us, hl with | [_], _ => rfl) (fun f cdv A outer s H E hr => ?_)
  refine ⟨_, (pss_cons (ps_if (pt_cmpR op_eq (pe_fn F__law_take hr (by decide) rfl (pa_cons (pv 0) (pa_cons pe_int pa_nil))) pe_int (nomark _)) (pss_one (ps_ret pe_int)) pss_nil)
    (pss_one (ps_ret (pe_ix (ix_listK K) (pe_lst (pa_cons pe_int (pa_cons pe_int (pa_cons pe_int (pa_cons (pe_op op_add pe_int (pe_fn F__law_take hr (by decide) rfl (pa_cons (pv 0) (pa_cons pe_int pa_nil)))) (pa_cons pe_int pa_nil)))))) (pe_fn F__law_take hr (by decide) rfl (pa_cons (pv 0) (pa_cons pe_int pa_nil))) (fun _ _ => rfl))))), ?_⟩
  rintro G p vs os hv rfl
  have e := dtos1 hv
  subst e
  refine ss_when (c1 := 1) (c2 := 2) (Pb := fun _ => True) (tv_test (EV.up (c := 1) (ev_op (ev_take rfl ed_int (by decide) (by decide)) (ev_ed ed_int) fun d1 d2 ⟨r, e1, _⟩ e2 => by subst e1 e2; exact ⟨_, r2_eqI, _, rfl, trivial⟩) (by decide))) (fun _ => ?_) (fun _ => ?_)
  · exact SS.up (ss_retSeq (ev_d (P := isSz) ed_int ⟨_, rfl, by decide, by decide⟩) fun d h => h) (by decide)
  · refine SS.up (ss_ret (ev_ixL0 (P := isSz) (avl_cons (ev_d ed_int ⟨_, rfl, by decide, by decide⟩) (avl_cons (ev_d ed_int ⟨_, rfl, by decide, by decide⟩) (avl_cons (ev_d ed_int ⟨_, rfl, by decide, by decide⟩) (avl_cons (ev_op (ev_ed ed_int) (ev_take rfl ed_int (by decide) (by decide)) fun d1 d2 e1 ⟨r, e2, r0, r1⟩ => by
      subst e1 e2
      exact ⟨_, r2_i, _, rfl, by omega, by omega⟩) (avl_cons (ev_d ed_int ⟨_, rfl, by decide, by decide⟩) avl_nil))))) (by decide) (ev_take rfl ed_int (by decide) (by decide))) fun d h => h) (by decide)
end

/-! ### k03: edges, clashes, drawn grounds -/
def grc : W4 → Nat | 0 => 46 | 1 => 116 | 2 => 126 | 3 => 94
theorem grc_in : ∀ i : W4, grc i ∈ GROUNDS.cps.toList := by decide +kernel
theorem grc_at : ∀ i : W4, atI GROUNDS.cps.toList (i.val : Int) = some (grc i) := by decide +kernel
def R_gedge (C : Addr) (ds : List PyData) (d : PyData) : Prop := ∃ ls i, okLs ls ∧ ds = [dLay C ls, .str (wy i)] ∧ d = .str (mkS (along ls i))
def R_clash (ds : List PyData) (d : PyData) : Prop := ds.length = 3 ∧ d = .list []
def Pre_ground (os : List (Option PyData)) : Prop := ∃ n : Nat, os = [none, some (.int n)] ∧ 2 ≤ n ∧ n ≤ 12
def R_ground (os : List (Option PyData)) (d : PyData) : Prop := ∃ ls, okG ls ∧ os = [none, some (.int (ls.length : Nat))] ∧ d = dRows ls
def R_gledge (ds : List PyData) (d : PyData) : Prop := ∃ ls i, okLs ls ∧ ds = [dRows ls, .str (wy i)] ∧ d = .str (mkS (along ls i))
abbrev gMat (n : Nat) (F : Nat → Nat → W4) : List (List Nat) := (List.range n).map fun r => (List.range n).map fun c => grc (F r c)
theorem gMat_ok {n : Nat} (F : Nat → Nat → W4) (h1 : 2 ≤ n) (h2 : n ≤ 12) : okG (gMat n F) := by
  have hl : (gMat n F).length = n := by rw [List.length_map, List.length_range]
  show (isAmong (.int (dTxts (gMat n F)).length) 2 12 && (dTxts (gMat n F)).all (rowOk (dTxts (gMat n F)).length GROUNDS.cps.toList)) = true
  rw [dTxts_len, hl]
  have e1 : isAmong (.int (n : Nat)) 2 12 = true := by
    show (decide ((2 : Int) ≤ (n : Nat)) && decide (((n : Nat) : Int) ≤ 12)) = true
    simp
    omega
  rw [e1, Bool.true_and, List.all_eq_true]
  intro x hx
  obtain ⟨i, hi, rfl⟩ := mem_at (z := .none) hx
  rw [dTxts_len] at hi
  rw [dTxts_getD hi]
  rw [hl] at hi
  have er : (gMat n F).getD i [] = (List.range n).map fun c => grc (F i c) := by
    rw [List.getD_eq_getElem?_getD, List.getElem?_map, List.getElem?_range hi]
    rfl
  rw [er]
  show (decide (((List.range n).map fun c => grc (F i c)).length = n) && ((List.range n).map fun c => grc (F i c)).all fun c => decide (c ∈ GROUNDS.cps.toList)) = true
  rw [List.length_map, List.length_range, decide_eq_true rfl, Bool.true_and, List.all_eq_true]
  intro c hc
  obtain ⟨b, _, rfl⟩ := List.mem_map.mp hc
  exact decide_eq_true (grc_in _)
section
variable {P : Program} {w : World} {K : PySem.W.Frag} {mg : Str → Option Value} {base : Heap} {A : Adr}
theorem ok_gedge (F : MethIn K A.Ground "edge" "Layer.edge" s_Layer_edge) (TC : TxC K mg A) (M_Ground_signs_along : HasM P w K mg base CX0 1 A.Ground "signs_along" ["self", "way"] (PFn K (R_along K))) : HasM P w K mg base CX0 2 A.Ground "edge" ["self", "way"] (PFn K (R_gedge A.Ground)) := by
  refine F.pure sc_Layer_edge (fun ds d ⟨ls, i, _, h, _⟩ => by rw [h]; rfl) (fun _ _ _ _ _ _ us hl => match us, hl with | [_, _], _ => rfl) (fun f cdv Ar outer s H E hr => ?_)
  refine ⟨_, (pss_one (ps_ret (pe_mth (pv 0) TC.o_Ground.cl M_Ground_signs_along hr (by decide) (pa_cons (pv 1) pa_nil)))), ?_⟩
  rintro G vs ds d hv ⟨ls, i, hk, rfl, rfl⟩
  obtain ⟨v0, v1, rfl, h0, h1⟩ := dts2 hv
  exact es_ret (ed_mth (ed_var rfl h0) (look_no (by decide +kernel)) (ea_cons (ed_var rfl h1) ea_nil) ⟨A.Ground, ls, i, TC.layG, hk, rfl, rfl⟩) rfl
theorem ok_clash (F : MethIn K A.Ground "clash" "Layer.clash" s_Layer_clash) : HasM P w K mg base CX0 1 A.Ground "clash" ["self", "other", "way"] (FFn K R_clash) := by
  refine F.fresh sc_Layer_clash (fun ds d h => h.1) (fun _ _ _ _ _ _ us hl => match us, hl with | [_, _, _], _ => rfl) (fun f cdv Ar outer s H E hr => ?_)
  refine ⟨_, (pss_one (ps_ret (pe_lst pa_nil))), ?_⟩
  rintro G vs ds d hv ⟨_, rfl⟩ H gh D q
  exact ⟨Nat.zero_le _, fun p hp => q _ _ _ (Ext.new gh hp) (.lst (news_at hp upd_same) .nil)⟩
theorem ok_ground (F : FnIn K mg "_law_ground" s__law_ground) (T : Txt mg) (F__law_take : Has P w K mg base CX0 2 "_law_take" ["_law_state_here", "_law_many"] (sp_take K)) : Has P w K mg base CX0 3 "_law_ground" ["_law_state_here", "_law_size_here"] (SFn (stE K) K 146 Pre_ground R_ground) := by
  refine F.draw sc__law_ground (fun os ⟨_, h, _⟩ => by rw [h]; rfl) (fun _ _ _ _ _ _ us hl => match us, hl with | [_, _], _ => rfl) (fun f cdv A outer s H E hr => ?_)
  have nd := sc__law_ground.nd
  refine ⟨_, (pss_cons (ps_set (i := 2) nd rfl (Or.inr rfl) (pe_op op_add pe_int (pe_fn F__law_take hr (by decide) rfl (pa_cons (pv 0) (pa_cons pe_int pa_nil)))))
    (pss_cons (ps_set (i := 3) nd rfl (Or.inr rfl) (pe_fn F__law_take hr (by decide) rfl (pa_cons (pv 0) (pa_cons pe_int pa_nil))))
    (pss_cons (ps_set (i := 4) nd rfl (Or.inl rfl) (pe_lst pa_nil))
    (pss_cons (ps_for PassesOwn.never rfl (pi_range1 (by rfl) T.b_range (pa_cons (pv 1) pa_nil)) (pg_name (i := 5) nd rfl (Or.inl rfl))
      (pss_cons (ps_setLc (i := 6) (own := [("_law_column", 7)]) (by rfl) nd rfl rfl (sw_true rfl rfl rfl (by decide +kernel)) (pi_range1 (by rfl) T.b_range (pa_cons (pv 1) pa_nil)) (blkOk_by (own := [("_law_column", 7)]) (N := ["_law_state_here", "_law_size_here", "_law_few", "_law_first", "_law_rows", "_law_row", "_law_some", "_law_column", "_law_one"]) (sc := (defScope s__law_ground)) (by decide +kernel)) (fun _ _ _ _ _ => (pg_name (i := 7) nd rfl (Or.inl rfl))) (fun _ _ _ _ _ => pts_nil) (fun _ _ _ _ _ => (pe_op op_mod (pe_op op_add (pv 3) (pe_fn F__law_take hr (by decide) rfl (pa_cons (pv 0) (pa_cons (pv 2) pa_nil)))) pe_int)))
      (pss_one (ps_expr (pe_bmK K PySem.F.plainAttrs_list PySem.F.slot_list_append PySem.F.type_list_append mt_append (pv 4) (pa_cons (pe_joinK K pe_str (pe_lc (own := [("_law_one", 8)]) (by rfl) nd (pi_listK K (pv 6)) (blkOk_by (own := [("_law_one", 8)]) (N := ["_law_state_here", "_law_size_here", "_law_few", "_law_first", "_law_rows", "_law_row", "_law_some", "_law_column", "_law_one"]) (sc := (defScope s__law_ground)) (by decide +kernel)) (fun _ _ _ _ _ => (pg_name (i := 8) nd rfl (Or.inl rfl))) (fun _ _ _ _ _ => pts_nil) (fun _ _ _ _ _ => (pe_ix ix_str pe_str (pv 8) (fun _ _ => rfl))))) pa_nil))))))
    (pss_one (ps_ret (pv 4))))))), ?_⟩
  rintro G p vs os hv ⟨n, rfl, n0, n1⟩
  obtain ⟨w0, rfl, u0⟩ := dtos_st hv
  obtain ⟨v1, w1, rfl, h1, u1⟩ := dtos_cons u0
  have e := dtos_nil u1
  subst e
  have en : ((n : Nat) : Int).toNat = n := by simp
  have hnn : n * n ≤ 144 := Nat.mul_le_mul n1 n1
  refine ss_set (c1 := 1) (c2 := 145) (P := fun d => ∃ r : Int, d = .int r ∧ 0 < r ∧ r ≤ 4) (EV.up (ev_op (ev_ed ed_int) (ev_take rfl ed_int (by decide) (by decide)) fun d1 d2 e1 ⟨r, e2, r0, r1⟩ => by subst e1 e2; exact ⟨_, r2_i, _, rfl, by omega, by omega⟩) (by decide)) fun G2 x2 d2 a2 hx2 p2 => ?_
  obtain ⟨fw, rfl, f0, f1⟩ := p2
  refine ss_set (c1 := 1) (c2 := 144) (ev_take rfl ed_int (by decide) (by decide)) fun G3 x3 d3 a3 hx3 p3 => ?_
  obtain ⟨ft, rfl, _, _⟩ := p3
  have h13 : Dt K G3 v1 (.int n) := same_dt (a2.trans a3) h1
  have h23 := same_dt a3 hx2
  refine SS.up (ss_gather (c := n) (c2 := 0) (m := ((n : Nat) : Int).toNat) (Q := fun _ x => ∃ F : Nat → W4, x = .str (mkS ((List.range n).map fun i => grc (F i)))) (fun G1 q a => ei_range1 (ea_cons (ed_var rfl (same_dt a h13)) ea_nil) (by omega) (by omega)) (by omega) (fun q i G1 σ1 => ∃ x5 x6, σ1 = [some (.ref p), some v1, some x2, some x3, some (.ref q), x5, x6, none, none]) (fun q G1 a => ⟨_, _, rfl⟩) (fun q i G1 G2 σ1 a h => h)
    (fun _ _ _ _ _ _ _ => eg_name) ?_ ?_) (by rw [en, Nat.add_zero]; exact hnn)
  · rintro q i G4 σ1 σ2 hi a4 ⟨x5, x6, rfl⟩ ⟨x, hx, rfl⟩
    refine SA.up (sa_set (c1 := n) (c2 := 0) (P1 := fun d => ∃ F : Nat → W4, d = .list ((List.range n).map fun i => .int ((F i).val : Int))) (EV.imp (EV.up (ev_lc (c := 1) (P := fun _ x => ∃ b : W4, x = .int (b.val : Int)) (ei_range1 (ea_cons (ed_var rfl (same_dt a4 h13)) ea_nil) (by omega) (by omega)) (by omega) (fun _ _ => eg_name) (fun i G1 σ2 hi hB => by obtain ⟨x0, hx0, rfl⟩ := hB; rfl) (fun i G5 σ2 hi a5 hB => by
      obtain ⟨x0, hx0, rfl⟩ := hB
      refine EV.up (ev_op (P1 := isI) (ev_op (ev_ed (ed_var rfl (same_dt (a4.trans a5) hx3))) (ev_take rfl (ed_var rfl (same_dt (a4.trans a5) h23)) f0 (by omega)) fun d1 d2 e1 ⟨r, e2, _⟩ => by subst e1 e2; exact ⟨_, r2_i, _, rfl⟩) (ev_ed ed_int) fun d1 d2 ⟨z, e1⟩ e2 => ?_) (by decide : (0 + 1) + 0 ≤ 1)
      subst e1 e2
      have hz0 := Int.emod_nonneg z (show (4 : Int) ≠ 0 by decide)
      have hz1 := Int.emod_lt_of_pos z (show (0 : Int) < 4 by decide)
      refine ⟨_, r2_c (by decide : (0 : Int) < 4), ⟨(z % 4).toNat, by omega⟩, ?_⟩
      show PyData.int (z % 4) = PyData.int (((z % 4).toNat : Nat) : Int)
      rw [Int.toNat_of_nonneg hz0])) (by rw [en, Nat.mul_one]; exact Nat.le_refl _)) fun d ⟨ds, e, hlen, hP⟩ => ?_) fun G5 y d5 a5 hy p5 => ?_) (by omega)
    · subst e
      obtain ⟨F, hF⟩ := choose_list (0 : W4) (f := fun b => .int (b.val : Int)) hP
      exact ⟨F, by rw [hF, hlen, en]⟩
    · obtain ⟨F, rfl⟩ := p5
      have hlen : ((List.range n).map fun i => PyData.int ((F i).val : Int)).length = n := by rw [List.length_map, List.length_range]
      refine sa_app rfl (ev_d (P := fun x => ∃ F : Nat → W4, x = .str (mkS ((List.range n).map fun i => grc (F i)))) (ed_m1 ed_str (ED.to (ed_lc (p := fun _ => true) (h := fun i => .str (sg (grc (F i)))) (ei_list (ed_var rfl hy)) (by rw [hlen]; omega) (fun _ _ => eg_name) (fun i G1 σ2 hi hB => by obtain ⟨x0, hx0, rfl⟩ := hB; rfl) (fun i G1 σ2 hi a1 hB => et_yes) (fun i G6 σ2 hi a6 hB hp => by
        obtain ⟨x0, hx0, rfl⟩ := hB
        rw [hlen] at hi
        have ex : ((List.range n).map fun i => PyData.int ((F i).val : Int)).getD i .none = .int ((F i).val : Int) := by
          rw [List.getD_eq_getElem?_getD, List.getElem?_map, List.getElem?_range hi]
          rfl
        rw [ex] at hx0
        exact (ed_op ed_str (ed_var rfl hx0) (r2_ixS (by decide +kernel) (grc_at (F i)))))) (congrArg PyData.list ?_)) (md_joinS ((List.range n).map fun i => grc (F i)) (by rw [List.length_map, List.length_range]; omega))) ⟨F, rfl⟩) fun G6 a6 => ⟨_, _, rfl⟩
      rw [hlen, List.map_map]
      unfold outs
      rw [List.filter_eq_self.mpr (by simp)]
      rfl
  · rintro q G4 σ1 ds a4 ⟨x5, x6, rfl⟩ hd hlen hP
    refine ss_ret (ev_d (P := fun d => R_ground [none, some (.int n)] d) (ed_var rfl hd) ?_) fun d h => h
    obtain ⟨F, hF⟩ := choose_list (fun _ => (0 : W4)) (f := fun F => .str (mkS ((List.range n).map fun i => grc (F i)))) hP
    have hl : (gMat n F).length = n := by rw [List.length_map, List.length_range]
    refine ⟨gMat n F, gMat_ok F n0 n1, by rw [hl], congrArg PyData.list ?_⟩
    rw [hF, hlen, en]
    show _ = (((List.range n).map fun r => (List.range n).map fun c => grc (F r c)).map mkS).map PyData.str
    rw [List.map_map, List.map_map]
    rfl
theorem ok_gledge (F : FnIn K mg "_law_edge" s__law_edge) (T : Txt mg) : Has P w K mg base CX0 1 "_law_edge" ["_law_rows", "_law_way"] (PFn K R_gledge) := by
  refine F.pure sc__law_edge (fun ds d ⟨ls, i, _, h, _⟩ => by rw [h]; rfl) (fun _ _ _ _ _ _ us hl => match us, hl with | [_, _], _ => rfl) (fun f cdv A outer s H E hr => ?_)
  have nd := sc__law_edge.nd
  refine ⟨_, (pss_cons (ps_if (pt_cmpR op_eq (pv 1) pe_str (nomark _)) (pss_one (ps_ret (pe_ix (ix_listK K) (pv 0) pe_int (fun _ _ => rfl)))) pss_nil)
    (pss_cons (ps_if (pt_cmpR op_eq (pv 1) pe_str (nomark _)) (pss_one (ps_ret (pe_ix (ix_listK K) (pv 0) (pe_un un_neg pe_int) (fun _ _ => rfl)))) pss_nil)
    (pss_one (ps_ret (pe_joinK K pe_str (pe_lc (own := [("_law_row", 2)]) (by rfl) nd (pi_listK K (pv 0)) (blkOk_by (own := [("_law_row", 2)]) (N := ["_law_rows", "_law_way", "_law_row"]) (sc := (defScope s__law_edge)) (by decide +kernel)) (fun _ _ _ _ _ => (pg_name (i := 2) nd rfl (Or.inl rfl))) (fun _ _ _ _ _ => pts_nil) (fun _ _ _ _ _ => (pe_ix ix_str (pv 2) (pe_ix (ix_listK K) (pe_lst (pa_cons pe_int (pa_cons (pe_un un_neg pe_int) pa_nil))) (pe_callTy call_int1 (by rfl) T.b_int (by decide +kernel) (pa_cons (pe_cmpR op_eq (pv 1) pe_str (nomark _)) pa_nil)) (fun _ _ => rfl)) (fun _ _ => rfl))))))))), ?_⟩
  rintro G vs ds d hv ⟨ls, i, hk, rfl, rfl⟩
  obtain ⟨v0, v1, rfl, h0, h1⟩ := dts2 hv
  have hlast : ls.length - 1 < ls.length := by have := hk.1; omega
  rcases fin4 i with rfl | rfl | rfl | rfl
  · exact es_when (b := true) (et_test (ED.to (ed_op (ed_var rfl h1) ed_str r2_eqS) (congrArg PyData.bool (by decide +kernel)))) (fun hb => es_retSeq (ed_op (ed_var rfl h0) ed_int (r2_ixL (atI_nat (j := 0) (dTxts_at hk.1)))) rfl) (fun hb => Bool.noConfusion hb)
  · refine es_when (b := false) (et_test (ED.to (ed_op (ed_var rfl h1) ed_str r2_eqS) (congrArg PyData.bool (by decide +kernel)))) (fun hb => Bool.noConfusion hb) (fun hb => ?_)
    refine es_when (b := false) (et_test (ED.to (ed_op (ed_var rfl h1) ed_str r2_eqS) (congrArg PyData.bool (by decide +kernel)))) (fun hb => Bool.noConfusion hb) (fun hb => ?_)
    refine es_ret (ed_colS (fun l => l.getD (l.length - 1) 0) (ed_var rfl h0) hk.2.1 (fun _ _ => eg_name) (fun i G1 σ2 hi hB => by obtain ⟨x0, hx0, rfl⟩ := hB; rfl) fun i G1 σ2 hi a hB => ?_) rfl
    obtain ⟨x0, hx0, rfl⟩ := hB
    rw [dTxts_getD hi] at hx0
    have hz := okLs_at hk hi
    refine ed_op (ed_var rfl hx0) (ed_op (ed_lst (ea_cons ed_int (ea_cons (ed_un ed_int) ea_nil))) (ed_cb (ea_cons (ED.to (ed_op (ed_var rfl (same_dt a h1)) ed_str r2_eqS) (congrArg PyData.bool (by decide +kernel : _ = true))) ea_nil) cb_intB) (r2_ixL atI1)) (r2_ixS (by rw [mkS_len]; exact szn _ (by omega)) (atI_last ?_ (by rw [mkS_list]; exact hz.1)))
    have hz1 : (ls.getD i []).length - 1 < (ls.getD i []).length := by omega
    rw [mkS_list]
    generalize ls.getD i [] = l at hz1
    rw [List.getD_eq_getElem?_getD, List.getElem?_eq_getElem hz1]
    rfl
  · refine es_when (b := false) (et_test (ED.to (ed_op (ed_var rfl h1) ed_str r2_eqS) (congrArg PyData.bool (by decide +kernel)))) (fun hb => Bool.noConfusion hb) (fun hb => ?_)
    exact es_when (b := true) (et_test (ED.to (ed_op (ed_var rfl h1) ed_str r2_eqS) (congrArg PyData.bool (by decide +kernel)))) (fun hb => es_retSeq (ed_op (ed_var rfl h0) (ed_un ed_int) (r2_ixL (atI_last (by rw [dTxts_len]; exact dTxts_at hlast) (by rw [dTxts_len]; exact hk.1)))) rfl) (fun hb => Bool.noConfusion hb)
  · refine es_when (b := false) (et_test (ED.to (ed_op (ed_var rfl h1) ed_str r2_eqS) (congrArg PyData.bool (by decide +kernel)))) (fun hb => Bool.noConfusion hb) (fun hb => ?_)
    refine es_when (b := false) (et_test (ED.to (ed_op (ed_var rfl h1) ed_str r2_eqS) (congrArg PyData.bool (by decide +kernel)))) (fun hb => Bool.noConfusion hb) (fun hb => ?_)
    refine es_ret (ed_colS (fun l => l.getD 0 0) (ed_var rfl h0) hk.2.1 (fun _ _ => eg_name) (fun i G1 σ2 hi hB => by obtain ⟨x0, hx0, rfl⟩ := hB; rfl) fun i G1 σ2 hi a hB => ?_) rfl
    obtain ⟨x0, hx0, rfl⟩ := hB
    rw [dTxts_getD hi] at hx0
    have hz := okLs_at hk hi
    exact ed_op (ed_var rfl hx0) (ed_op (ed_lst (ea_cons ed_int (ea_cons (ed_un ed_int) ea_nil))) (ed_cb (ea_cons (ED.to (ed_op (ed_var rfl (same_dt a h1)) ed_str r2_eqS) (congrArg PyData.bool (by decide +kernel : _ = false))) ea_nil) cb_intB) (r2_ixL atI0)) (r2_ixS (by rw [mkS_len]; exact szn _ (by omega)) (atI_getD (i := 0) (by rw [mkS_list]; exact hz.1)))
end

/-! ### k03: refusals -/
abbrev WORDS : List Str := ["sheet", "place", "cell", "window", "nosheet", "noway", "noname", "many", "line", "text", "bare"]
abbrev dWords (j : Nat) : List PyData := (List.range 11).map fun i => .tuple [.str (WORDS.getD i ""), .bool (decide (i = j))]
def R_word (A : Adr) (ds : List PyData) (d : PyData) : Prop := ds = [dExc A.BadSheet] ∧ d = .list [.str "sheet"]
def R_refused (ds : List PyData) (d : PyData) : Prop := ∃ x, badG x ∧ ds = [x] ∧ d = .bool true
section
variable {P : Program} {w : World} {K : PySem.W.Frag} {mg : Str → Option Value} {base : Heap} {A : Adr}
theorem ok_word (F : FnIn K mg "_law_word" s__law_word) (T : Txt mg) (TC : TxC K mg A) : Has P w K mg base CX0 1 "_law_word" ["_law_e"] (PFn K (R_word A)) := by
  refine F.pure sc__law_word (fun ds d ⟨h, _⟩ => by rw [h]; rfl) (fun _ _ _ _ _ _ us hl => match us, hl with | [_], _ => rfl) (fun f cdv Ar outer s H E hr => ?_)
  have nd := sc__law_word.nd
  refine ⟨_, (pss_cons (ps_set (i := 1) nd rfl (Or.inl rfl) (pe_lst (pa_cons (pe_tup (pa_cons pe_str (pa_cons (pe_callB (call_isX K) (by rfl) T.b_isinstance (by decide +kernel) (pa_cons (pv 0) (pa_cons (pe_gl rfl TC.g_BadSheet) pa_nil))) pa_nil))) (pa_cons (pe_tup (pa_cons pe_str (pa_cons (pe_callB (call_isX K) (by rfl) T.b_isinstance (by decide +kernel) (pa_cons (pv 0) (pa_cons (pe_gl rfl TC.g_BadPlace) pa_nil))) pa_nil))) (pa_cons (pe_tup (pa_cons pe_str (pa_cons (pe_callB (call_isX K) (by rfl) T.b_isinstance (by decide +kernel) (pa_cons (pv 0) (pa_cons (pe_gl rfl TC.g_BadCell) pa_nil))) pa_nil))) pa_nil)))))
    (pss_cons (ps_set (i := 1) nd rfl (Or.inl rfl) (pe_op op_cat (pv 1) (pe_lst (pa_cons (pe_tup (pa_cons pe_str (pa_cons (pe_callB (call_isX K) (by rfl) T.b_isinstance (by decide +kernel) (pa_cons (pv 0) (pa_cons (pe_gl rfl TC.g_BadWindow) pa_nil))) pa_nil))) (pa_cons (pe_tup (pa_cons pe_str (pa_cons (pe_callB (call_isX K) (by rfl) T.b_isinstance (by decide +kernel) (pa_cons (pv 0) (pa_cons (pe_gl rfl TC.g_NoSheet) pa_nil))) pa_nil))) pa_nil)))))
    (pss_cons (ps_set (i := 1) nd rfl (Or.inl rfl) (pe_op op_cat (pv 1) (pe_lst (pa_cons (pe_tup (pa_cons pe_str (pa_cons (pe_callB (call_isX K) (by rfl) T.b_isinstance (by decide +kernel) (pa_cons (pv 0) (pa_cons (pe_gl rfl TC.g_NoWay) pa_nil))) pa_nil))) (pa_cons (pe_tup (pa_cons pe_str (pa_cons (pe_callB (call_isX K) (by rfl) T.b_isinstance (by decide +kernel) (pa_cons (pv 0) (pa_cons (pe_gl rfl TC.g_NoName) pa_nil))) pa_nil))) pa_nil)))))
    (pss_cons (ps_set (i := 1) nd rfl (Or.inl rfl) (pe_op op_cat (pv 1) (pe_lst (pa_cons (pe_tup (pa_cons pe_str (pa_cons (pe_callB (call_isX K) (by rfl) T.b_isinstance (by decide +kernel) (pa_cons (pv 0) (pa_cons (pe_gl rfl TC.g_TooMany) pa_nil))) pa_nil))) (pa_cons (pe_tup (pa_cons pe_str (pa_cons (pe_callB (call_isX K) (by rfl) T.b_isinstance (by decide +kernel) (pa_cons (pv 0) (pa_cons (pe_gl rfl TC.g_BadLine) pa_nil))) pa_nil))) pa_nil)))))
    (pss_cons (ps_set (i := 1) nd rfl (Or.inl rfl) (pe_op op_cat (pv 1) (pe_lst (pa_cons (pe_tup (pa_cons pe_str (pa_cons (pe_callB (call_isX K) (by rfl) T.b_isinstance (by decide +kernel) (pa_cons (pv 0) (pa_cons (pe_gl rfl TC.g_BadText) pa_nil))) pa_nil))) (pa_cons (pe_tup (pa_cons pe_str (pa_cons (pe_not (pe_callB (call_isX K) (by rfl) T.b_isinstance (by decide +kernel) (pa_cons (pv 0) (pa_cons (pe_bltn (v := .ty "ValueError") (by rfl) T.b_ValueError (by decide +kernel) rfl) pa_nil)))) pa_nil))) pa_nil)))))
    (pss_one (ps_ret (pe_lc (own := [("_law_word_here", 2), ("_law_fits", 3)]) (by rfl) nd (pi_listK K (pv 1)) (blkOk_by (own := [("_law_word_here", 2), ("_law_fits", 3)]) (N := ["_law_e", "_law_found", "_law_word_here", "_law_fits"]) (sc := (defScope s__law_word)) (by decide +kernel)) (fun _ _ _ _ _ => (pg_tupK K (n := 2) rfl (pgs_cons (pg_name (i := 2) nd rfl (Or.inl rfl)) (pgs_cons (pg_name (i := 3) nd rfl (Or.inl rfl)) pgs_nil)))) (fun _ _ _ _ _ => (pts_one (pt_val (pv 3)))) (fun _ _ _ _ _ => (pv 2)))))))))), ?_⟩
  rintro G vs ds d hv ⟨rfl, rfl⟩
  obtain ⟨v0, rfl, h0⟩ := dts1 hv
  have c := TC.x_BadSheet.c
  have is : ∀ {G' : Hp} {σ : L2.St} {D : Addr} {b : Bool}, Same G G' → σ[0]? = some (some v0) → PySem.W.kitOne K (.ref A.BadSheet) (.ref D) = some b → ED K G' (tCB (rIsX K) (tCons (tVar 0) (tCons (tC (.ref D)) tNil))) σ (.bool b) := fun a e hk => ed_isX (ed_var e (same_dt a h0)) c hk
  refine es_set (ed_lst (ea_cons (ed_tup (ea_cons ed_str (ea_cons (is (Same.refl G) rfl TC.s_BadSheet_BadSheet) ea_nil))) (ea_cons (ed_tup (ea_cons ed_str (ea_cons (is (Same.refl G) rfl TC.s_BadSheet_BadPlace) ea_nil))) (ea_cons (ed_tup (ea_cons ed_str (ea_cons (is (Same.refl G) rfl TC.s_BadSheet_BadCell) ea_nil))) ea_nil)))) fun G1 x1 a1 h1 => ?_
  refine es_set (ed_op (ed_var rfl h1) (ed_lst (ea_cons (ed_tup (ea_cons ed_str (ea_cons (is a1 rfl TC.s_BadSheet_BadWindow) ea_nil))) (ea_cons (ed_tup (ea_cons ed_str (ea_cons (is a1 rfl TC.s_BadSheet_NoSheet) ea_nil))) ea_nil))) (r2_cat (by show 3 + 2 ≤ 10000; decide))) fun G2 x2 a2 h2 => ?_
  have a02 := a1.trans a2
  refine es_set (ed_op (ed_var rfl h2) (ed_lst (ea_cons (ed_tup (ea_cons ed_str (ea_cons (is a02 rfl TC.s_BadSheet_NoWay) ea_nil))) (ea_cons (ed_tup (ea_cons ed_str (ea_cons (is a02 rfl TC.s_BadSheet_NoName) ea_nil))) ea_nil))) (r2_cat (by show 5 + 2 ≤ 10000; decide))) fun G3 x3 a3 h3 => ?_
  have a03 := a02.trans a3
  refine es_set (ed_op (ed_var rfl h3) (ed_lst (ea_cons (ed_tup (ea_cons ed_str (ea_cons (is a03 rfl TC.s_BadSheet_TooMany) ea_nil))) (ea_cons (ed_tup (ea_cons ed_str (ea_cons (is a03 rfl TC.s_BadSheet_BadLine) ea_nil))) ea_nil))) (r2_cat (by show 7 + 2 ≤ 10000; decide))) fun G4 x4 a4 h4 => ?_
  have a04 := a03.trans a4
  refine es_set (d := .list (dWords 0)) (ed_op (ed_var rfl h4) (ed_lst (ea_cons (ed_tup (ea_cons ed_str (ea_cons (is a04 rfl TC.s_BadSheet_BadText) ea_nil))) (ea_cons (ed_tup (ea_cons ed_str (ea_cons (ed_not (ed_isXT (ed_var rfl (same_dt a04 h0)) c TC.v_BadSheet)) ea_nil))) ea_nil))) (r2_cat (by show 9 + 2 ≤ 10000; decide))) fun G5 x5 a5 h5 => ?_
  refine es_ret (ED.to (ed_lc (B := fun i G σ2 => ∃ x y, Dt K G x (.str (WORDS.getD i "")) ∧ Dt K G y (.bool (decide (i = 0))) ∧ σ2 = ((wipe [some v0, some x5, none, none] [2, 3]).set 2 (some x)).set 3 (some y)) (p := fun i => decide (i = 0)) (h := fun i => .str (WORDS.getD i "")) (ei_list (ed_var rfl h5)) (by decide) (fun i hi => by
      have e : (dWords 0).getD i .none = .tuple [.str (WORDS.getD i ""), .bool (decide (i = 0))] := by
        have hi' : i < 11 := hi
        rw [List.getD_eq_getElem?_getD, List.getElem?_map, List.getElem?_range hi']
        rfl
      rw [e]
      exact eg_tup2) (fun i G1 σ2 hi hB => by obtain ⟨x, y, hx, hy, rfl⟩ := hB; rfl) (fun i G6 σ2 hi a6 hB => by obtain ⟨x, y, hx, hy, rfl⟩ := hB; exact et_B (ed_var rfl hy)) (fun i G6 σ2 hi a6 hB hp => by obtain ⟨x, y, hx, hy, rfl⟩ := hB; exact ed_var rfl hx)) (d' := .list [.str "sheet"]) rfl) rfl
theorem ok_refused (F : FnIn K mg "_law_refused" s__law_refused) (T : Txt mg) (TC : TxC K mg A) (N_Ground : HasI P w K mg base (L2.CX P w) 4 "Ground" A.Ground ["self", "rows"] (IXFn K (LayC K) R_ginit (Bad_ginit A.BadSheet))) (F__law_word : Has P w K mg base CX0 1 "_law_word" ["_law_e"] (PFn K (R_word A))) : Has P w K mg base CX0 6 "_law_refused" ["_law_thing"] (PFn K R_refused) := by
  refine F.pure sc__law_refused (fun ds d ⟨x, _, h, _⟩ => by rw [h]; rfl) (fun _ _ _ _ _ _ us hl => match us, hl with | [_], _ => rfl) (fun f cdv Ar outer s H E hr => ?_)
  have nd := sc__law_refused.nd
  refine ⟨_, (pss_cons (ps_set (i := 1) nd rfl (Or.inl rfl) pe_non)
    (pss_cons (ps_try_keep (i := 2) K rfl rfl nd rfl rfl ⟨rfl, by decide, .inl TC.m_MapError⟩ takes0 (fun W pn xe tk pa => (pss_one (ps_expr (pe_newX N_Ground hr (by decide) rfl (fun σ => passAt tk σ) (pa_cons (pv 0) pa_nil))))) (fun a oe cls d pn hz hf => (pss_one (ps_set (i := 1) nd rfl (Or.inl rfl) (pv 2)))))
    (pss_one (ps_ret (pe_and (pe_cmpR op_notN (pv 1) pe_non (nomark _)) (pe_one (pe_cmpR (op_eqDK K hr.units) (pe_fn F__law_word hr (by decide) rfl (pa_cons (pv 1) pa_nil)) (pe_lst (pa_cons pe_str pa_nil)) (nomark _)))))))), ?_⟩
  rintro G vs ds d hv ⟨x, hx, rfl, rfl⟩
  obtain ⟨v0, rfl, h0⟩ := dts1 hv
  intro G1 H1 a1 gh1 D hrt hnx
  -- caught = None; try: Ground(thing)
  refine raw_setC (raw_seq (raw_drop ?_))
  refine make_bad (B := A.BadSheet) (ea_cons (ed_var rfl (same_dt a1 h0)) ea_nil) gh1 TC.layG ⟨rfl, x, hx, rfl⟩ fun G2 H2 e2 => ?_
  refine ⟨true, TC.e_BadSheet, fun _ => ⟨A.BadSheet, rfl, rfl, fun a ha => ?_⟩, fun z => Bool.noConfusion z⟩
  refine ⟨_, rfl, ?_⟩
  -- it is kept
  have e3 : Ext [] G2 H2 (upd G2 a (.ext (excφ a A.BadSheet))) (upd H2 a (.ext (excφ a A.BadSheet))) := Ext.new e2.gh ha
  have he : Dt K (upd G2 a (.ext (excφ a A.BadSheet))) (.ref a) (dExc A.BadSheet) := .exc upd_same
  exact raw_es (R := fun d => d = .bool true) (N := fun _ _ => False) (es_ret (ed_and (b := true) (ed_op (ed_var rfl he) ed_non r2_notN) fun hb => (ED.to (ed_op (ed_fn (ea_cons (ed_var rfl he) ea_nil) ⟨rfl, rfl⟩) (ed_lst (ea_cons ed_str ea_nil)) (r2_eqD (by kernel_rfl) (by kernel_rfl))) (d' := .bool true) (congrArg PyData.bool (by kernel_rfl)))) rfl) e3.gh (fun v d G4 H4 e4 hv hd => hrt v d G4 H4 ((e2.same e3).same e4) hv hd) (fun _ _ _ _ z => z.elim)
end

/-! ### k03: rows that are none -/
theorem cutL_to {α : Type} (l : List α) (k : Nat) : (l.drop (HT.sIx l.length 0 none)).take (HT.sIx l.length l.length (some (k : Int)) - HT.sIx l.length 0 none) = l.take k := by
  rw [HT.sIx_nat, HT.sIx_none]
  simp only [List.drop_zero, Nat.sub_zero]
  by_cases h : k ≤ l.length
  · rw [Nat.min_eq_left h]
  · rw [Nat.min_eq_right (by omega), List.take_of_length_le (Nat.le_refl _), List.take_of_length_le (by omega)]
theorem cutL_from {α : Type} (l : List α) (k : Nat) : (l.drop (HT.sIx l.length 0 (some (k : Int)))).take (HT.sIx l.length l.length none - HT.sIx l.length 0 (some (k : Int))) = l.drop k := by
  rw [HT.sIx_nat, HT.sIx_none]
  by_cases h : k ≤ l.length
  · rw [Nat.min_eq_left h, List.take_of_length_le (by simp)]
  · rw [Nat.min_eq_right (by omega), List.drop_of_length_le (Nat.le_refl _), List.drop_of_length_le (by omega), List.take_nil]
theorem cutT_to (l : List Nat) {i : Int} (k : Nat) (h : i = k) : PyData.str (mkS ((l.drop (HT.sIx l.length 0 none)).take (HT.sIx l.length l.length (some i) - HT.sIx l.length 0 none))) = .str (mkS (l.take k)) := by rw [h, cutL_to]
theorem cutT_from (l : List Nat) {i : Int} (k : Nat) (h : i = k) : PyData.str (mkS ((l.drop (HT.sIx l.length 0 (some i))).take (HT.sIx l.length l.length none - HT.sIx l.length 0 (some i)))) = .str (mkS (l.drop k)) := by rw [h, cutL_from]
theorem cutD_to (l : List PyData) {i : Int} (k : Nat) (h : i = k) : PyData.list (cutD l none (some i)) = .list (l.take k) := by rw [h]; exact congrArg PyData.list (cutL_to l k)
theorem cutD_from (l : List PyData) {i : Int} (k : Nat) (h : i = k) : PyData.list (cutD l (some i) none) = .list (l.drop k) := by rw [h]; exact congrArg PyData.list (cutL_from l k)
theorem dTxts_small {ls : List (List Nat)} (h : okG ls) : ∀ x ∈ dTxts ls, smallD x ∧ isObjD x = false := h.small
theorem rowOk_len {n : Nat} {s l : List Nat} (h : l.length ≠ n) : rowOk n s (.str (mkS l)) = false := by
  show (decide (l.length = n) && _) = false
  rw [decide_eq_false h]
  rfl
theorem badG_one {xs : List PyData} {o : PyData} (hs : ∀ x ∈ xs, smallD x ∧ isObjD x = false) (ho : o ∈ xs) (hr : rowOk xs.length GROUNDS.cps.toList o = false) : badG (.list xs) := by
  refine ⟨hs, ?_⟩
  show (_ && xs.all (rowOk xs.length GROUNDS.cps.toList)) = false
  rw [List.all_eq_false.mpr ⟨o, ho, by rw [hr]; decide⟩, Bool.and_false]
theorem badG_put {ls : List (List Nat)} (h : okG ls) {k : Nat} (hk : k < ls.length) {o : PyData} (h1 : smallD o) (h2 : isObjD o = false) (h3 : rowOk ls.length GROUNDS.cps.toList o = false) : badG (.list ((dTxts ls).take k ++ [o] ++ (dTxts ls).drop (k + 1))) := by
  have hl := dTxts_len ls
  refine badG_one (o := o) (fun x hx => ?_) (by simp) ?_
  · simp only [List.mem_append, List.mem_singleton] at hx
    rcases hx with (hx | hx) | hx
    · exact dTxts_small h x (List.mem_of_mem_take hx)
    · rw [hx]; exact ⟨h1, h2⟩
    · exact dTxts_small h x (List.mem_of_mem_drop hx)
  · rw [show ((dTxts ls).take k ++ [o] ++ (dTxts ls).drop (k + 1)).length = ls.length from by simp only [List.length_append, List.length_take, List.length_drop, hl, List.length_singleton]; omega]
    exact h3
theorem badG_sub {ls : List (List Nat)} (h : okG ls) {xs : List PyData} (hm : ∀ x ∈ xs, x ∈ dTxts ls) (h0 : 0 < xs.length) (hl : xs.length ≠ ls.length) : badG (.list xs) := by
  obtain ⟨o, ho⟩ : ∃ o, o ∈ xs := by
    cases xs with
    | nil => exact absurd h0 (by decide)
    | cons a l => exact ⟨a, by simp⟩
  refine badG_one (o := o) (fun x hx => dTxts_small h x (hm x hx)) ho ?_
  obtain ⟨i, hi, rfl⟩ := mem_at (z := .none) (hm o ho)
  rw [dTxts_len] at hi
  rw [dTxts_getD hi]
  exact rowOk_len (by rw [(h.row hi).1]; exact fun e => hl e.symm)
def Pre_bad (os : List (Option PyData)) : Prop := ∃ ls, okG ls ∧ os = [some (dRows ls), none]
theorem strange : ∀ c ∈ ("T 0gA-,\n" : Str).cps.toList, c ∉ GROUNDS.cps.toList := by decide +kernel
section
variable {P : Program} {w : World} {K : PySem.W.Frag} {mg : Str → Option Value} {base : Heap} {A : Adr}
theorem ok_bad_rows (F : FnIn K mg "_law_bad_rows" s__law_bad_rows) (T : Txt mg) (F__law_take : Has P w K mg base CX0 2 "_law_take" ["_law_state_here", "_law_many"] (sp_take K)) : Has P w K mg base CX0 3 "_law_bad_rows" ["_law_rows", "_law_state_here"] (SFn (stE K) K 4 Pre_bad (fun _ d => badG d)) := by
  refine F.draw sc__law_bad_rows (fun os ⟨_, _, h⟩ => by rw [h]; rfl) (fun _ _ _ _ _ _ us hl => match us, hl with | [_, _], _ => rfl) (fun f cdv A outer s H E hr => ?_)
  have nd := sc__law_bad_rows.nd
  refine ⟨_, (pss_cons (ps_set (i := 2) nd rfl (Or.inr rfl) (pe_fn F__law_take hr (by decide) rfl (pa_cons (pv 1) (pa_cons (pe_callB (call_lenK K) (by rfl) T.b_len (by decide +kernel) (pa_cons (pv 0) pa_nil)) pa_nil))))
    (pss_cons (ps_set (i := 3) nd rfl (Or.inl rfl) (pe_fn F__law_take hr (by decide) rfl (pa_cons (pv 1) (pa_cons (pe_callB (call_lenK K) (by rfl) T.b_len (by decide +kernel) (pa_cons (pv 0) pa_nil)) pa_nil))))
    (pss_cons (ps_set (i := 4) nd rfl (Or.inl rfl) (pe_ix (ix_listK K) (pv 0) (pv 2) (fun _ _ => rfl)))
    (pss_cons (ps_set (i := 5) nd rfl (Or.inl rfl) (pe_ix ix_str pe_str (pe_fn F__law_take hr (by decide) rfl (pa_cons (pv 1) (pa_cons pe_int pa_nil))) (fun _ _ => rfl)))
    (pss_cons (ps_set (i := 6) nd rfl (Or.inl rfl) (pe_lst (pa_cons (pe_slice sl_str (pv 4) (po_some pe_int) po_none) (pa_cons (pe_op op_add_str (pv 4) (pe_slice sl_str (pv 4) po_none (po_some pe_int))) (pa_cons (pe_op op_add_str (pe_op op_add_str (pe_slice sl_str (pv 4) po_none (po_some (pv 3))) (pv 5)) (pe_slice sl_str (pv 4) (po_some (pe_op op_add (pv 3) pe_int)) po_none)) (pa_cons pe_non (pa_cons (pe_callTy (call_listT rfl) (by rfl) T.b_list (by decide +kernel) (pa_cons (pv 4) pa_nil)) (pa_cons pe_str (pa_cons pe_int pa_nil)))))))))
    (pss_cons (ps_setLc (i := 7) (own := [("_law_other", 8)]) (by rfl) nd rfl rfl (sw_true rfl rfl rfl (by decide +kernel)) (pi_listK K (pv 6)) (blkOk_by (own := [("_law_other", 8)]) (N := ["_law_rows", "_law_state_here", "_law_at", "_law_spot", "_law_row", "_law_sign", "_law_one", "_law_some", "_law_other"]) (sc := (defScope s__law_bad_rows)) (by decide +kernel)) (fun _ _ _ _ _ => (pg_name (i := 8) nd rfl (Or.inl rfl))) (fun _ _ _ _ _ => pts_nil) (fun _ _ _ _ _ => (pe_op op_cat (pe_op op_cat (pe_slice (sl_listK K) (pv 0) po_none (po_some (pv 2))) (pe_lst (pa_cons (pv 8) pa_nil))) (pe_slice (sl_listK K) (pv 0) (po_some (pe_op op_add (pv 2) pe_int)) po_none))))
    (pss_cons (ps_set (i := 7) nd rfl (Or.inl rfl) (pe_op op_cat (pv 7) (pe_lst (pa_cons (pe_op op_cat (pe_slice (sl_listK K) (pv 0) po_none (po_some (pv 2))) (pe_slice (sl_listK K) (pv 0) (po_some (pe_op op_add (pv 2) pe_int)) po_none)) (pa_cons (pe_op op_cat (pv 0) (pe_slice (sl_listK K) (pv 0) po_none (po_some pe_int))) (pa_cons (pe_callTy (call_tuple_ofK K) (by rfl) T.b_tuple (by decide +kernel) (pa_cons (pv 0) pa_nil)) (pa_cons (pe_joinK K pe_str (pv 0)) (pa_cons pe_non (pa_cons pe_bl (pa_cons pe_dnewK (pa_cons (pe_lst pa_nil) pa_nil)))))))))))
    (pss_one (ps_ret (pe_ix (ix_listK K) (pe_op op_cat (pv 7) (pe_lst (pa_cons (pe_lst (pa_cons pe_str pa_nil)) (pa_cons (pe_op op_rep (pe_lst (pa_cons (pe_op op_repS pe_str pe_int) pa_nil)) pe_int) pa_nil)))) (pe_fn F__law_take hr (by decide) rfl (pa_cons (pv 1) (pa_cons pe_int pa_nil))) (fun _ _ => rfl))))))))))), ?_⟩
  rintro G p vs os hv ⟨ls, hk, rfl⟩
  obtain ⟨v0, w0, rfl, h0, u0⟩ := dtos_cons hv
  obtain ⟨w1, rfl, u1⟩ := dtos_st u0
  have e := dtos_nil u1
  subst e
  have hs := hk.size
  have hl := dTxts_len ls
  refine ss_set (c1 := 1) (c2 := 3) (ev_take rfl (ed_cb (ea_cons (ed_var rfl h0) ea_nil) cb_lenL) (by rw [hl]; omega) (by rw [hl]; omega)) fun G2 x2 d2 a2 hx2 p2 => ?_
  obtain ⟨at', rfl, t0, t1⟩ := p2
  obtain ⟨at_, rfl⟩ := Int.eq_ofNat_of_zero_le t0
  have t1 : at_ < ls.length := by rw [hl] at t1; omega
  have h02 := same_dt a2 h0
  refine ss_set (c1 := 1) (c2 := 2) (ev_take rfl (ed_cb (ea_cons (ed_var rfl h02) ea_nil) cb_lenL) (by rw [hl]; omega) (by rw [hl]; omega)) fun G3 x3 d3 a3 hx3 p3 => ?_
  obtain ⟨sp', rfl, s0, s1⟩ := p3
  obtain ⟨sp, rfl⟩ := Int.eq_ofNat_of_zero_le s0
  have s1 : sp < ls.length := by rw [hl] at s1; omega
  have h03 := same_dt a3 h02
  have h23 := same_dt a3 hx2
  have hrow := hk.row t1
  refine SS.up (ss_set (c1 := 0) (c2 := 2) (ev_ed (ed_op (ed_var rfl h03) (ed_var rfl h23) (r2_ixL (atI_nat (dTxts_at t1))))) fun G4 x4 d4 a4 hx4 p4 => ?_) (by decide)
  subst p4
  generalize hle : ls.getD at_ [] = l at hx4 hrow
  refine ss_set (c1 := 1) (c2 := 1) (ev_ixS ed_str (by decide +kernel) ((ev_take rfl ed_int (by decide) (by decide)).imp fun d ⟨r, e, r0, r1⟩ => ⟨r, e, r0, by rw [show Str.length "T 0gA-,\n" = 8 from by decide +kernel]; exact r1⟩)) fun G5 x5 d5 a5 hx5 p5 => ?_
  obtain ⟨c, hc, rfl⟩ := p5
  have h05 := same_dt (a4.trans a5) h03
  have h25 := same_dt (a4.trans a5) h23
  have h35 := same_dt (a4.trans a5) hx3
  have h45 := same_dt a5 hx4
  have hl1 : l.length = ls.length := hrow.1
  have hz : l.length ≤ 10000 := by omega
  have szm : ∀ m : List Nat, m.length ≤ 1000 → (mkS m).length ≤ sizeLine := fun m hm => by rw [mkS_len]; exact szn _ hm
  -- one
  refine SS.up (ss_set (c1 := 0) (c2 := 1) (ev_ed (d := .list [.str (mkS (l.drop 1)), .str (mkS (l ++ l.take 1)), .str (mkS (l.take sp ++ [c] ++ l.drop (sp + 1))), .none, .list (l.map fun c => .str (sg c)), .str "", .int 5]) ?one) fun G6 x6 d6 a6 hx6 p6 => ?_) (by decide)
  case one => exact (ed_lst (ea_cons (ED.to (ed_slS (ed_var rfl h45) (eo_some ed_int) eo_none hz) (cutT_from (i := 1) l 1 rfl))
    (ea_cons (ED.to (ed_op (ed_var rfl h45) (ED.to (ed_slS (ed_var rfl h45) eo_none (eo_some ed_int) hz) (cutT_to (i := 1) l 1 rfl)) (r2_addS (by rw [mkS_len, mkS_len, List.length_take]; exact szn _ (by omega)))) (by rw [mkS_app]))
    (ea_cons (ED.to (ed_op (ed_op (ED.to (ed_slS (ed_var rfl h45) eo_none (eo_some (ed_var rfl h35)) hz) (cutT_to l sp rfl)) (ed_var rfl hx5) (r2_addS (by rw [mkS_len, List.length_take]; show _ + 1 ≤ _; exact szn _ (by omega)))) (ED.to (ed_slS (ed_var rfl h45) (eo_some (ed_op (ed_var rfl h35) ed_int r2_i)) eo_none hz) (cutT_from l (sp + 1) (by show (sp : Int) + 1 = ((sp + 1 : Nat) : Int); omega))) (r2_addS (by
      rw [show (mkS (l.take sp) ++ sg c : Str) = mkS (l.take sp ++ [c]) from mkS_app _ _, mkS_len, mkS_len, List.length_append, List.length_take, List.length_drop]
      exact szn _ (by show _ + 1 + _ ≤ _; omega)))) (by rw [show (mkS (l.take sp) ++ sg c : Str) = mkS (l.take sp ++ [c]) from mkS_app _ _, mkS_app]))
    (ea_cons ed_non (ea_cons (ed_cb (ea_cons (ed_var rfl h45) ea_nil) (cb_listT' hz)) (ea_cons ed_str (ea_cons ed_int ea_nil))))))))
  subst p6
  have h06 := same_dt a6 h05
  have h26 := same_dt a6 h25
  generalize hone : [PyData.str (mkS (l.drop 1)), .str (mkS (l ++ l.take 1)), .str (mkS (l.take sp ++ [c] ++ l.drop (sp + 1))), .none, .list (l.map fun c => .str (sg c)), .str "", .int 5] = one at hx6
  have hon : one.length = 7 := by rw [← hone]; rfl
  have hob : ∀ i, i < 7 → badG (.list ((dTxts ls).take at_ ++ [one.getD i .none] ++ (dTxts ls).drop (at_ + 1))) := fun i hi => by
    rw [← hone]
    have sm : ∀ m : List Nat, m.length ≤ 1000 → smallD (.str (mkS m)) := fun m hm => by show (mkS m).length ≤ 10000; rw [mkS_len]; omega
    match i, hi with
    | 0, _ => exact badG_put hk t1 (sm _ (by rw [List.length_drop]; omega)) rfl (rowOk_len (by rw [List.length_drop]; omega))
    | 1, _ => exact badG_put hk t1 (sm _ (by rw [List.length_append, List.length_take]; omega)) rfl (rowOk_len (by rw [List.length_append, List.length_take]; omega))
    | 2, _ =>
      refine badG_put hk t1 (sm _ (by simp only [List.length_append, List.length_take, List.length_drop, List.length_singleton]; omega)) rfl ?_
      show (_ && (l.take sp ++ [c] ++ l.drop (sp + 1)).all fun c => decide (c ∈ GROUNDS.cps.toList)) = false
      rw [List.all_eq_false.mpr ⟨c, by simp, by simpa using strange c hc⟩, Bool.and_false]
    | 3, _ => exact badG_put hk t1 trivial rfl rfl
    | 4, _ => exact badG_put hk t1 trivial rfl rfl
    | 5, _ => exact badG_put hk t1 (sm [] (by decide)) rfl (rowOk_len (l := []) (by show 0 ≠ _; omega))
    | 6, _ => exact badG_put hk t1 trivial rfl rfl
  -- some
  refine SS.up (ss_set (c1 := 0) (c2 := 1) (P := fun d => ∃ S1, d = .list S1 ∧ S1.length = 7 ∧ ∀ x ∈ S1, badG x) (ev_d (ed_lc (p := fun _ => true) (h := fun i => .list ((dTxts ls).take at_ ++ [one.getD i .none] ++ (dTxts ls).drop (at_ + 1))) (ei_list (ed_var rfl hx6)) (by rw [hon]; decide) (fun _ _ => eg_name) (fun i G1 σ2 hi hB => by obtain ⟨x0, hx0, rfl⟩ := hB; rfl) (fun i G1 σ2 hi a1 hB => et_yes) (fun i G7 σ2 hi a7 hB hp => by
      obtain ⟨x0, hx0, rfl⟩ := hB
      have hr0 := same_dt a7 h06
      have hat := same_dt a7 h26
      exact (ed_op (ed_op (ED.to (ed_slL (ed_var rfl hr0) eo_none (eo_some (ed_var rfl hat))) (cutD_to _ at_ rfl)) (ed_lst (ea_cons (ed_var rfl hx0) ea_nil)) (r2_cat (by rw [List.length_take, hl]; show _ + 1 ≤ _; omega))) (ED.to (ed_slL (ed_var rfl hr0) (eo_some (ed_op (ed_var rfl hat) ed_int r2_i)) eo_none) (cutD_from _ (at_ + 1) (by show (at_ : Int) + 1 = ((at_ + 1 : Nat) : Int); omega))) (r2_cat (by rw [List.length_append, List.length_take, List.length_drop, hl]; show _ + 1 + _ ≤ _; omega))))) ⟨_, rfl, ?_, ?_⟩) fun G7 x7 d7 a7 hx7 p7 => ?_) (by decide)
  · unfold outs
    rw [List.filter_eq_self.mpr (by simp), List.length_map, List.length_range, hon]
  · intro x hx
    unfold outs at hx
    rw [List.filter_eq_self.mpr (by simp)] at hx
    obtain ⟨i, hi, rfl⟩ := List.mem_map.mp hx
    rw [List.mem_range, hon] at hi
    exact hob i hi
  obtain ⟨S1, rfl, hS1, hB1⟩ := p7
  have h07 := same_dt a7 h06
  have h27 := same_dt a7 h26
  have hsum : ((ls.map mkS).map (·.length)).sum ≤ 144 := by
    have : ∀ (ks : List (List Nat)) (m : Nat), (∀ k ∈ ks, k.length ≤ m) → ((ks.map mkS).map (·.length)).sum ≤ ks.length * m := fun ks m => by
      induction ks with
      | nil => intro _; simp
      | cons k ks ih =>
        intro hm
        rw [List.map_cons, List.map_cons, List.sum_cons, mkS_len, List.length_cons, Nat.succ_mul]
        have := ih fun k' hk' => hm k' (by simp [hk'])
        have := hm k (by simp)
        omega
    have q := this ls 12 fun k hk' => by
      obtain ⟨i, hi, rfl⟩ := mem_at (z := []) hk'
      rw [(hk.row hi).1]
      omega
    have : ls.length * 12 ≤ 12 * 12 := Nat.mul_le_mul_right 12 hs.2
    omega
  refine SS.up (ss_set (c1 := 0) (c2 := 1) (P := fun d => ∃ S2, d = .list S2 ∧ S2.length = 15 ∧ ∀ x ∈ S2, badG x) (ev_d (ed_op (ed_var rfl hx7) (ed_lst (ea_cons (ed_op (ED.to (ed_slL (ed_var rfl h07) eo_none (eo_some (ed_var rfl h27))) (cutD_to _ at_ rfl)) (ED.to (ed_slL (ed_var rfl h07) (eo_some (ed_op (ed_var rfl h27) ed_int r2_i)) eo_none) (cutD_from _ (at_ + 1) (by show (at_ : Int) + 1 = ((at_ + 1 : Nat) : Int); omega))) (r2_cat (by rw [List.length_take, List.length_drop, hl]; omega)))
      (ea_cons (ed_op (ed_var rfl h07) (ED.to (ed_slL (ed_var rfl h07) eo_none (eo_some ed_int)) (cutD_to (i := 1) _ 1 rfl)) (r2_cat (by rw [List.length_take, hl]; omega)))
      (ea_cons (ed_cb (ea_cons (ed_var rfl h07) ea_nil) cb_tupleL) (ea_cons (ed_m1 ed_str (ed_var rfl h07) (md_join (ys := ls.map mkS) (by
        rw [show Str.length "\n" = 1 from by decide +kernel, List.length_map]
        omega))) (ea_cons ed_non (ea_cons ed_bl (ea_cons ed_dict0 (ea_cons (ed_lst ea_nil) ea_nil))))))))) (r2_cat (by rw [hS1]; show 7 + 8 ≤ 10000; decide))) ⟨_, rfl, by rw [List.length_append, hS1]; rfl, ?_⟩) fun G8 x8 d8 a8 hx8 p8 => ?_) (by decide)
  · intro x hx
    rcases List.mem_append.mp hx with hx | hx
    · exact hB1 x hx
    · simp only [List.mem_cons, List.not_mem_nil, or_false] at hx
      rcases hx with rfl | rfl | rfl | rfl | rfl | rfl | rfl | rfl
      · exact badG_sub hk (fun x hx => (List.mem_append.mp hx).elim (fun h => List.mem_of_mem_take h) fun h => List.mem_of_mem_drop h) (by rw [List.length_append, List.length_take, List.length_drop, hl]; omega) (by rw [List.length_append, List.length_take, List.length_drop, hl]; omega)
      · exact badG_sub hk (fun x hx => (List.mem_append.mp hx).elim id fun h => List.mem_of_mem_take h) (by rw [List.length_append, List.length_take, hl]; omega) (by rw [List.length_append, List.length_take, hl]; omega)
      · exact ⟨rfl, rfl⟩
      · exact ⟨rfl, rfl⟩
      · exact ⟨rfl, rfl⟩
      · exact ⟨rfl, rfl⟩
      · exact ⟨rfl, rfl⟩
      · exact ⟨(fun x hx => nomatch hx), rfl⟩
  obtain ⟨S2, rfl, hS2, hB2⟩ := p8
  -- the choice
  refine SS.up (ss_ret (ev_ixL (c1 := 0) (c2 := 1) (m := 17) (P := badG) (ev_d (ed_op (ed_var rfl hx8) (ed_lst (ea_cons (ed_lst (ea_cons ed_str ea_nil)) (ea_cons (ed_op (ed_lst (ea_cons (ed_op (ED.to (d' := .str (sg 46)) ed_str (congrArg PyData.str (by decide +kernel))) ed_int (r2_repS (by decide) (by decide))) ea_nil)) ed_int (r2_rep (by decide) (by decide) (by decide))) ea_nil))) (r2_cat (by rw [hS2]; show 15 + 2 ≤ 10000; decide))) ⟨_, rfl, by rw [List.length_append, hS2]; rfl, ?_⟩) (ev_take rfl ed_int (by decide) (by decide))) fun d h => h) (by decide)
  intro x hx
  rcases List.mem_append.mp hx with hx | hx
  · exact hB2 x hx
  · simp only [List.mem_cons, List.not_mem_nil, or_false] at hx
    rcases hx with rfl | rfl
    · refine ⟨fun x hx => ?_, rfl⟩
      rw [List.mem_singleton] at hx
      rw [hx]
      exact ⟨by show Str.length "." ≤ 10000; decide +kernel, rfl⟩
    · refine ⟨fun x hx => ?_, by rfl⟩
      obtain ⟨l', hl', hx⟩ := List.mem_flatten.mp hx
      rw [List.eq_of_mem_replicate hl', List.mem_singleton] at hx
      rw [hx]
      refine ⟨?_, rfl⟩
      show (mkS _).length ≤ 10000
      rw [mkS_len, List.length_replicate]
      decide
end

/-! ### the script and what is walked of it -/
section
variable {K : PySem.W.Frag}
theorem cutV_ints (ns : List Int) (lo hi : Option Int) : ∃ ms : List Int, cutV (ns.map V.int) lo hi = ms.map V.int ∧ ms.length ≤ ns.length := by
  refine ⟨(ns.drop (HT.sIx (ns.map V.int).length 0 lo)).take (HT.sIx (ns.map V.int).length (ns.map V.int).length hi - HT.sIx (ns.map V.int).length 0 lo), ?_, ?_⟩
  · unfold cutV
    rw [List.map_take, List.map_drop]
  · rw [List.length_take, List.length_drop]
    omega
/-- the script's first cells and one more -/
theorem ed_script {H : Hp} {σ : L2.St} {a : Addr} {ns : List Int} {c : Int} (hS : SqL K H a (ns.map V.int)) (hlen : ns.length ≤ 63) (h0 : σ[0]? = some (some (.ref a))) :
    ∃ ms : List Int, 0 < ms.length ∧ ms.length ≤ 64 ∧ ED K H (tOp rCat (tSl (rSlL K) (tVar 0) tNoPart (tPart (tC (.int 63)))) (tLst (tCons (tC (.int c)) tNil))) σ (.list (ms.map PyData.int)) := by
  obtain ⟨ms, ems, hms⟩ := cutV_ints ns none (some 63)
  refine ⟨ms ++ [c], by simp, by rw [List.length_append, List.length_singleton]; omega, fun G1 H1 g gh Q q => ?_⟩
  refine ⟨_, h0, _, rfl, _, _, rfl, (g.trans gh).seq hS, fun p1 h1 => ⟨szn 1, fun p2 h2 => ⟨_, _, _, _, rfl, rfl, Eq.trans (upd_ne (ne_of_none upd_same h2)) upd_same, upd_same, ?_, fun p3 h3 => ?_⟩⟩⟩
  · rw [ems, List.length_map]
    exact szn _ (by show ms.length + 1 ≤ 1000; omega)
  · have e1 := Ext.cell (M := []) (o := .lst (cutV (ns.map V.int) none (some 63))) gh h1
    have e2 := Ext.cell (M := []) (o := .lst [.int c]) e1.gh h2
    have e3 := Ext.new (M := []) (o := .lst (cutV (ns.map V.int) none (some 63) ++ [.int c])) e2.gh h3
    refine q _ _ _ ((e1.same e2).same e3) (.lst upd_same ?_)
    rw [ems]
    have z := ints_dts (K := K) (G := upd G1 p3 (.lst (ms.map V.int ++ [.int c]))) (ms ++ [c])
    rw [List.map_append] at z
    exact z
theorem getD_int {ms : List Int} {i : Nat} (h : i < (ms.map PyData.int).length) : ∃ c : Int, (ms.map PyData.int).getD i .none = .int c := by
  rw [List.length_map] at h
  rw [List.getD_eq_getElem?_getD, List.getElem?_map, List.getElem?_eq_getElem h]
  exact ⟨_, rfl⟩
def spLaw (K : PySem.W.Frag) : Sp := fun vs H Q _ => ∃ (a : Addr) (ns : List Int), vs = [.ref a] ∧ SqL K H a (ns.map V.int) ∧ ns.length ≤ 63 ∧ ∀ H', Q (.bl true) H'
end

/-! ### k03: _law_right, law -/
def R_gright (C : Addr) (ds : List PyData) (d : PyData) : Prop := ∃ ls, okG ls ∧ ds = [dLay C ls, dRows ls] ∧ d = .bool true
theorem ground_small : ∀ c ∈ GROUNDS.cps.toList, c < 1114112 := by decide +kernel
theorem sh_rowsG {ls : List (List Nat)} (h : okG ls) : SeqAt.shaped (dRows ls) = true := (sh_list (n := 0) fun x hx => by
  obtain ⟨i, hi, rfl⟩ := mem_at (z := .none) hx
  rw [dTxts_len] at hi
  rw [dTxts_getD hi]
  exact sh_txt fun c hc => ground_small c ((h.row hi).2 c hc)).ok
theorem eqv_rows (ls : List (List Nat)) : PyData.eqv (dRows ls) (dRows ls) = true := by
  have h : PyData.eqv (.list (ls.map fun l => PyData.str (mkS l))) (.list (ls.map fun l => PyData.str (mkS l))) = decide (ls = ls) := eqf_list eqf_txt ls ls
  have e : (ls.map fun l => PyData.str (mkS l)) = dTxts ls := by
    show _ = (ls.map mkS).map PyData.str
    rw [List.map_map]
    rfl
  rw [e] at h
  rw [h]
  exact decide_eq_true rfl
section
variable {P : Program} {w : World} {K : PySem.W.Frag} {mg : Str → Option Value} {base : Heap} {A : Adr}
theorem ok_right (F : FnIn K mg "_law_right" s__law_right) (T : Txt mg) (TC : TxC K mg A) (F__law_whole : Has P w K mg base CX0 1 "_law_whole" ["_law_found"] (PFn K R_whole)) (F__law_edge : Has P w K mg base CX0 1 "_law_edge" ["_law_rows", "_law_way"] (PFn K R_gledge))
    (M_Ground_rows : HasM P w K mg base CX0 1 A.Ground "rows" ["self"] (FFn K (R_rows K))) (M_Ground_size : HasM P w K mg base CX0 1 A.Ground "size" ["self"] (PFn K (R_lsize K))) (M_Ground_sign_at : HasM P w K mg base CX0 1 A.Ground "sign_at" ["self", "row", "column"] (PFn K (R_sign_at K)))
    (M_Ground_edge : HasM P w K mg base CX0 2 A.Ground "edge" ["self", "way"] (PFn K (R_gedge A.Ground))) : Has P w K mg base CX0 3 "_law_right" ["_law_layer", "_law_rows"] (PFn K (R_gright A.Ground)) := by
  refine F.pure sc__law_right (fun ds d ⟨bs, _, h, _⟩ => by rw [h]; rfl) (fun _ _ _ _ _ _ us hl => match us, hl with | [_, _], _ => rfl) (fun f cdv Ar outer s H E hr => ?_)
  have nd := sc__law_right.nd
  refine ⟨_, (pss_cons (ps_set (i := 2) nd rfl (Or.inl rfl) (pe_callB (call_lenK K) (by rfl) T.b_len (by decide +kernel) (pa_cons (pv 1) pa_nil)))
    (pss_cons (ps_set (i := 3) nd rfl (Or.inl rfl) (pe_mth0 (pv 0) TC.o_Ground.cl M_Ground_rows hr (by decide)))
    (pss_cons (ps_if (PW.pt (pw_or (pt_not (pt_val (pe_callB (call_isiK' K) (by rfl) T.b_isinstance (by decide +kernel) (pa_cons (pv 3) (pa_cons (pe_bltn (v := .ty "list") (by rfl) T.b_list (by decide +kernel) rfl) pa_nil))))) (pw_or (pt_cmpR (op_neDK K hr.units) (pv 3) (pv 1) (nomark _)) (pw_or (pt_not (pt_val (pe_fn F__law_whole hr (by decide) rfl (pa_cons (pe_mth0 (pv 0) TC.o_Ground.cl M_Ground_size hr (by decide)) pa_nil)))) (pw_or1 (pt_cmpR op_ne (pe_mth0 (pv 0) TC.o_Ground.cl M_Ground_size hr (by decide)) (pv 2) (nomark _))))))) (pss_one (ps_ret pe_bl)) pss_nil)
    (pss_cons (ps_expr (pe_bmK K PySem.F.plainAttrs_list PySem.F.slot_list_append PySem.F.type_list_append mt_append (pv 3) (pa_cons pe_str pa_nil)))
    (pss_cons (ps_for PassesOwn.never rfl (pi_range1 (by rfl) T.b_range (pa_cons (pv 2) pa_nil)) (pg_name (i := 4) nd rfl (Or.inl rfl))
      (pss_one (ps_for PassesOwn.never rfl (pi_range1 (by rfl) T.b_range (pa_cons (pv 2) pa_nil)) (pg_name (i := 5) nd rfl (Or.inl rfl))
        (pss_one (ps_if (pt_cmpR op_ne (pe_mth (pv 0) TC.o_Ground.cl M_Ground_sign_at hr (by decide) (pa_cons (pv 4) (pa_cons (pv 5) pa_nil))) (pe_ix ix_str (pe_ix (ix_listK K) (pv 1) (pv 4) (fun _ _ => rfl)) (pv 5) (fun _ _ => rfl)) (nomark _)) (pss_one (ps_ret pe_bl)) pss_nil)))))
    (pss_one (ps_ret (pe_callB (cr_allK K rfl) (by rfl) T.b_all (by decide +kernel) (pa_cons (pe_lc (own := [("_law_way", 6)]) (by rfl) nd (pi_str pe_str) (blkOk_by (own := [("_law_way", 6)]) (N := ["_law_layer", "_law_rows", "_law_size_here", "_law_told", "_law_row", "_law_column", "_law_way"]) (sc := (defScope s__law_right)) (by decide +kernel)) (fun _ _ _ _ _ => (pg_name (i := 6) nd rfl (Or.inl rfl))) (fun _ _ _ _ _ => pts_nil) (fun _ _ _ _ _ => (pe_cmpR op_eq (pe_mth (pv 0) TC.o_Ground.cl M_Ground_edge hr (by decide) (pa_cons (pv 6) pa_nil)) (pe_fn F__law_edge hr (by decide) rfl (pa_cons (pv 1) (pa_cons (pv 6) pa_nil))) (nomark _)))) pa_nil))))))))), ?_⟩
  rintro G vs ds d hv ⟨ls, hk, rfl, rfl⟩
  obtain ⟨v0, v1, rfl, h0, h1⟩ := dts2 hv
  have hs := hk.size
  have hls := hk.ls
  have en : ((ls.length : Nat) : Int).toNat = ls.length := by simp
  refine es_set (ED.to (ed_cb (ea_cons (ed_var rfl h1) ea_nil) cb_lenL) (congrArg (fun n : Nat => PyData.int (n : Int)) (dTxts_len ls))) fun G1 x1 a1 hx1 => ?_
  have e1 := dt_int hx1
  subst e1
  have h01 := same_dt a1 h0
  have h11 := same_dt a1 h1
  intro G2 H2 a2 gh2 D hrt hnx
  have h02 := same_dt a2 h01
  have h12 := same_dt a2 h11
  refine raw_setF (ef_mth (ed_var rfl h02) (look_no (by decide +kernel)) ea_nil ⟨A.Ground, ls, TC.layG, rfl, rfl⟩) gh2 fun v G3 H3 e3 hv3 => ?_
  have hv3' : Dt K G3 v (dRows ls) := same_dt news_le hv3
  have h03 := same_dt e3.gg h02
  have h13 := same_dt e3.gg h12
  have hsize : ∀ {G' : Hp} {σ : L2.St}, Same G3 G' → σ[0]? = some (some v0) → ED K G' (tMeth A.Ground "size" (PFn K (R_lsize K)) [] E0 (tVar 0) tNil) σ (.int (ls.length : Nat)) := fun a e => ed_mth (ed_var e (same_dt a h03)) (look_no (by decide +kernel)) ea_nil ⟨A.Ground, ls, TC.layG, rfl, rfl⟩
  refine raw_no (ET.to (et_or (et_not (b := true) (et_B (ed_isi (ed_var rfl hv3') (by kernel_rfl)))) fun hb => (et_or (b := false) (et_test (ED.to (ed_op (ed_var rfl hv3') (ed_var rfl h13) (r2_neD (sh_rowsG hk) (sh_rowsG hk))) (congrArg PyData.bool (by rw [eqv_rows]; rfl)))) fun hb => (et_or (et_not (b := true) (et_B (ed_fn (ea_cons (hsize (Same.refl G3) rfl) ea_nil) ⟨_, rfl, rfl, rfl⟩))) fun hb => (et_test (ED.to (ed_op (hsize (Same.refl G3) rfl) (ed_var rfl (.int _)) r2_neI) (d' := .bool false) (congrArg PyData.bool (by rw [decide_eq_true rfl]; rfl))))))) rfl) e3.gh rfl fun G4 H4 e4 => ?_
  cases hv3 with
  | @lst l xs _ hl hs3 =>
  obtain ⟨nl, gl⟩ := news_of hl
  have e24 := e3.same e4
  have hl4 : H4 l = some (.lst xs) := e4.gh _ _ (e4.gg _ _ gl)
  have hxs : xs.length < 100000 := by rw [dts_len hs3, dTxts_len]; omega
  refine ⟨_, rfl, .inl ⟨rfl, xs, SqL.of hl4⟩, l, xs, _, rfl, rfl, hl4, sz_list hxs, ?_⟩
  have e5 : Ext [] G2 H2 (hide l G4) (upd H4 l (.lst (xs ++ [.str "more"]))) := e24.forget gh2 nl hl4
  have h05 := same_dt e5.gg h02
  have h15 := same_dt e5.gg h12
  refine raw_es (R := fun d => d = .bool true) (N := fun _ _ => False) (es_seq (M := fun G' σ' => ∃ x4 x5, σ' = [some v0, some v1, some (.int (ls.length : Nat)), some (.ref l), x4, x5, none]) (es_for (ei_range1 (ea_cons (ed_var rfl (.int _)) ea_nil) (by omega) (by omega)) (fun i G' σ' => ∃ x4 x5, σ' = [some v0, some v1, some (.int (ls.length : Nat)), some (.ref l), x4, x5, none])
    (fun G1 a => ⟨_, _, rfl⟩) (fun i G1 G2 σ1 a h => h) (fun _ _ _ _ _ _ => eg_name) ?_ (fun G1 σ1 a h => h)) ?_) e5.gh (fun v d G6 H6 e6 hv hd => hrt v d G6 H6 (e5.same e6) hv hd) (fun _ _ _ _ z => z.elim)
  · rintro r G6 σ1 σ2 hr a6 ⟨x4, x5, rfl⟩ ⟨y, hy, rfl⟩
    rw [en] at hr
    have ey := dt_int hy
    subst ey
    refine es_for (ei_range1 (ea_cons (ed_var rfl (.int _)) ea_nil) (by omega) (by omega)) (fun i G' σ' => ∃ x5, σ' = [some v0, some v1, some (.int (ls.length : Nat)), some (.ref l), some (.int r), x5, none])
      (fun G1 a => ⟨_, rfl⟩) (fun i G1 G2 σ1 a h => h) (fun _ _ _ _ _ _ => eg_name) ?_ (fun G1 σ1 a ⟨x5, h⟩ => ⟨_, _, h⟩)
    rintro c G7 σ3 σ4 hc a7 ⟨x5, rfl⟩ ⟨z, hz, rfl⟩
    rw [en] at hc
    have ez := dt_int hz
    subst ez
    have a57 := a6.trans a7
    have hrow := hk.row hr
    have hcl : c < (ls.getD r []).length := by rw [hrow.1]; exact hc
    have hzz := okLs_at hls hr
    exact es_if (b := false) (et_test (ED.to (ed_op (ed_mth (ed_var rfl (same_dt a57 h05)) (look_no (by decide +kernel)) (ea_cons (ed_var rfl (.int _)) (ea_cons (ed_var rfl (.int _)) ea_nil)) ⟨A.Ground, ls, r, c, TC.layG, hls, rfl, hr, hcl, rfl⟩) (ed_op (ed_op (ed_var rfl (same_dt a57 h15)) (ed_var rfl (.int _)) (r2_ixL (atI_nat (dTxts_at hr)))) (ed_var rfl (.int _)) (r2_ixS (by rw [mkS_len]; exact szn _ (by omega)) (atI_getD (z := 0) hcl))) r2_neS) (congrArg PyData.bool (by rw [mkS_list, decide_eq_true rfl]; rfl)))) (fun hb => Bool.noConfusion hb) (fun hb => es_next fun G10 a10 => ⟨_, rfl⟩)
  · rintro G6 σ1 a6 ⟨x4, x5, rfl⟩
    refine es_ret (ed_cb (ea_cons (ED.to (ed_lc (p := fun _ => true) (h := fun _ => .bool true) (ei_str ed_str) (by decide +kernel) (fun _ _ => eg_name) (fun i G1 σ2 hi hB => by obtain ⟨x0, hx0, rfl⟩ := hB; rfl) (fun i G1 σ2 hi a1 hB => et_yes) (fun i G7 σ2 hi a7 hB hp => by
      obtain ⟨x0, hx0, rfl⟩ := hB
      have hi4 : i < 4 := hi
      have ew := ways_at ⟨i, hi4⟩
      have hx0' : Dt K G7 x0 (.str (wy ⟨i, hi4⟩)) := by
        have : WAYS.cps.getD i 0 = wc ⟨i, hi4⟩ := ew
        unfold wy
        rw [← this]
        exact hx0
      exact (ED.to (ed_op (ed_mth (ed_var rfl (same_dt (a6.trans a7) h05)) (look_no (by decide +kernel)) (ea_cons (ed_var rfl hx0') ea_nil) ⟨ls, ⟨i, hi4⟩, hls, rfl, rfl⟩) (ed_fn (ea_cons (ed_var rfl (same_dt (a6.trans a7) h15)) (ea_cons (ed_var rfl hx0') ea_nil)) ⟨ls, ⟨i, hi4⟩, hls, rfl, rfl⟩) r2_eqS) (congrArg PyData.bool (decide_eq_true rfl))))) (congrArg PyData.list (all_outs (f := fun _ => true)))) ea_nil) cb_all) ?_
    show PyData.bool (((List.range ("nesw" : Str).cps.size).map fun _ => true).all id) = PyData.bool true
    exact congrArg PyData.bool (by rw [List.all_map]; simp)
end

/-! ### k03: law -/
section
variable {P : Program} {w : World} {K : PySem.W.Frag} {mg : Str → Option Value} {base : Heap} {A : Adr}
theorem ok_law {fa : Addr} {fd : FuncData} (F : Fun K "law" "law" s_law fa fd) (T : Txt mg) (TC : TxC K mg A) (F__law_state : Has P w K mg base CX0 1 "_law_state" ["_law_cells", "_law_k"] sp_state) (F__law_size : Has P w K mg base CX0 3 "_law_size" ["_law_state_here"] (SFn (stE K) K 3 Pre1 (fun _ d => isSz d))) (F__law_ground : Has P w K mg base CX0 3 "_law_ground" ["_law_state_here", "_law_size_here"] (SFn (stE K) K 146 Pre_ground R_ground))
    (N_Ground : HasI P w K mg base (L2.CX P w) 4 "Ground" A.Ground ["self", "rows"] (IXFn K (LayC K) R_ginit (Bad_ginit A.BadSheet))) (F__law_right : Has P w K mg base CX0 3 "_law_right" ["_law_layer", "_law_rows"] (PFn K (R_gright A.Ground))) (M_Ground_clash : HasM P w K mg base CX0 1 A.Ground "clash" ["self", "other", "way"] (FFn K R_clash))
    (F__law_bad_rows : Has P w K mg base CX0 3 "_law_bad_rows" ["_law_rows", "_law_state_here"] (SFn (stE K) K 4 Pre_bad (fun _ d => badG d))) (F__law_refused : Has P w K mg base CX0 6 "_law_refused" ["_law_thing"] (PFn K R_refused)) : FnOk P w K mg base CX0 7 fa fd ["_law_script"] (spLaw K) := by
  refine F.ok sc_law (fun vs H Q E h => ?_) (fun cdv Ar outer s H vs Q E hr h => ?_)
  · obtain ⟨a, ns, rfl, _⟩ := h
    rfl
  · obtain ⟨a, ns, rfl, hS, hlen, k⟩ := h
    have nd := sc_law.nd
    refine ⟨_, (pss_cons (ps_set (i := 1) nd rfl (Or.inl rfl) (pe_op op_cat (pe_slice (sl_listK K) (pv 0) po_none (po_some pe_int)) (pe_lst (pa_cons pe_int pa_nil))))
    (pss_cons (ps_for PassesOwn.never rfl (pi_range1 (by rfl) T.b_range (pa_cons (pe_callB (call_min2 rfl) (by rfl) T.b_min (by decide +kernel) (pa_cons pe_int (pa_cons (pe_callB (call_lenK K) (by rfl) T.b_len (by decide +kernel) (pa_cons (pv 1) pa_nil)) pa_nil))) pa_nil)) (pg_name (i := 2) nd rfl (Or.inl rfl))
      (pss_cons (ps_set (i := 3) nd rfl (Or.inl rfl) (pe_fn F__law_state hr (by decide) rfl (pa_cons (pe_slice (sl_listK K) (pv 1) (po_some (pv 2)) po_none) (pa_cons (pv 2) pa_nil))))
      (pss_cons (ps_set (i := 4) nd rfl (Or.inl rfl) (pe_fn F__law_size hr (by decide) rfl (pa_cons (pv 3) pa_nil)))
      (pss_cons (ps_set (i := 5) nd rfl (Or.inl rfl) (pe_fn F__law_ground hr (by decide) rfl (pa_cons (pv 3) (pa_cons (pv 4) pa_nil))))
      (pss_cons (ps_set (i := 6) nd rfl (Or.inl rfl) (pe_callTy (call_list_ofK K) (by rfl) T.b_list (by decide +kernel) (pa_cons (pv 5) pa_nil)))
      (pss_cons (ps_set (i := 7) nd rfl (Or.inl rfl) (pe_newX N_Ground hr (by decide) rfl passE (pa_cons (pv 6) pa_nil)))
      (pss_cons (ps_expr (pe_bm0K K PySem.F.plainAttrs_list PySem.F.slot_list_pop PySem.F.type_list_pop mt_pop (pv 6)))
      (pss_cons (ps_set (i := 8) nd rfl (Or.inl rfl) (pe_newX N_Ground hr (by decide) rfl passE (pa_cons (pe_fn F__law_ground hr (by decide) rfl (pa_cons (pv 3) (pa_cons (pv 4) pa_nil))) pa_nil)))
      (pss_cons (ps_if (PW.pt (pw_or (pt_not (pt_val (pe_callB (call_isiK' K) (by rfl) T.b_isinstance (by decide +kernel) (pa_cons (pv 7) (pa_cons (pe_gl rfl TC.g_Layer) pa_nil))))) (pw_or (pt_not (pt_val (pe_fn F__law_right hr (by decide) rfl (pa_cons (pv 7) (pa_cons (pv 5) pa_nil))))) (pw_or1 (pt_not (pt_val (pe_fn F__law_right hr (by decide) rfl (pa_cons (pv 7) (pa_cons (pv 5) pa_nil))))))))) (pss_one (ps_ret pe_bl)) pss_nil)
      (pss_cons (ps_for PassesOwn.never rfl (pi_str pe_str) (pg_name (i := 9) nd rfl (Or.inl rfl))
        (pss_cons (ps_set (i := 10) nd rfl (Or.inl rfl) (pe_mth (pv 7) TC.o_Ground.cl M_Ground_clash hr (by decide) (pa_cons (pv 8) (pa_cons (pv 9) pa_nil))))
        (pss_cons (ps_if (PW.pt (pw_or (pt_not (pt_val (pe_callB (call_isiK' K) (by rfl) T.b_isinstance (by decide +kernel) (pa_cons (pv 10) (pa_cons (pe_bltn (v := .ty "list") (by rfl) T.b_list (by decide +kernel) rfl) pa_nil))))) (pw_or1 (pt_cmpR (op_neDK K hr.units) (pv 10) (pe_lst pa_nil) (nomark _))))) (pss_one (ps_ret pe_bl)) pss_nil)
        (pss_one (ps_expr (pe_bmK K PySem.F.plainAttrs_list PySem.F.slot_list_append PySem.F.type_list_append mt_append (pv 10) (pa_cons pe_int pa_nil)))))))
      (pss_one (ps_if (PW.pt (pw_or (pt_cmpR (op_neDK K hr.units) (pe_mth (pv 7) TC.o_Ground.cl M_Ground_clash hr (by decide) (pa_cons (pv 8) (pa_cons pe_str pa_nil))) (pe_lst pa_nil) (nomark _)) (pw_or1 (pt_not (pt_val (pe_fn F__law_refused hr (by decide) rfl (pa_cons (pe_fn F__law_bad_rows hr (by decide) rfl (pa_cons (pv 5) (pa_cons (pv 3) pa_nil))) pa_nil))))))) (pss_one (ps_ret pe_bl)) pss_nil))))))))))))
    (pss_one (ps_ret pe_bl)))), ?_⟩
    obtain ⟨ms, hm0, hm1, hed⟩ := ed_script (K := K) (σ := L2.start ["_law_script", "_law_cells", "_law_k", "_law_state_here", "_law_size_here", "_law_rows", "_law_handed", "_law_layer", "_law_other", "_law_way", "_law_found"] [V.ref a]) (c := 6) hS hlen rfl
    refine raw_set hed (Same.refl H) fun v1 G1 H1 e1 hv1 => ?_
    have hmn : ∀ {n : Nat}, (if (((ms.map PyData.int).length : Nat) : Int) < 24 then (((ms.map PyData.int).length : Nat) : Int) else 24).toNat = n → n ≤ ms.length ∧ n ≤ 24 := fun {n} h => by
      rw [List.length_map] at h
      split at h <;> omega
    refine for_imp (ei_range1 (ea_cons (ed_cb (ea_cons ed_int (ea_cons (ed_cb (ea_cons (ed_var rfl hv1) ea_nil) cb_lenL) ea_nil)) cb_min2) ea_nil) (by split <;> omega) (by split <;> omega)) (Same.refl G1) e1.gh (fun i G' H' σ' => ∃ x2 x3 x4 x5 x6 x7 x8 x9 x10, σ' = [some (.ref a), some v1, x2, x3, x4, x5, x6, x7, x8, x9, x10]) (fun G1 H1 e => ⟨_, _, _, _, _, _, _, _, _, rfl⟩) ?_ ?_
    · rintro i G2 H2 σ2 x G3 H3 hi ⟨x2, x3, x4, x5, x6, x7, x8, x9, x10, rfl⟩ g2 e3 hx
      obtain ⟨hn1, hn2⟩ := hmn rfl
      have ex := dt_int hx
      subst ex
      have hv3 : Dt K G3 v1 (.list (ms.map PyData.int)) := same_dt (g2.trans e3.gg) hv1
      refine raw_state (ns := ms.drop i) (k := (i : Nat)) (ea_cons (ED.to (ed_slL (ed_var rfl hv3) (eo_some (ed_var rfl (.int _))) eo_none) (congrArg PyData.list (by rw [cut_from (by rw [List.length_map]; omega), List.map_drop]))) (ea_cons (ed_var rfl (.int _)) ea_nil)) e3.gh (by rw [List.length_drop]; omega) (by omega) (by omega) fun p G4 H4 e4 st => ?_
      -- size, rows
      refine raw_setV (ε := stE K p) (c := 3) (P := isSz) (EV.up (ev_sfn (ef := stE K) (ao_st rfl ao_nil) fun os ⟨_, q1, q2⟩ => by subst q1 q2; exact ⟨rfl, fun d h => h⟩) (by decide)) e4.gh st (by decide) fun v5 d5 G5 H5 e5 st5 hv5 hp5 => ?_
      obtain ⟨n', rfl, n0, n1⟩ := hp5
      obtain ⟨n, rfl⟩ := Int.eq_ofNat_of_zero_le (show 0 ≤ n' by omega)
      have grd : ∀ {G' : Hp} {σ : L2.St}, Same G5 G' → σ[3]? = some (some (.ref p)) → σ[4]? = some (some v5) → EV (stE K p) K 146 G' (tCall (SFn (stE K) K 146 Pre_ground R_ground) [] E0 (tCons (tVar 3) (tCons (tVar 4) tNil))) σ (fun d => ∃ ls, okG ls ∧ d = dRows ls) := fun {G' σ} a h3 h4 =>
        EV.up (ev_sfn (ef := stE K) (ao_st h3 (ao_cons (ev_ed (ed_var h4 (same_dt a hv5))) ao_nil)) fun os ⟨_, q1, d, _, q2, q3, q4⟩ => by
          subst q1 q2 q3 q4
          exact ⟨⟨n, rfl, by omega, by omega⟩, fun d ⟨ls, hk, _, hd⟩ => ⟨ls, hk, hd⟩⟩) (by decide)
      refine raw_setV (ε := stE K p) (grd (Same.refl G5) rfl rfl) e5.gh st5 (by decide) fun v6 d6 G6 H6 e6 st6 hv6 hp6 => ?_
      obtain ⟨ls, hk, rfl⟩ := hp6
      -- handed, layer, handed.pop()
      refine raw_setF (ef_listS (ss := ls.map mkS) (ed_var rfl hv6)) e6.gh fun v7 G7 H7 e7 hv7 => ?_
      have hv7' : Dt K G7 v7 (dRows ls) := same_dt news_le hv7
      have st7 := (stE K p).stay st6 e7
      cases hv7 with
      | @lst l xs _ hl hs7 =>
      obtain ⟨nl, gl⟩ := news_of hl
      refine raw_setF (ef_makeX (ea_cons (ed_var rfl hv7') ea_nil) TC.layG ⟨ls, hk, rfl, rfl⟩) e7.gh fun v8 G8 H8 e8 hv8 => ?_
      have hl7 : H7 l = some (.lst xs) := e7.gh _ _ gl
      have hl8 : H8 l = some (.lst xs) := e8.keep hl7 (by simp)
      have hs := hk.size
      have hxl : xs.length = ls.length := by rw [dts_len hs7, dTxts_len]
      obtain ⟨y, hy⟩ : ∃ y, xs[xs.length - 1]? = some y := ⟨_, List.getElem?_eq_getElem (by omega)⟩
      refine ⟨_, rfl, .inl ⟨rfl, xs, SqL.of hl8⟩, l, xs, y, rfl, rfl, hl8, hy, ?_⟩
      have e68 := e7.same e8
      have e9 : Ext [] G6 H6 (hide l G8) (upd H8 l (.lst xs.dropLast)) := e68.forget e6.gh nl hl8
      have hv9 : Dt K (hide l G8) v8 (dLay A.Ground ls) := same_dt (news_hide hl7) hv8
      have hr9 := same_dt e9.gg hv6
      have st9 := (stE K p).stay st6 e9
      -- other
      have a59 : Same G5 (hide l G8) := e6.gg.trans e9.gg
      dsimp only
      refine raw_setV (ε := stE K p) (c := 146) (P := fun d => ∃ ls, d = dLay A.Ground ls) (ev_makeX (av_cons (grd a59 rfl rfl) av_nil) TC.layG fun ds ⟨d, ds', q1, ⟨lo, hlo, q2⟩, q3⟩ => by
        subst q1 q2 q3
        exact ⟨_, ⟨lo, hlo, rfl, rfl⟩, lo, rfl⟩) e9.gh st9 (by decide) fun v10 d10 G10 H10 e10 st10 hv10 hp10 => ?_
      obtain ⟨lo, rfl⟩ := hp10
      have hv11 := same_dt e10.gg hv9
      have hr11 := same_dt e10.gg hr9
      refine raw_no (ET.to (et_or (et_not (b := true) (et_B (ed_isiO (ed_var rfl hv11) TC.o_Ground TC.s_Ground_Layer))) fun hb => (et_or (et_not (b := true) (et_B (ed_fn (ea_cons (ed_var rfl hv11) (ea_cons (ed_var rfl hr11) ea_nil)) ⟨ls, hk, rfl, rfl⟩))) fun hb => (et_not (b := true) (et_B (ed_fn (ea_cons (ed_var rfl hv11) (ea_cons (ed_var rfl hr11) ea_nil)) ⟨ls, hk, rfl, rfl⟩))))) rfl) e10.gh rfl fun G11 H11 e11 => ?_
      have st11 := (stE K p).stay st10 e11
      -- the ways
      refine raw_seq (for_imp (K := K) (ei_str ed_str) (Same.refl G11) e11.gh (fun j G' H' σ' => (stE K p).I 295 G' H' ∧ ∃ x9 x10, σ' = [some (.ref a), some v1, some (.int (i : Nat)), some (.ref p), some v5, some v6, some (.ref l), some v8, some v10, x9, x10]) (fun G' H' e => ⟨(stE K p).up (by decide) ((stE K p).stay st11 e), _, _, rfl⟩) ?_ ?_)
      · rintro j G12 H12 σ12 z G13 H13 hj ⟨st12, x9, x10, rfl⟩ g12 e13 hz
        have g113 := (e11.gg.trans g12).trans e13.gg
        have hv13 := same_dt g113 hv11
        have ho13 := same_dt g113 hv10
        refine raw_setF (ef_mth (ed_var rfl hv13) (look_no (by decide +kernel)) (ea_cons (ed_var rfl ho13) (ea_cons (ed_var rfl hz) ea_nil)) ⟨rfl, rfl⟩) e13.gh fun v14 G14 H14 e14 hv14 => ?_
        have hv14' : Dt K G14 v14 (.list []) := same_dt news_le hv14
        refine raw_no (ET.to (et_or (et_not (b := true) (et_B (ed_isi (ed_var rfl hv14') (by kernel_rfl)))) fun hb => (et_test (ED.to (ed_op (ed_var rfl hv14') (ed_lst ea_nil) (r2_neD (by kernel_rfl) (by kernel_rfl))) (d' := .bool false) (congrArg PyData.bool (by kernel_rfl))))) rfl) e14.gh rfl fun G15 H15 e15 => ?_
        cases hv14 with
        | @lst l' xs' _ hl' hs14 =>
        obtain ⟨nl', gl'⟩ := news_of hl'
        have hl15 : H15 l' = some (.lst xs') := e15.gh _ _ (e15.gg _ _ gl')
        cases hs14
        refine ⟨_, rfl, .inl ⟨rfl, [], SqL.of hl15⟩, l', [], _, rfl, rfl, hl15, szt 0, ?_⟩
        have e16 : Ext [] G13 H13 (hide l' G15) (upd H15 l' (.lst ([] ++ [.int 1]))) := (e14.same e15).forget e13.gh nl' hl15
        exact ⟨_, e13.gg.trans e16.gg, e16.gh, (stE K p).stay ((stE K p).stay st12 e13) e16, _, _, rfl⟩
      · rintro G12 H12 σ12 g12 gh12 ⟨st12, x9, x10, rfl⟩
        have g112 := e11.gg.trans g12
        have hv12 := same_dt g112 hv11
        have ho12 := same_dt g112 hv10
        have hr12 := same_dt g112 hr11
        -- clash tells [], the bad rows are refused
        refine raw_orNo (K := K) (et_test (ED.to (ed_op (ef_mth (ed_var rfl hv12) (look_no (by decide +kernel)) (ea_cons (ed_var rfl ho12) (ea_cons ed_str ea_nil)) ⟨rfl, rfl⟩).ed (ed_lst ea_nil) (r2_neD (by kernel_rfl) (by kernel_rfl))) (d' := .bool false) (congrArg PyData.bool (by kernel_rfl)))) gh12 rfl fun G13 H13 e13 => ?_
        have hr13 := same_dt e13.gg hr12
        refine raw_noV (ε := stE K p) (c := 4) (tv_not (tv_B (ev_fn (av_cons (P := badG) (EV.up (ev_sfn (ef := stE K) (c1 := 0) (P := badG) (ao_cons (ev_ed (ed_var rfl hr13)) (ao_st rfl ao_nil)) fun os ⟨d, _, q1, q2, _, q3, q4⟩ => by
          subst q1 q2 q3 q4
          exact ⟨⟨ls, hk, rfl⟩, fun d h => h⟩) (by decide)) av_nil) fun ds ⟨d, ds', q1, q2, q3⟩ => by
            subst q1 q3
            exact ⟨_, ⟨d, q2, rfl, rfl⟩, true, rfl, rfl⟩))) e13.gh ((stE K p).stay st12 e13) (by decide) fun G14 H14 e14 _ => ?_
        exact ⟨G14, ((e3.gg.trans e4.gg).trans (e5.gg.trans e6.gg)).trans (((e9.gg.trans e10.gg).trans g112).trans (e13.gg.trans e14.gg)), e14.gh, _, _, _, _, _, _, _, _, _, rfl⟩
    · rintro G2 H2 σ2 g2 gh2 ⟨x2, x3, x4, x5, x6, x7, x8, x9, x10, rfl⟩
      exact k H2
end

theorem all_mk {l : PySem.W.OpenLaw} {w : World} {K : PySem.W.Frag} {h : Heap} {mg : Str → Option Value} {fa : Addr} {c_Layer c_Ground c_MapError c_BadSheet c_BadPlace c_BadCell c_BadWindow c_NoSheet c_NoWay c_NoName c_TooMany c_BadLine c_BadText : Addr} {u_GROUNDS u_LEAST_SIZE u_MOST_SIZE : Value} (X : K.In h) (G : h.Ns mainGlobals mg) (hfa : mg "law" = some (.ref fa))
    (gc_Layer : PySem.W.nsIn K mainGlobals "Layer" = some (some (.ref c_Layer)))
    (pg_Layer : PySem.W.plainGet K c_Layer Str.empty = true)
    (hd_Layer : PySem.W.hasDictIn K c_Layer = true)
    (po_Layer : PySem.W.plainOver K c_Layer = true)
    (sa_Layer : PySem.W.findIn K (.ref c_Layer) "__setattr__" = some (some (.builtin "object.__setattr__")))
    (ha_Layer : PySem.W.findIn K (.ref c_Layer) "__class__" = some (some (.builtin "object.__class__")))
    (hn_Layer : PySem.W.specialIn K (.builtin "object.__class__") "__get__" = some (some (.builtin "getset_descriptor.__get__")))
    (tk_Layer : PySem.W.takesIn K (.builtin "object.__class__") = some true)
    (hm_Layer : PySem.W.mroIn K c_Layer (.type "object") = some true)
    (na_Layer_lines : PySem.W.findIn K (.ref c_Layer) "lines" = some none)
    (gc_Ground : PySem.W.nsIn K mainGlobals "Ground" = some (some (.ref c_Ground)))
    (pg_Ground : PySem.W.plainGet K c_Ground Str.empty = true)
    (hd_Ground : PySem.W.hasDictIn K c_Ground = true)
    (po_Ground : PySem.W.plainOver K c_Ground = true)
    (sa_Ground : PySem.W.findIn K (.ref c_Ground) "__setattr__" = some (some (.builtin "object.__setattr__")))
    (ha_Ground : PySem.W.findIn K (.ref c_Ground) "__class__" = some (some (.builtin "object.__class__")))
    (hn_Ground : PySem.W.specialIn K (.builtin "object.__class__") "__get__" = some (some (.builtin "getset_descriptor.__get__")))
    (tk_Ground : PySem.W.takesIn K (.builtin "object.__class__") = some true)
    (hm_Ground : PySem.W.mroIn K c_Ground (.type "object") = some true)
    (na_Ground_lines : PySem.W.findIn K (.ref c_Ground) "lines" = some none)
    (ko_Layer_Layer : PySem.W.kitOne K (.ref c_Layer) (.ref c_Layer) = some true)
    (ko_Layer_Ground : PySem.W.kitOne K (.ref c_Layer) (.ref c_Ground) = some false)
    (ko_Ground_Layer : PySem.W.kitOne K (.ref c_Ground) (.ref c_Layer) = some true)
    (ko_Ground_Ground : PySem.W.kitOne K (.ref c_Ground) (.ref c_Ground) = some true)
    (gc_MapError : PySem.W.nsIn K mainGlobals "MapError" = some (some (.ref c_MapError)))
    (gc_BadSheet : PySem.W.nsIn K mainGlobals "BadSheet" = some (some (.ref c_BadSheet)))
    (gc_BadPlace : PySem.W.nsIn K mainGlobals "BadPlace" = some (some (.ref c_BadPlace)))
    (gc_BadCell : PySem.W.nsIn K mainGlobals "BadCell" = some (some (.ref c_BadCell)))
    (gc_BadWindow : PySem.W.nsIn K mainGlobals "BadWindow" = some (some (.ref c_BadWindow)))
    (gc_NoSheet : PySem.W.nsIn K mainGlobals "NoSheet" = some (some (.ref c_NoSheet)))
    (gc_NoWay : PySem.W.nsIn K mainGlobals "NoWay" = some (some (.ref c_NoWay)))
    (gc_NoName : PySem.W.nsIn K mainGlobals "NoName" = some (some (.ref c_NoName)))
    (gc_TooMany : PySem.W.nsIn K mainGlobals "TooMany" = some (some (.ref c_TooMany)))
    (gc_BadLine : PySem.W.nsIn K mainGlobals "BadLine" = some (some (.ref c_BadLine)))
    (gc_BadText : PySem.W.nsIn K mainGlobals "BadText" = some (some (.ref c_BadText)))
    (xn : PySem.W.specialIn K (.builtin "object.__class__") "__get__" = some (some (.builtin "getset_descriptor.__get__")))
    (xk : PySem.W.takesIn K (.builtin "object.__class__") = some true)
    (xb : PySem.W.subIn K (.ref c_MapError) (.type "BaseException") = some true)
    (xd : PySem.W.hasDictIn K c_MapError = true)
    (xt : PySem.W.typeIn K (.ref c_MapError) = some (.type "type"))
    (xq_BadSheet : PySem.W.excIn K c_BadSheet [.type "ValueError", .type "Exception", .type "BaseException", .type "object"] "ValueError.__new__" = true)
    (xkp_BadSheet : PySem.W.keepIn K (.ref c_BadSheet) = true)
    (xb_BadSheet : PySem.W.subIn K (.ref c_BadSheet) (.type "BaseException") = some true)
    (xt_BadSheet : PySem.W.typeIn K (.ref c_BadSheet) = some (.type "type"))
    (xhg_BadSheet : PySem.W.findIn K (.ref c_BadSheet) "__getattribute__" = some (some (.builtin "BaseException.__getattribute__")))
    (xhk_BadSheet : PySem.W.findIn K (.ref c_BadSheet) "__getattr__" = some none)
    (xhd_BadSheet : PySem.W.hasDictIn K c_BadSheet = true)
    (xha_BadSheet : PySem.W.findIn K (.ref c_BadSheet) "__class__" = some (some (.builtin "object.__class__")))
    (xhm_BadSheet : PySem.W.mroIn K c_BadSheet (.type "object") = some true)
    (ko_BadSheet_MapError : PySem.W.kitOne K (.ref c_BadSheet) (.ref c_MapError) = some true)
    (ko_BadSheet_BadSheet : PySem.W.kitOne K (.ref c_BadSheet) (.ref c_BadSheet) = some true)
    (ko_BadSheet_BadPlace : PySem.W.kitOne K (.ref c_BadSheet) (.ref c_BadPlace) = some false)
    (ko_BadSheet_BadCell : PySem.W.kitOne K (.ref c_BadSheet) (.ref c_BadCell) = some false)
    (ko_BadSheet_BadWindow : PySem.W.kitOne K (.ref c_BadSheet) (.ref c_BadWindow) = some false)
    (ko_BadSheet_NoSheet : PySem.W.kitOne K (.ref c_BadSheet) (.ref c_NoSheet) = some false)
    (ko_BadSheet_NoWay : PySem.W.kitOne K (.ref c_BadSheet) (.ref c_NoWay) = some false)
    (ko_BadSheet_NoName : PySem.W.kitOne K (.ref c_BadSheet) (.ref c_NoName) = some false)
    (ko_BadSheet_TooMany : PySem.W.kitOne K (.ref c_BadSheet) (.ref c_TooMany) = some false)
    (ko_BadSheet_BadLine : PySem.W.kitOne K (.ref c_BadSheet) (.ref c_BadLine) = some false)
    (ko_BadSheet_BadText : PySem.W.kitOne K (.ref c_BadSheet) (.ref c_BadText) = some false)
    (kv_BadSheet : PySem.W.kitOne K (.ref c_BadSheet) (.type "ValueError") = some true)
    (se_BadSheet : PySem.W.subIn K (.ref c_BadSheet) (.ref c_MapError) = some true)
    (m_Ground_clash : MethIn K c_Ground "clash" "Layer.clash" s_Layer_clash)
    (m_Ground_edge : MethIn K c_Ground "edge" "Layer.edge" s_Layer_edge)
    (m_Ground_rows : MethIn K c_Ground "rows" "Layer.rows" s_Layer_rows)
    (m_Ground_sign_at : MethIn K c_Ground "sign_at" "Layer.sign_at" s_Layer_sign_at)
    (m_Ground_signs_along : MethIn K c_Ground "signs_along" "Layer.signs_along" s_Layer_signs_along)
    (m_Ground_size : MethIn K c_Ground "size" "Layer.size" s_Layer_size)
    (cf_Layer___init__ : CfunIn K c_Layer "__init__" "Layer.__init__" s_Layer___init__)
    (in_Ground : ∃ (f : Addr) (fd : FuncData), Fun K "__init__" "Ground.__init__" s_Ground___init__ f fd ∧ Mk K c_Ground f)
    (d_is_among : DefIn K "is_among" s_is_among)
    (d_is_size : DefIn K "is_size" s_is_size)
    (d_are_rows : DefIn K "are_rows" s_are_rows)
    (d__law_mixed : DefIn K "_law_mixed" s__law_mixed)
    (d__law_state : DefIn K "_law_state" s__law_state)
    (d__law_take : DefIn K "_law_take" s__law_take)
    (d__law_whole : DefIn K "_law_whole" s__law_whole)
    (d__law_word : DefIn K "_law_word" s__law_word)
    (d__law_size : DefIn K "_law_size" s__law_size)
    (d__law_ground : DefIn K "_law_ground" s__law_ground)
    (d__law_edge : DefIn K "_law_edge" s__law_edge)
    (d__law_bad_rows : DefIn K "_law_bad_rows" s__law_bad_rows)
    (d__law_refused : DefIn K "_law_refused" s__law_refused)
    (d__law_right : DefIn K "_law_right" s__law_right)
    (d_law : DefIn K "law" s_law)
    (b_ValueError : PySem.W.nsIn K mainGlobals "ValueError" = some none)
    (b_all : PySem.W.nsIn K mainGlobals "all" = some none)
    (b_bool : PySem.W.nsIn K mainGlobals "bool" = some none)
    (b_int : PySem.W.nsIn K mainGlobals "int" = some none)
    (b_isinstance : PySem.W.nsIn K mainGlobals "isinstance" = some none)
    (b_len : PySem.W.nsIn K mainGlobals "len" = some none)
    (b_list : PySem.W.nsIn K mainGlobals "list" = some none)
    (b_min : PySem.W.nsIn K mainGlobals "min" = some none)
    (b_range : PySem.W.nsIn K mainGlobals "range" = some none)
    (b_str : PySem.W.nsIn K mainGlobals "str" = some none)
    (b_tuple : PySem.W.nsIn K mainGlobals "tuple" = some none)
    (g_GROUNDS : PySem.W.nsIn K mainGlobals "GROUNDS" = some (some u_GROUNDS)) (r_GROUNDS : RelV (.str ".t~^") u_GROUNDS)
    (g_LEAST_SIZE : PySem.W.nsIn K mainGlobals "LEAST_SIZE" = some (some u_LEAST_SIZE)) (r_LEAST_SIZE : RelV (.int (2)) u_LEAST_SIZE)
    (g_MOST_SIZE : PySem.W.nsIn K mainGlobals "MOST_SIZE" = some (some u_MOST_SIZE)) (r_MOST_SIZE : RelV (.int (12)) u_MOST_SIZE) :
    ∃ fd : FuncData, (∀ (s : Shared) (v : Value), BindsTo s fd ⟨[v], []⟩ [("_law_script", v)]) ∧ ∀ base : Heap, K.In base → base.Ns mainGlobals mg → FnOk l.prog w K mg base CX0 7 fa fd ["_law_script"] (spLaw K) := by
  have T : Txt mg := ⟨PySem.W.mg_none_of X G b_ValueError, PySem.W.mg_none_of X G b_all, PySem.W.mg_none_of X G b_bool, PySem.W.mg_none_of X G b_int, PySem.W.mg_none_of X G b_isinstance, PySem.W.mg_none_of X G b_len, PySem.W.mg_none_of X G b_list, PySem.W.mg_none_of X G b_min, PySem.W.mg_none_of X G b_range, PySem.W.mg_none_of X G b_str, PySem.W.mg_none_of X G b_tuple, gv_mk X G g_GROUNDS r_GROUNDS, gv_mk X G g_LEAST_SIZE r_LEAST_SIZE, gv_mk X G g_MOST_SIZE r_MOST_SIZE⟩
  have TC : TxC K mg ⟨c_Layer, c_Ground, c_MapError, c_BadSheet, c_BadPlace, c_BadCell, c_BadWindow, c_NoSheet, c_NoWay, c_NoName, c_TooMany, c_BadLine, c_BadText⟩ := ⟨gv_mk X G gc_Layer rfl, ⟨⟨pg_Layer, hd_Layer, po_Layer, sa_Layer⟩, ha_Layer, hn_Layer, tk_Layer, hm_Layer⟩, na_Layer_lines, ko_Layer_Layer, ko_Layer_Ground, gv_mk X G gc_Ground rfl, ⟨⟨pg_Ground, hd_Ground, po_Ground, sa_Ground⟩, ha_Ground, hn_Ground, tk_Ground, hm_Ground⟩, na_Ground_lines, ko_Ground_Layer, ko_Ground_Ground, gv_mk X G gc_MapError rfl, PySem.W.mg_of X G gc_MapError, gv_mk X G gc_BadSheet rfl, PySem.W.mg_of X G gc_BadSheet, gv_mk X G gc_BadPlace rfl, PySem.W.mg_of X G gc_BadPlace, gv_mk X G gc_BadCell rfl, PySem.W.mg_of X G gc_BadCell, gv_mk X G gc_BadWindow rfl, PySem.W.mg_of X G gc_BadWindow, gv_mk X G gc_NoSheet rfl, PySem.W.mg_of X G gc_NoSheet, gv_mk X G gc_NoWay rfl, PySem.W.mg_of X G gc_NoWay, gv_mk X G gc_NoName rfl, PySem.W.mg_of X G gc_NoName, gv_mk X G gc_TooMany rfl, PySem.W.mg_of X G gc_TooMany, gv_mk X G gc_BadLine rfl, PySem.W.mg_of X G gc_BadLine, gv_mk X G gc_BadText rfl, PySem.W.mg_of X G gc_BadText, ⟨PySem.W.mg_of X G gc_BadSheet, xq_BadSheet, xkp_BadSheet, xb_BadSheet, xt_BadSheet, ⟨xhg_BadSheet, xhk_BadSheet, xb_BadSheet, xhd_BadSheet, xha_BadSheet, xn, xk, xhm_BadSheet⟩⟩, ko_BadSheet_MapError, ko_BadSheet_BadSheet, ko_BadSheet_BadPlace, ko_BadSheet_BadCell, ko_BadSheet_BadWindow, ko_BadSheet_NoSheet, ko_BadSheet_NoWay, ko_BadSheet_NoName, ko_BadSheet_TooMany, ko_BadSheet_BadLine, ko_BadSheet_BadText, kv_BadSheet, PySem.W.exm_ref xb xd xt se_BadSheet⟩
  have in2_Ground : InitIn K mg "Ground" c_Ground "Ground.__init__" s_Ground___init__ := let ⟨f, fd, F, M⟩ := in_Ground; ⟨f, fd, F, M, PySem.W.mg_of X G gc_Ground⟩
  have D_is_among := d_is_among.fn X G
  have D_is_size := d_is_size.fn X G
  have D_are_rows := d_are_rows.fn X G
  have D__law_mixed := d__law_mixed.fn X G
  have D__law_state := d__law_state.fn X G
  have D__law_take := d__law_take.fn X G
  have D__law_whole := d__law_whole.fn X G
  have D__law_word := d__law_word.fn X G
  have D__law_size := d__law_size.fn X G
  have D__law_ground := d__law_ground.fn X G
  have D__law_edge := d__law_edge.fn X G
  have D__law_bad_rows := d__law_bad_rows.fn X G
  have D__law_refused := d__law_refused.fn X G
  have D__law_right := d__law_right.fn X G
  have D_law := d_law.fn X G
  refine end_mk D_law hfa (fun _ _ _ _ _ _ _ => rfl) fun fd F base => ?_
  have h_mixed := ok_mixed (P := l.prog) (w := w) (base := base) D__law_mixed
  have h_state := ok_state (P := l.prog) (w := w) (base := base) D__law_state
  have h_take := ok_take (P := l.prog) (w := w) (base := base) D__law_take T h_mixed
  have h_whole := ok_whole (P := l.prog) (w := w) (base := base) D__law_whole T
  have h_is_among := ok_is_among (P := l.prog) (w := w) (base := base) D_is_among T
  have h_is_size := ok_is_size (P := l.prog) (w := w) (base := base) D_is_size T h_is_among
  have h_are_rows := ok_are_rows (P := l.prog) (w := w) (base := base) D_are_rows T h_is_size
  have h_linit := ok_Layer_init (P := l.prog) (w := w) (base := base) cf_Layer___init__ T
  have h_rows := ok_rows (P := l.prog) (w := w) (base := base) m_Ground_rows T
  have h_lsize := ok_lsize (P := l.prog) (w := w) (base := base) m_Ground_size T
  have h_sign_at := ok_sign_at (P := l.prog) (w := w) (mg := mg) (base := base) m_Ground_sign_at
  have h_along := ok_signs_along (P := l.prog) (w := w) (mg := mg) (base := base) m_Ground_signs_along
  have h_ginit := ok_Ground_init (P := l.prog) (w := w) (base := base) in2_Ground T TC h_are_rows h_linit
  have h_edge := ok_gedge (P := l.prog) (w := w) (base := base) m_Ground_edge TC h_along
  have h_clash := ok_clash (P := l.prog) (w := w) (mg := mg) (base := base) (A := ⟨c_Layer, c_Ground, c_MapError, c_BadSheet, c_BadPlace, c_BadCell, c_BadWindow, c_NoSheet, c_NoWay, c_NoName, c_TooMany, c_BadLine, c_BadText⟩) m_Ground_clash
  have h_size := ok_size (P := l.prog) (w := w) (base := base) D__law_size h_take
  have h_ground := ok_ground (P := l.prog) (w := w) (base := base) D__law_ground T h_take
  have h_gledge := ok_gledge (P := l.prog) (w := w) (base := base) D__law_edge T
  have h_word := ok_word (P := l.prog) (w := w) (base := base) D__law_word T TC
  have h_refused := ok_refused (P := l.prog) (w := w) (base := base) D__law_refused T TC h_ginit h_word
  have h_bad := ok_bad_rows (P := l.prog) (w := w) (base := base) D__law_bad_rows T h_take
  have h_right := ok_right (P := l.prog) (w := w) (base := base) D__law_right T TC h_whole h_gledge h_rows h_lsize h_sign_at h_edge
  exact ok_law F T TC h_state h_size h_ground h_ginit h_right h_clash h_bad h_refused

theorem walk {l : PySem.W.OpenLaw} {q : Program} {loose : List Str} {XP : (Str → Option Value) → Heap → Prop} {YP : World → Heap → Prop} {d : DefRec} {K : Params → PySem.W.Frag} (hn : l.most = some 63) (hdf : d.params.defaults = [])
    (hY : ∀ (w : World) (h : Heap), YP w h → (K w.params).In h)
    (F : ∀ (w : World) (mg : Str → Option Value) (fa : Addr) (h : Heap), (K w.params).In h → h.Ns mainGlobals mg → mg d.name = some (.ref fa) →
      ∃ fd : FuncData, (∀ (s : Shared) (u : Value), BindsTo s fd ⟨[u], []⟩ [("_law_script", u)]) ∧ ∀ base : Heap, (K w.params).In base → base.Ns mainGlobals mg → FnOk l.prog w (K w.params) mg base CX0 7 fa fd ["_law_script"] (spLaw (K w.params))) :
    PySem.W.WalkO q loose XP YP l.row.toRowW d [] (fun f vs => PySem.call f vs) :=
  L2.walk_of (n := 63) (k := 7) (x := "_law_script") (CX := fun _ => CX0) (sp := fun w => spLaw (K w.params)) hn (by decide) hdf ⟨rfl, by decide, by decide⟩ hY F (fun _ _ a ns hl _ hS => ⟨a, ns, rfl, hS, hl, fun _ => rfl⟩) fun _ _ _ _ _ z => z
end S
open PySem PySem.W PyProof.Rows
set_option maxRecDepth 100000 in
set_option maxHeartbeats 0 in
theorem PySem.Challenge.cw_sheetland_k03_grounds_holds : PySem.Challenge.rw_sheetland_k03_grounds.Holds := by
  w_on; o_law; k_head; (case hw => w_witness2)
  k_fill
  refine S.walk (l := PySem.Challenge.rw_sheetland_k03_grounds) rfl rfl (fun w h Y => PySem.W.kIn_of Y) ?F
  case F =>
    intro w mg fa h KX G hmg
    refine' S.all_mk KX G hmg ?gc_Layer ?pg_Layer ?hd_Layer ?po_Layer ?sa_Layer ?ha_Layer ?hn_Layer ?tk_Layer ?hm_Layer ?na_Layer_lines ?gc_Ground ?pg_Ground ?hd_Ground ?po_Ground ?sa_Ground ?ha_Ground ?hn_Ground ?tk_Ground ?hm_Ground ?na_Ground_lines ?ko_Layer_Layer ?ko_Layer_Ground ?ko_Ground_Layer ?ko_Ground_Ground ?gc_MapError ?gc_BadSheet ?gc_BadPlace ?gc_BadCell ?gc_BadWindow ?gc_NoSheet ?gc_NoWay ?gc_NoName ?gc_TooMany ?gc_BadLine ?gc_BadText ?xn ?xk ?xb ?xd ?xt ?xq_BadSheet ?xkp_BadSheet ?xb_BadSheet ?xt_BadSheet ?xhg_BadSheet ?xhk_BadSheet ?xhd_BadSheet ?xha_BadSheet ?xhm_BadSheet ?ko_BadSheet_MapError ?ko_BadSheet_BadSheet ?ko_BadSheet_BadPlace ?ko_BadSheet_BadCell ?ko_BadSheet_BadWindow ?ko_BadSheet_NoSheet ?ko_BadSheet_NoWay ?ko_BadSheet_NoName ?ko_BadSheet_TooMany ?ko_BadSheet_BadLine ?ko_BadSheet_BadText ?kv_BadSheet ?se_BadSheet ?m_Ground_clash ?m_Ground_edge ?m_Ground_rows ?m_Ground_sign_at ?m_Ground_signs_along ?m_Ground_size ?cf_Layer___init__ ?in_Ground ?d_is_among ?d_is_size ?d_are_rows ?d__law_mixed ?d__law_state ?d__law_take ?d__law_whole ?d__law_word ?d__law_size ?d__law_ground ?d__law_edge ?d__law_bad_rows ?d__law_refused ?d__law_right ?d_law ?b_ValueError ?b_all ?b_bool ?b_int ?b_isinstance ?b_len ?b_list ?b_min ?b_range ?b_str ?b_tuple ?g_GROUNDS ?r_GROUNDS ?g_LEAST_SIZE ?r_LEAST_SIZE ?g_MOST_SIZE ?r_MOST_SIZE
    (case gc_Layer => k_is)
    (case pg_Layer => k_is)
    (case hd_Layer => k_is)
    (case po_Layer => k_is)
    (case sa_Layer => k_is)
    (case ha_Layer => k_is)
    (case hn_Layer => k_is)
    (case tk_Layer => k_is)
    (case hm_Layer => k_is)
    (case na_Layer_lines => k_is)
    (case gc_Ground => k_is)
    (case pg_Ground => k_is)
    (case hd_Ground => k_is)
    (case po_Ground => k_is)
    (case sa_Ground => k_is)
    (case ha_Ground => k_is)
    (case hn_Ground => k_is)
    (case tk_Ground => k_is)
    (case hm_Ground => k_is)
    (case na_Ground_lines => k_is)
    (case ko_Layer_Layer => kit_is)
    (case ko_Layer_Ground => kit_is)
    (case ko_Ground_Layer => kit_is)
    (case ko_Ground_Ground => kit_is)
    (case gc_MapError => k_is)
    (case gc_BadSheet => k_is)
    (case gc_BadPlace => k_is)
    (case gc_BadCell => k_is)
    (case gc_BadWindow => k_is)
    (case gc_NoSheet => k_is)
    (case gc_NoWay => k_is)
    (case gc_NoName => k_is)
    (case gc_TooMany => k_is)
    (case gc_BadLine => k_is)
    (case gc_BadText => k_is)
    (case xn => k_is)
    (case xk => k_is)
    (case xb => k_is)
    (case xd => k_is)
    (case xt => k_is)
    (case xq_BadSheet => k_exc)
    (case xkp_BadSheet => k_is)
    (case xb_BadSheet => k_is)
    (case xt_BadSheet => k_is)
    (case xhg_BadSheet => k_is)
    (case xhk_BadSheet => k_is)
    (case xhd_BadSheet => k_is)
    (case xha_BadSheet => k_is)
    (case xhm_BadSheet => k_is)
    (case ko_BadSheet_MapError => kit_is)
    (case ko_BadSheet_BadSheet => kit_is)
    (case ko_BadSheet_BadPlace => kit_is)
    (case ko_BadSheet_BadCell => kit_is)
    (case ko_BadSheet_BadWindow => kit_is)
    (case ko_BadSheet_NoSheet => kit_is)
    (case ko_BadSheet_NoWay => kit_is)
    (case ko_BadSheet_NoName => kit_is)
    (case ko_BadSheet_TooMany => kit_is)
    (case ko_BadSheet_BadLine => kit_is)
    (case ko_BadSheet_BadText => kit_is)
    (case kv_BadSheet => kit_is)
    (case se_BadSheet => k_is)
    (case m_Ground_clash => (refine' S.meth_mk ?a ?i ?l ?c ?k; (case a => k_is); (case i => k_is); (case l => k_is); (case c => k_is); (case k => k_is)))
    (case m_Ground_edge => (refine' S.meth_mk ?a ?i ?l ?c ?k; (case a => k_is); (case i => k_is); (case l => k_is); (case c => k_is); (case k => k_is)))
    (case m_Ground_rows => (refine' S.meth_mk ?a ?i ?l ?c ?k; (case a => k_is); (case i => k_is); (case l => k_is); (case c => k_is); (case k => k_is)))
    (case m_Ground_sign_at => (refine' S.meth_mk ?a ?i ?l ?c ?k; (case a => k_is); (case i => k_is); (case l => k_is); (case c => k_is); (case k => k_is)))
    (case m_Ground_signs_along => (refine' S.meth_mk ?a ?i ?l ?c ?k; (case a => k_is); (case i => k_is); (case l => k_is); (case c => k_is); (case k => k_is)))
    (case m_Ground_size => (refine' S.meth_mk ?a ?i ?l ?c ?k; (case a => k_is); (case i => k_is); (case l => k_is); (case c => k_is); (case k => k_is)))
    (case cf_Layer___init__ => (refine' S.cfun_mk (mc := .type "type") ?r ?g ?a ?l ?c ?k; (case r => k_is); (case g => k_is); (case a => k_is); (case l => k_is); (case c => k_is); (case k => k_is)))
    (case in_Ground => (refine' S.init_mk ?m ?a ?i ?kc ?l ?c ?k; (case m => k_is); (case a => k_is); (case i => k_is); (case kc => k_is); (case l => k_is); (case c => k_is); (case k => k_is)))
    (case d_is_among => (refine' S.def_mk ?a ?l ?c ?k; (case a => k_is); (case l => k_is); (case c => k_is); (case k => k_is)))
    (case d_is_size => (refine' S.def_mk ?a ?l ?c ?k; (case a => k_is); (case l => k_is); (case c => k_is); (case k => k_is)))
    (case d_are_rows => (refine' S.def_mk ?a ?l ?c ?k; (case a => k_is); (case l => k_is); (case c => k_is); (case k => k_is)))
    (case d__law_mixed => (refine' S.def_mk ?a ?l ?c ?k; (case a => k_is); (case l => k_is); (case c => k_is); (case k => k_is)))
    (case d__law_state => (refine' S.def_mk ?a ?l ?c ?k; (case a => k_is); (case l => k_is); (case c => k_is); (case k => k_is)))
    (case d__law_take => (refine' S.def_mk ?a ?l ?c ?k; (case a => k_is); (case l => k_is); (case c => k_is); (case k => k_is)))
    (case d__law_whole => (refine' S.def_mk ?a ?l ?c ?k; (case a => k_is); (case l => k_is); (case c => k_is); (case k => k_is)))
    (case d__law_word => (refine' S.def_mk ?a ?l ?c ?k; (case a => k_is); (case l => k_is); (case c => k_is); (case k => k_is)))
    (case d__law_size => (refine' S.def_mk ?a ?l ?c ?k; (case a => k_is); (case l => k_is); (case c => k_is); (case k => k_is)))
    (case d__law_ground => (refine' S.def_mk ?a ?l ?c ?k; (case a => k_is); (case l => k_is); (case c => k_is); (case k => k_is)))
    (case d__law_edge => (refine' S.def_mk ?a ?l ?c ?k; (case a => k_is); (case l => k_is); (case c => k_is); (case k => k_is)))
    (case d__law_bad_rows => (refine' S.def_mk ?a ?l ?c ?k; (case a => k_is); (case l => k_is); (case c => k_is); (case k => k_is)))
    (case d__law_refused => (refine' S.def_mk ?a ?l ?c ?k; (case a => k_is); (case l => k_is); (case c => k_is); (case k => k_is)))
    (case d__law_right => (refine' S.def_mk ?a ?l ?c ?k; (case a => k_is); (case l => k_is); (case c => k_is); (case k => k_is)))
    (case d_law => (refine' S.def_mk ?a ?l ?c ?k; (case a => k_is); (case l => k_is); (case c => k_is); (case k => k_is)))
    (case b_ValueError => k_is)
    (case b_all => k_is)
    (case b_bool => k_is)
    (case b_int => k_is)
    (case b_isinstance => k_is)
    (case b_len => k_is)
    (case b_list => k_is)
    (case b_min => k_is)
    (case b_range => k_is)
    (case b_str => k_is)
    (case b_tuple => k_is)
    (case g_GROUNDS => k_is)
    (case r_GROUNDS => exact ⟨_, rfl⟩)
    (case g_LEAST_SIZE => k_is)
    (case r_LEAST_SIZE => exact ⟨_, rfl⟩)
    (case g_MOST_SIZE => k_is)
    (case r_MOST_SIZE => exact ⟨_, rfl⟩)
