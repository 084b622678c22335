import PyProof.Rows.All
import Wide.All
import OpenK.AllK
import Wide.FinOn
import HandS.ForMost
import HandS.ForExc
import HandS.Flow
import HandS.IsInst
import HandS.StrMore
import HandS.Replace
import HandS.FStr
import HandS.TupAny
import HandS.Walk
import PySem.Challenge.RW_sheetland_k02_names_places_cells_sizes
set_option Elab.async false
set_option maxRecDepth 100000
set_option linter.all false
namespace S
open PySem L2

/-! ### names of the module -/
/-- the module's name x holds v -/
def GV (mg : Str → Option Value) (x : Str) (v : V) : Prop := ∃ u, mg x = some u ∧ RelV v u
theorem pe_gl {X : Cx} {x : Str} {v : V} {pos : Pos} (hg : Gl X x) (h : GV X.mg x v) (hd : (x == ("__debug__" : Str)) = false := by decide) : PE X (.Name x pos) (tC v) := by
  obtain ⟨u, hm, r⟩ := h
  exact pe_glob hg hm r hd

/-! ### a def that stands in the text and keeps its promise -/
def Has (P : Program) (w : World) (K : PySem.W.Frag) (mg : Str → Option Value) (base : Heap) (CX : CXT) (k : Nat) (x : Str) (ps : List Str) (sp : Sp) : Prop :=
  ∃ (f : Addr) (fd : FuncData), FnOk P w K mg base CX k f fd ps sp ∧ mg x = some (.ref f) ∧ PySem.W.keepIn K (.ref f) = true ∧ Binds K fd ps []
theorem pe_fn {X : Cx} {j k : Nat} {x : Str} {ps : List Str} {sp : Sp} {e : Expr} {es : List Expr} {t : TA} {p pos : Pos} (h : Has X.prog X.w X.K X.mg X.base CX0 k x ps sp) (hr : Room j X.A) (hk : k ≤ j) (hg : Gl X x) (ha : PA X (e :: es) t)
    (hdb : (x == ("__debug__" : Str)) = false := by decide) (he : starEach (e :: es) X.env = (false, eval e X.env) :: starEach es X.env := by rfl) (hpl : (backTo pos (starEach es X.env)).any (·.1) = false := by rfl) :
    PE X (.Call (.Name x p) (e :: es) [] pos) (tCall sp [] E0 t) := by
  obtain ⟨f, fd, G, hm, kp, b⟩ := h
  exact pe_call G (hr.mono hk) hg hm kp b .nil pass0 ha hdb he hpl
theorem pe_fn0 {X : Cx} {j k : Nat} {x : Str} {ps : List Str} {sp : Sp} {p pos : Pos} (h : Has X.prog X.w X.K X.mg X.base CX0 k x ps sp) (hr : Room j X.A) (hk : k ≤ j) (hg : Gl X x)
    (hdb : (x == ("__debug__" : Str)) = false := by decide) : PE X (.Call (.Name x p) [] [] pos) (tCall sp [] E0 tNil) := by
  obtain ⟨f, fd, G, hm, kp, b⟩ := h
  exact pe_call0 G (hr.mono hk) hg hm kp b .nil pass0 hdb

/-- a def of the text, as the top has left it -/
def DefIn (K : PySem.W.Frag) (x : Str) (st : Stmt) : Prop := ∃ (f : Addr) (fd : FuncData), Fun K x x st f fd ∧ PySem.W.nsIn K mainGlobals x = some (some (.ref f))
theorem def_mk {K : PySem.W.Frag} {x : Str} {st : Stmt} {f : Addr} {oc : Value} {od an : Option Addr} {osl : Array (Option Value)} {kV doc pm cdv ct : Value} (a : PySem.W.nsIn K mainGlobals x = some (some (.ref f)))
    (l : K.lookup f = some ⟨oc, od, .func (PySem.W.fnOf x x (defArgs st) (defBody st) (defScope st) .none kV doc pm an cdv ct), osl⟩) (c : PySem.W.codeIn K cdv x = true) (k : PySem.W.keepIn K (.ref f) = true) : DefIn K x st := ⟨f, _, fun_mk l c k, a⟩
/-- the def as a module's function -/
structure FnIn (K : PySem.W.Frag) (mg : Str → Option Value) (x : Str) (st : Stmt) : Prop where
  ex : ∃ (f : Addr) (fd : FuncData), Fun K x x st f fd ∧ mg x = some (.ref f)
theorem DefIn.fn {K : PySem.W.Frag} {x : Str} {st : Stmt} {h : Heap} {mg : Str → Option Value} (d : DefIn K x st) (X : K.In h) (G : h.Ns mainGlobals mg) : FnIn K mg x st := by
  obtain ⟨f, fd, F, a⟩ := d
  exact ⟨f, fd, F, PySem.W.mg_of X G a⟩
section
variable {P : Program} {w : World} {K : PySem.W.Frag} {mg : Str → Option Value} {base : Heap}
theorem FnIn.ok {x : Str} {st : Stmt} {N ps : List Str} {k : Nat} {sp : Sp} (F : FnIn K mg x st) (S : FnScope N ps (defScope st)) (len : ∀ vs H Q E, sp vs H Q E → vs.length = ps.length)
    (hb : ∀ (kV doc pm : Value) (an : Option Addr) (cdv ct : Value) (us : List Value), us.length = ps.length → bindArgs (PySem.W.fnOf x x (defArgs st) (defBody st) (defScope st) .none kV doc pm an cdv ct) ⟨us, []⟩ = pure (ps.zip us))
    (hbody : ∀ (f : Addr) (cdv : Value) (A : Around) (outer : List Env) (s : Shared) (H : Hp) (vs : List V) (Q : VK) (E : XK), Room k (A.deeper (PyProof.Rows.envOfC x (defScope st) s.heap.objs.size f cdv)) → sp vs H Q E →
      ∃ t, PSs (cxOf CX0 P w K mg base N x (defScope st) f cdv A outer s H E).nox (defBody st) t ∧ t { nx := fun _ H' => Q .non H', rt := Q } (start N vs) H) : Has P w K mg base CX0 (k + 1) x ps sp := by
  obtain ⟨f, fd, F, hm⟩ := F.ex
  exact ⟨f, fd, F.ok S len (hbody f), hm, F.kp, F.binds hb⟩
end

/-! ### the rules with the written part by its name (within comprehensions the context differs) -/
section
variable {X : Cx} {tg e e2 l o : Expr} {es : List Expr} {ta te tl to : TE} {tas : TA} {pos p apos tpos : Pos} {kk : Nat} {elts : List Expr} (K : PySem.W.Frag)
theorem call_isiK' (h : X.K = K := by rfl) : CallR X (.builtin "isinstance") (rIsi K) := h ▸ call_isi
theorem cr_allK (hc : X.calm = true) (h : X.K = K := by rfl) : CallR X (.builtin "all") (rAll K) := h ▸ cr_all hc
theorem cr_anyK (hc : X.calm = true) (h : X.K = K := by rfl) : CallR X (.builtin "any") (rAny K) := h ▸ cr_any hc
theorem cr_sumK (hc : X.calm = true) (h : X.K = K := by rfl) : CallR X (.builtin "sum") (rSum K) := h ▸ cr_sum hc
theorem cr_minK' (hc : X.calm = true) (h : X.K = K := by rfl) : CallR X (.builtin "min") (rMin K) := h ▸ cr_min hc
theorem cr_maxK' (hc : X.calm = true) (h : X.K = K := by rfl) : CallR X (.builtin "max") (rMax K) := h ▸ cr_max hc
theorem call_lenK (h : X.K = K := by rfl) : CallR X (.builtin "len") (fun xs H Q => ∃ x n, xs = [x] ∧ LenV K x H n ∧ Q (.int n) H) := h ▸ call_len
theorem call_list_ofK (h : X.K = K := by rfl) : CallR X (.type "list") (fun xs H Q => ∃ p ys, xs = [.ref p] ∧ (SqL K H p ys ∨ SqT K H p ys) ∧ ∀ l, H l = none → Q (.ref l) (upd H l (.lst ys))) := h ▸ call_list_of
theorem call_tuple_ofK (h : X.K = K := by rfl) : CallR X (.type "tuple") (fun xs H Q => ∃ p ys, xs = [.ref p] ∧ ((SqL K H p ys ∧ ∀ l, H l = none → Q (.ref l) (upd H l (.tup ys))) ∨ (SqT K H p ys ∧ Q (.ref p) H))) := h ▸ call_tuple_of
theorem ix_listK (h : X.K = K := by rfl) : IxR X (rIxL K) := h ▸ ix_list
theorem ix_tupK (h : X.K = K := by rfl) : IxR X (rIxT K) := h ▸ ix_tup
theorem op_eqDK (hu : X.A.units + 64 < cLine) (h : X.K = K := by rfl) : OpR X (compareOp .Eq) (rEqD K) := h ▸ op_eqD hu
theorem op_neDK (hu : X.A.units + 64 < cLine) (h : X.K = K := by rfl) : OpR X (compareOp .NotEq) (rNeD K) := h ▸ op_neD hu
theorem op_in_seqK (h : X.K = K := by rfl) : OpR X (compareOp .In) (rIn K false) := h ▸ op_in_seq
theorem op_notIn_seqK (h : X.K = K := by rfl) : OpR X (compareOp .NotIn) (rIn K true) := h ▸ op_notIn_seq
theorem op_catAK (h : X.K = K := by rfl) : OpR X (binaryOp .Add) (rCatA K) := h ▸ op_catA
theorem op_ltTK (hu : X.A.units < cLine) (h : X.K = K := by rfl) : OpR X (compareOp .Lt) (rLtT K) := h ▸ op_ltT hu
theorem sl_listK (h : X.K = K := by rfl) : SlR X (rSlL K) := h ▸ sl_list
theorem sl_tupAK (h : X.K = K := by rfl) : SlR X (rSlA K) := h ▸ sl_tupA
theorem pe_joinK (ho : PE X o to) (he : PE X e te) (h : X.K = K := by rfl) (hs : starEach [e] X.env = [(false, eval e X.env)] := by rfl) (hbase : attributeBase o "join" X.env (eval o X.env) = eval o X.env := by rfl) (hline : (apos.endLine == pos.line) = true := by rfl) :
    PE X (.Call (.Attribute o "join" apos) [e] [] pos) (tM1 (fun x xs H Q => ∃ a p, ∃ ys : List Str, x = .str a ∧ xs = [.ref p] ∧ (SqL K H p (ys.map V.str) ∨ SqT K H p (ys.map V.str)) ∧ (ys.map (·.length)).sum + ys.length * a.length ≤ 16777216 ∧ Q (.str (Txt.join a ys)) H) to te) := h ▸ pe_join ho he hs hbase hline
theorem pe_fldK {f : Str} (he : PE X e ta) (hb : attributeBase e f X.env (eval e X.env) = eval e X.env) (h : X.K = K := by rfl) : PE X (.Attribute e f pos) (tFld K ta f) := h ▸ pe_fld he hb
theorem pi_listK (hl : PE X l tl) (h : X.K = K := by rfl) : PI X tg l (iList K tl) := h ▸ pi_list hl
theorem pi_tupK (hl : PE X l tl) (h : X.K = K := by rfl) : PI X tg l (iTup K tl) := h ▸ pi_tup hl
theorem pi_enumK (hg : Gl X "enumerate") (hm : X.mg "enumerate" = none) (ha : PA X [e] tas) (h : X.K = K := by rfl) (hs : starEach [e] X.env = [(false, eval e X.env)] := by rfl) : PI X (.Tuple elts kk tpos) (.Call (.Name "enumerate" p) [e] [] pos) (iEnum K tas) := h ▸ pi_enum hg hm ha hs
theorem pi_zipK (hg : Gl X "zip") (hm : X.mg "zip" = none) (ha : PA X [e, e2] tas) (h : X.K = K := by rfl) (hs : starEach [e, e2] X.env = (false, eval e X.env) :: starEach [e2] X.env := by rfl) (hpl : (backTo pos (starEach [e2] X.env)).any (·.1) = false := by rfl) :
    PI X (.Tuple elts kk tpos) (.Call (.Name "zip" p) [e, e2] [] pos) (iZip K tas) := h ▸ pi_zip hg hm ha hs hpl
theorem pg_tupK {n : Nat} {t : TGs} (hc : X.calm = true) (ht : PGs X es t) (h : X.K = K := by rfl) (hn : (assignEach es X.env).length = n := by rfl) (hst : (assignEach es X.env).findIdx? (·.1) = none := by rfl) : PG X (.Tuple es kk pos) (gTup K n t) := h ▸ pg_tup hc ht hn hst
theorem pe_bmK {t : TA} {name : Str} {cpos : Pos} {T id : String} {r : V → List V → Hp → VK → Prop} (pa : PlainAttrs T) (slot : Slot T name id) (hty : typeOf (.builtin id) = pure (.type "method_descriptor")) (hm : MtR X id r) (ho : PE X o to) (ha : PA X (e :: es) t) (h : X.K = K := by rfl)
    (hbase : attributeBase o name X.env (eval o X.env) = eval o X.env := by rfl)
    (hfew : ((backTo cpos (starEach (e :: es) X.env)).all (fun x => !x.1) && (backToKw cpos (keywordEach [] X.env)).all (fun x => x.1.isSome) && decide ((e :: es).length + ([] : List Keyword).length + (if ([] : List Keyword).isEmpty then 0 else 1) < 30)) = true := by rfl)
    (hline : (apos.endLine == cpos.line) = true := by rfl) (hs : starEach (e :: es) X.env = (false, eval e X.env) :: starEach es X.env := by rfl) (hplain : (backTo cpos (starEach es X.env)).any (·.1) = false := by rfl) :
    PE X (.Call (.Attribute o name apos) (e :: es) [] cpos) (tBM K T r to t) := h ▸ pe_bm pa slot hty hm ho ha hbase hfew hline hs hplain
theorem pe_bm0K {name : Str} {cpos : Pos} {T id : String} {r : V → List V → Hp → VK → Prop} (pa : PlainAttrs T) (slot : Slot T name id) (hty : typeOf (.builtin id) = pure (.type "method_descriptor")) (hm : MtR X id r) (ho : PE X o to) (h : X.K = K := by rfl)
    (hbase : attributeBase o name X.env (eval o X.env) = eval o X.env := by rfl) (hline : (apos.endLine == cpos.line) = true := by rfl) : PE X (.Call (.Attribute o name apos) [] [] cpos) (tBM0 K T r to) := h ▸ pe_bm0 pa slot hty hm ho hbase hline
end

/-! ### the law's end -/
theorem end_mk {P : Program} {w : World} {K : PySem.W.Frag} {mg : Str → Option Value} {x : Str} {st : Stmt} {fa : Addr} {y : Str} {k : Nat} {CX : CXT} {sp : Sp} (F : FnIn K mg x st) (hfa : mg x = some (.ref fa))
    (hb : ∀ (kV doc pm : Value) (an : Option Addr) (cdv ct : Value) (v : Value), bindArgs (PySem.W.fnOf x x (defArgs st) (defBody st) (defScope st) .none kV doc pm an cdv ct) ⟨[v], []⟩ = pure [(y, v)])
    (ok : ∀ (fd : FuncData), Fun K x x st fa fd → ∀ base : Heap, FnOk P w K mg base CX k fa fd [y] sp) :
    ∃ fd : FuncData, (∀ (s : Shared) (v : Value), BindsTo s fd ⟨[v], []⟩ [(y, v)]) ∧ ∀ base : Heap, K.In base → base.Ns mainGlobals mg → FnOk P w K mg base CX k fa fd [y] sp := by
  obtain ⟨f, fd, F, hm⟩ := F.ex
  have e := hfa.symm.trans hm
  cases e
  refine ⟨fd, fun s v => ?_, fun base _ _ => ok fd F base⟩
  obtain ⟨oc, od, kV, doc, pm, an, cdv, ct, osl, rfl, lk, hcd⟩ := F.ex
  exact .of_eq (hb kV doc pm an cdv ct v)
theorem gv_mk {K : PySem.W.Frag} {h : Heap} {mg : Str → Option Value} {x : Str} {v : V} {u : Value} (X : K.In h) (G : h.Ns mainGlobals mg) (a : PySem.W.nsIn K mainGlobals x = some (some u)) (r : RelV v u) : GV mg x v := ⟨u, PySem.W.mg_of X G a, r⟩

/-! ### a statement, then the rest, with a word between them -/
def tCut (t u : TS) : TS := fun D σ H => ∃ Mid : St → Hp → Prop, t { D with nx := Mid } σ H ∧ ∀ σ' H', Mid σ' H' → u D σ' H'
theorem pss_cut {X : Cx} {st : Stmt} {rest : List Stmt} {t u : TS} (h1 : PS X st t) (h2 : PSs X rest u) : PSs X (st :: rest) (tCut t u) := by
  refine ⟨fun pins s σ H D I h => ?_⟩
  obtain ⟨Mid, hm, hu⟩ := h
  refine wpAny_execs_cons (thn (h1.run pins s σ H { D with nx := Mid } I hm) fun f s1 q => ?_)
  cases f with
  | next =>
    obtain ⟨σ', H', I', q⟩ := q
    exact h2.run pins s1 σ' H' D I' (hu σ' H' q)
  | ret v => exact q
  | brk => exact q
  | cont => exact q
abbrev ks (x : Str) : Key := Sum.inr x
theorem dget {H : Hp} {a : Addr} {kvs : List (Key × V)} {x : Str} {v : V} (h : H a = some (.dK kvs)) (e : valV kvs (ks x) = some v) : DGet H a (.str x) (some v) := by
  have q := DGet.k (k := ks x) h
  rw [e] at q
  exact q
theorem dput {H : Hp} {a : Addr} {kvs kvs' : List (Key × V)} {x : Str} {v : V} (h : H a = some (.dK kvs)) (hl : kvs.length < sizeLine) (e : putK kvs (ks x) v = kvs') : DPut H a (.str x) v (upd H a (.dK kvs')) := by
  have q := DPut.k (k := ks x) (v := v) h hl
  rw [e] at q
  exact q
/-- the tests' answer is known -/
theorem ite_pos {c : Bool} {A B : Prop} (e : c = true) (h : A) : if c = true then A else B := by rw [if_pos e]; exact h
theorem ite_neg {c : Bool} {A B : Prop} (e : c = false) (h : B) : if c = true then A else B := by rw [if_neg (by rw [e]; decide)]; exact h
theorem ite_both {c : Bool} {A B : Prop} (h1 : c = true → A) (h2 : c = false → B) : if c = true then A else B := by
  cases c with
  | true => exact iteT (h1 rfl)
  | false => exact iteF (h2 rfl)
theorem szn (n : Nat) (h : n ≤ 1000 := by decide) : n ≤ sizeLine := Nat.le_trans h (by decide)
theorem szt (n : Nat) (h : n < 1000 := by decide) : n < sizeLine := Nat.lt_of_lt_of_le h (by decide)
/-! ### items by place -/
theorem atI_in {α : Type} {xs : List α} {i : Int} (h0 : 0 ≤ i) (h1 : i < (xs.length : Int)) : ∃ x, atI xs i = some x ∧ xs[i.toNat]? = some x := by
  have hl : i.toNat < xs.length := by omega
  refine ⟨xs[i.toNat], ?_, by simp [hl]⟩
  have e : ((i.toNat : Nat) : Int) = i := Int.toNat_of_nonneg h0
  have q := atI_nat (xs := xs) (j := i.toNat) (v := xs[i.toNat]) (by simp [hl])
  rw [e] at q
  exact q

/-- a written list, item by item -/
theorem atI0 {α : Type} {a : α} {l : List α} : atI (a :: l) 0 = some a := atI_nat (j := 0) rfl
theorem atI1 {α : Type} {a b : α} {l : List α} : atI (a :: b :: l) 1 = some b := atI_nat (j := 1) rfl
theorem atI2 {α : Type} {a b c : α} {l : List α} : atI (a :: b :: c :: l) 2 = some c := atI_nat (j := 2) rfl
theorem atI3 {α : Type} {a b c d : α} {l : List α} : atI (a :: b :: c :: d :: l) 3 = some d := atI_nat (j := 3) rfl

/-! ### heaps -/
theorem same_new {H : Hp} {p : Addr} {o : HO} (h : H p = none) : Same H (upd H p o) := fun a u e => by
  rw [upd_ne (ne_of_none e h)]
  exact e
theorem same_tup {K : PySem.W.Frag} {H H' : Hp} {a : Addr} {xs : List V} (e : Same H H') (h : SqT K H a xs) : SqT K H' a xs := by
  rcases h with (h | ⟨o, h⟩) | h
  · exact .inl (.inl (e _ _ h))
  · exact .inl (.inr ⟨o, e _ _ h⟩)
  · exact .inr h
/-! ### data: what stands at a value, by its kind; dicts with int and text keys too -/
def keyD : Key → PyData
  | .inl i => .int i
  | .inr x => .str x
mutual
inductive Dt (K : PySem.W.Frag) (G : Hp) : V → PyData → Prop
  | non : Dt K G .non .none
  | bl (b : Bool) : Dt K G (.bl b) (.bool b)
  | int (i : Int) : Dt K G (.int i) (.int i)
  | str (x : Str) : Dt K G (.str x) (.str x)
  | lst {a : Addr} {xs : List V} {ds : List PyData} : G a = some (.lst xs) → DtAll K G xs ds → Dt K G (.ref a) (.list ds)
  | tup {a : Addr} {xs : List V} {ds : List PyData} : SqT K G a xs → DtAll K G xs ds → Dt K G (.ref a) (.tuple ds)
  | dct {a : Addr} {kvs : List (Key × V)} {ds : List (PyData × PyData)} : G a = some (.dK kvs) → DtKvs K G kvs ds → Dt K G (.ref a) (.dict ds)
inductive DtAll (K : PySem.W.Frag) (G : Hp) : List V → List PyData → Prop
  | nil : DtAll K G [] []
  | cons {v : V} {vs : List V} {d : PyData} {ds : List PyData} : Dt K G v d → DtAll K G vs ds → DtAll K G (v :: vs) (d :: ds)
inductive DtKvs (K : PySem.W.Frag) (G : Hp) : List (Key × V) → List (PyData × PyData) → Prop
  | nil : DtKvs K G [] []
  | cons {k : Key} {v : V} {vs : List (Key × V)} {d : PyData} {ds : List (PyData × PyData)} : Dt K G v d → DtKvs K G vs ds → DtKvs K G ((k, v) :: vs) ((keyD k, d) :: ds)
end
mutual
theorem same_dt {K : PySem.W.Frag} {H H' : Hp} (e : Same H H') : ∀ {v : V} {d : PyData}, Dt K H v d → Dt K H' v d
  | _, _, .non => .non
  | _, _, .bl b => .bl b
  | _, _, .int i => .int i
  | _, _, .str x => .str x
  | _, _, .lst h hs => .lst (e _ _ h) (same_dts e hs)
  | _, _, .tup h hs => .tup (same_tup e h) (same_dts e hs)
  | _, _, .dct h hs => .dct (e _ _ h) (same_dtk e hs)
theorem same_dts {K : PySem.W.Frag} {H H' : Hp} (e : Same H H') : ∀ {vs : List V} {ds : List PyData}, DtAll K H vs ds → DtAll K H' vs ds
  | _, _, .nil => .nil
  | _, _, .cons h hs => .cons (same_dt e h) (same_dts e hs)
theorem same_dtk {K : PySem.W.Frag} {H H' : Hp} (e : Same H H') : ∀ {vs : List (Key × V)} {ds : List (PyData × PyData)}, DtKvs K H vs ds → DtKvs K H' vs ds
  | _, _, .nil => .nil
  | _, _, .cons h hs => .cons (same_dt e h) (same_dtk e hs)
end
mutual
/-- without dicts it is the layer's own word -/
theorem dt_dp {K : PySem.W.Frag} {G : Hp} : ∀ {v : V} {d : PyData}, Dt K G v d → d.canLay0 = true → Dp K G v d
  | _, _, .non, _ => .non
  | _, _, .bl b, _ => .bl b
  | _, _, .int i, _ => .int i
  | _, _, .str x, _ => .str x
  | _, _, .lst h hs, c => .lst (SqL.of h) (dts_dps hs (by unfold PyData.canLay0 at c; exact c))
  | _, _, .tup h hs, c => .tup h (dts_dps hs (by unfold PyData.canLay0 at c; exact c))
  | _, _, .dct _ _, c => by unfold PyData.canLay0 at c; cases c
theorem dts_dps {K : PySem.W.Frag} {G : Hp} : ∀ {vs : List V} {ds : List PyData}, DtAll K G vs ds → PyData.canLayAll0 ds = true → DpAll K G vs ds
  | _, _, .nil, _ => .nil
  | _, _, .cons h hs, c => by
    unfold PyData.canLayAll0 at c
    simp only [Bool.and_eq_true] at c
    exact .cons (dt_dp h c.1) (dts_dps hs c.2)
end

/-! ### what is known (G, never changed again) within the heap (H); cells that may be written are in H alone -/
/-- from (G, H) to (G', H'): what was known stays known, all that was tracked stands as it was but at M, what is newly known is new -/
structure Ext (M : List Addr) (G H G' H' : Hp) : Prop where
  gg : Same G G'
  gh : Same G' H'
  hh : ∀ a o, H a = some o → a ∉ M → H' a = some o
  nw : ∀ a o, G' a = some o → G a = some o ∨ H a = none
  dm : ∀ a, H' a = none → H a = none
theorem Ext.refl {M : List Addr} {G H : Hp} (gh : Same G H) : Ext M G H G H := ⟨Same.refl G, gh, fun _ _ e _ => e, fun _ _ e => .inl e, fun _ e => e⟩
section
variable {M M' : List Addr} {G H G1 H1 G2 H2 : Hp} {p : Addr} {o o' : HO}
/-- a step: at M' alone things change, each of them in M or new -/
theorem Ext.trans (a : Ext M G H G1 H1) (b : Ext M' G1 H1 G2 H2) (hm : ∀ x ∈ M', x ∈ M ∨ H x = none) : Ext M G H G2 H2 := by
  refine ⟨a.gg.trans b.gg, b.gh, fun x u e n => b.hh x u (a.hh x u e n) fun z => (hm x z).elim n fun q => ?_, fun x u e => ?_, fun x e => a.dm x (b.dm x e)⟩
  · rw [e] at q; cases q
  · rcases b.nw x u e with z | z
    · exact a.nw x u z
    · exact .inr (a.dm x z)
theorem Ext.same (a : Ext M G H G1 H1) (b : Ext [] G1 H1 G2 H2) : Ext M G H G2 H2 := a.trans b fun _ h => nomatch h
theorem Ext.mono (a : Ext M G H G1 H1) (hm : ∀ x ∈ M, x ∈ M' ∨ H x = none) : Ext M' G H G1 H1 := by
  refine ⟨a.gg, a.gh, fun x u e n => a.hh x u e fun z => (hm x z).elim n fun q => ?_, a.nw, a.dm⟩
  rw [e] at q; cases q
/-- a new thing, known from now on -/
theorem Ext.new (gh : Same G H) (h : H p = none) : Ext M G H (upd G p o) (upd H p o) := by
  refine ⟨same_new (gh.free h), fun a u e => ?_, fun a u e _ => same_new h a u e, fun a u e => ?_, fun a e => ?_⟩
  · by_cases q : a = p
    · subst q; rw [upd_same] at e ⊢; exact e
    · rw [upd_ne q] at e ⊢; exact gh a u e
  · by_cases q : a = p
    · subst q; exact .inr h
    · rw [upd_ne q] at e; exact .inl e
  · by_cases q : a = p
    · subst q; exact h
    · rw [upd_ne q] at e; exact e
/-- a new thing that may be written later -/
theorem Ext.cell (gh : Same G H) (h : H p = none) : Ext M G H G (upd H p o) := by
  refine ⟨Same.refl G, fun a u e => same_new h a u (gh a u e), fun a u e _ => same_new h a u e, fun a u e => .inl e, fun a e => ?_⟩
  by_cases q : a = p
  · subst q; exact h
  · rw [upd_ne q] at e; exact e
/-- a cell is written -/
theorem Ext.put (gh : Same G H) (hg : G p = none) (h : H p = some o') : Ext [p] G H G (upd H p o) := by
  refine ⟨Same.refl G, fun a u e => ?_, fun a u e n => ?_, fun a u e => .inl e, fun a e => ?_⟩
  · rw [upd_ne (ne_of_none e hg)]; exact gh a u e
  · have q : a ≠ p := fun z => n (by simp [z])
    rw [upd_ne q]; exact e
  · by_cases q : a = p
    · subst q; rw [upd_same] at e; cases e
    · rw [upd_ne q] at e; exact e
/-- a cell is known from now on -/
theorem Ext.know (gh : Same G H) (h : H p = some o) (hg : G p = none) (e : Ext M G1 H1 G H) (hn : H1 p = none) : Ext M G1 H1 (upd G p o) H := by
  refine ⟨e.gg.trans (same_new hg), fun a u q => ?_, e.hh, fun a u q => ?_, e.dm⟩
  · by_cases z : a = p
    · subst z; rw [upd_same] at q; rw [h, q]
    · rw [upd_ne z] at q; exact gh a u q
  · by_cases z : a = p
    · subst z; exact .inr hn
    · rw [upd_ne z] at q; exact e.nw a u q
/-- nothing that was tracked is changed -/
theorem Ext.quiet (gh : Same G H) (e : Same H H1) : Ext M G H G H1 := ⟨Same.refl G, gh.trans e, fun a u q _ => e a u q, fun _ _ q => .inl q, fun _ q => e.free q⟩
/-- what isn't known and was tracked isn't known later -/
theorem Ext.free (e : Ext M G H G1 H1) (hg : G p = none) (h : H p = some o) : G1 p = none := by
  cases q : G1 p with
  | none => rfl
  | some u =>
    rcases e.nw p u q with z | z
    · rw [hg] at z; cases z
    · rw [h] at z; cases z
theorem Ext.keep (e : Ext M G H G1 H1) (h : H p = some o) (n : p ∉ M) : H1 p = some o := e.hh p o h n
end

/-! ### data -/
section
variable {K : PySem.W.Frag} {G H : Hp} {v : V} {ds : List PyData} {d : PyData}
theorem dt_list (h : Dt K G v (.list ds)) (gh : Same G H) : ∃ a xs, v = .ref a ∧ SqL K H a xs ∧ DtAll K G xs ds := by
  cases h with
  | lst h hs => exact ⟨_, _, rfl, SqL.of (gh _ _ h), hs⟩
theorem dt_lst (h : Dt K G v (.list ds)) (gh : Same G H) : ∃ a xs, v = .ref a ∧ H a = some (.lst xs) ∧ DtAll K G xs ds := by
  cases h with
  | lst h hs => exact ⟨_, _, rfl, gh _ _ h, hs⟩
theorem dt_tuple (h : Dt K G v (.tuple ds)) (gh : Same G H) : ∃ a xs, v = .ref a ∧ SqT K H a xs ∧ DtAll K G xs ds := by
  cases h with
  | tup h hs => exact ⟨_, _, rfl, same_tup gh h, hs⟩
theorem dt_int {i : Int} (h : Dt K G v (.int i)) : v = .int i := by cases h; rfl
theorem dt_str {x : Str} (h : Dt K G v (.str x)) : v = .str x := by cases h; rfl
theorem dt_bool {b : Bool} (h : Dt K G v (.bool b)) : v = .bl b := by cases h; rfl
theorem dt_none (h : Dt K G v .none) : v = .non := by cases h; rfl
theorem dts_len : ∀ {xs : List V} {ds : List PyData}, DtAll K G xs ds → xs.length = ds.length
  | _, _, .nil => rfl
  | _, _, .cons _ h => by simp [dts_len h]
theorem dts_at : ∀ {xs : List V} {ds : List PyData} {i : Nat}, DtAll K G xs ds → ds[i]? = some d → ∃ x, xs[i]? = some x ∧ Dt K G x d
  | _, _, _, .nil, e => by simp at e
  | _, _, 0, .cons h _, e => by
    simp only [List.getElem?_cons_zero, Option.some.injEq] at e
    subst e
    exact ⟨_, rfl, h⟩
  | _, _, i + 1, .cons _ h, e => by
    obtain ⟨x, e1, e2⟩ := dts_at (i := i) h (by simpa using e)
    exact ⟨x, by simpa using e1, e2⟩
theorem dts_at' : ∀ {xs : List V} {ds : List PyData} {i : Nat} {x : V}, DtAll K G xs ds → xs[i]? = some x → ∃ d, ds[i]? = some d ∧ Dt K G x d
  | _, _, _, _, .nil, e => by simp at e
  | _, _, 0, _, .cons h _, e => by
    simp only [List.getElem?_cons_zero, Option.some.injEq] at e
    subst e
    exact ⟨_, rfl, h⟩
  | _, _, i + 1, x, .cons _ h, e => by
    obtain ⟨d, e1, e2⟩ := dts_at' (i := i) (x := x) h (by simpa using e)
    exact ⟨d, by simpa using e1, e2⟩
theorem dts_app : ∀ {xs ys : List V} {ds es : List PyData}, DtAll K G xs ds → DtAll K G ys es → DtAll K G (xs ++ ys) (ds ++ es)
  | _, _, _, _, .nil, h => h
  | _, _, _, _, .cons a b, h => .cons a (dts_app b h)
theorem dts_take : ∀ {xs : List V} {ds : List PyData} (n : Nat), DtAll K G xs ds → DtAll K G (xs.take n) (ds.take n)
  | _, _, 0, _ => .nil
  | _, _, _ + 1, .nil => .nil
  | _, _, n + 1, .cons a b => .cons a (dts_take n b)
theorem dts_drop : ∀ {xs : List V} {ds : List PyData} (n : Nat), DtAll K G xs ds → DtAll K G (xs.drop n) (ds.drop n)
  | _, _, 0, h => h
  | _, _, _ + 1, .nil => .nil
  | _, _, n + 1, .cons _ b => dts_drop n b
/-- of ints, of texts: the values themselves -/
theorem dts_ints : ∀ {xs : List V} {ns : List Int}, DtAll K G xs (ns.map PyData.int) → xs = ns.map V.int
  | _, [], .nil => rfl
  | _, n :: ns, .cons a b => by rw [dt_int a, dts_ints b]; rfl
theorem dts_strs : ∀ {xs : List V} {ss : List Str}, DtAll K G xs (ss.map PyData.str) → xs = ss.map V.str
  | _, [], .nil => rfl
  | _, n :: ns, .cons a b => by rw [dt_str a, dts_strs b]; rfl
theorem ints_dts : ∀ (ns : List Int), DtAll K G (ns.map V.int) (ns.map PyData.int)
  | [] => .nil
  | n :: ns => .cons (.int n) (ints_dts ns)
theorem strs_dts : ∀ (ns : List Str), DtAll K G (ns.map V.str) (ns.map PyData.str)
  | [] => .nil
  | n :: ns => .cons (.str n) (strs_dts ns)
theorem dt_pair {r c : Int} (h : Dt K G v (.tuple [.int r, .int c])) (gh : Same G H) : ∃ a, v = .ref a ∧ SqT K H a [.int r, .int c] := by
  obtain ⟨a, xs, rfl, h1, h2⟩ := dt_tuple h gh
  have e := dts_ints (ns := [r, c]) h2
  subst e
  exact ⟨a, rfl, h1⟩
theorem pair_dt {r c : Int} {a : Addr} (h : G a = some (.tup [.int r, .int c])) : Dt K G (.ref a) (.tuple [.int r, .int c]) := .tup (SqT.of h) (ints_dts [r, c])
end
/-- one of some written ints -/
theorem at_menu {xs : List Int} {i : Int} (h0 : 0 ≤ i) (h1 : i < (xs.length : Int)) : ∃ z, atI (xs.map V.int) i = some (.int z) ∧ xs[i.toNat]? = some z ∧ z ∈ xs := by
  obtain ⟨x, e1, e2⟩ := atI_in (xs := xs.map V.int) h0 (by rw [List.length_map]; exact h1)
  rw [List.getElem?_map] at e2
  cases e : xs[i.toNat]? with
  | none => rw [e] at e2; cases e2
  | some z =>
    rw [e] at e2
    cases e2
    exact ⟨z, e1, rfl, List.mem_of_getElem? e⟩
/-! ### what things are -/
def tyD : PyData → String
  | .none => "NoneType"
  | .bool _ => "bool"
  | .int _ => "int"
  | .str _ => "str"
  | .list _ => "list"
  | .tuple _ => "tuple"
  | .dict _ => "dict"
theorem ty_of {K : PySem.W.Frag} {G H : Hp} {v : V} {d : PyData} (h : Dt K G v d) (gh : Same G H) : TyX K H v (.type (tyD d)) := by
  cases h with
  | dct h => exact .base (.dK (gh _ _ h))
  | non => exact .base .non
  | bl b => exact .base (.bl b)
  | int i => exact .base (.int i)
  | str x => exact .base (.str x)
  | lst h _ => exact .base (.lst (gh _ _ h))
  | tup h _ =>
    rcases same_tup gh h with (h | ⟨o, h⟩) | ⟨o, its, n, hk, hc, _⟩
    · exact .base (.tup h)
    · exact .fTuple h
    · exact .kTuple hk hc
/-- what a def tells is data d, all else stays -/
def Gives (K : PySem.W.Frag) (G H : Hp) (d : PyData) (Q : VK) : Prop := ∀ (v : V) (G' H' : Hp), Ext [] G H G' H' → Dt K G' v d → Q v H'
end S

set_option linter.unusedVariables false
namespace S
open PySem L2
/-! ### pure evaluation: in every later state the same data comes out, nothing that was tracked is changed -/
def ED (K : PySem.W.Frag) (G : Hp) (te : TE) (σ : L2.St) (d : PyData) : Prop := ∀ G1 H, Same G G1 → Same G1 H → ∀ Q : VK, (∀ v G2 H2, Ext [] G1 H G2 H2 → Dt K G2 v d → Q v H2) → te σ H Q
def ET (_ : PySem.W.Frag) (G : Hp) (tt : TT) (σ : L2.St) (b : Bool) : Prop := ∀ G1 H, Same G G1 → Same G1 H → ∀ Q : Bool → Hp → Prop, (∀ G2 H2, Ext [] G1 H G2 H2 → Q b H2) → tt σ H Q
def EA (K : PySem.W.Frag) (G : Hp) (ta : TA) (σ : L2.St) (ds : List PyData) : Prop := ∀ G1 H, Same G G1 → Same G1 H → ∀ Q : List V → Hp → Prop, (∀ vs G2 H2, Ext [] G1 H G2 H2 → DtAll K G2 vs ds → Q vs H2) → ta σ H Q
def EO (_ : PySem.W.Frag) (G : Hp) (to : TO) (σ : L2.St) (o : Option Int) : Prop := ∀ G1 H, Same G G1 → Same G1 H → ∀ Q : Option Int → Hp → Prop, (∀ G2 H2, Ext [] G1 H G2 H2 → Q o H2) → to σ H Q
/-- operations by data -/
def R2D (K : PySem.W.Frag) (r : R2) (d1 d2 d : PyData) : Prop := ∀ x y G H, Same G H → Dt K G x d1 → Dt K G y d2 → ∀ Q : VK, (∀ v G2 H2, Ext [] G H G2 H2 → Dt K G2 v d → Q v H2) → r x y H Q
def CBD (K : PySem.W.Frag) (r : List V → Hp → VK → Prop) (ds : List PyData) (d : PyData) : Prop := ∀ vs G H, Same G H → DtAll K G vs ds → ∀ Q : VK, (∀ v G2 H2, Ext [] G H G2 H2 → Dt K G2 v d → Q v H2) → r vs H Q
def MD (K : PySem.W.Frag) (r : V → List V → Hp → VK → Prop) (d0 : PyData) (ds : List PyData) (d : PyData) : Prop := ∀ x vs G H, Same G H → Dt K G x d0 → DtAll K G vs ds → ∀ Q : VK, (∀ v G2 H2, Ext [] G H G2 H2 → Dt K G2 v d → Q v H2) → r x vs H Q
/-- a pure def: of data ds it tells data d -/
def PFn (K : PySem.W.Frag) (R : List PyData → PyData → Prop) : Sp := fun vs H Q _ => ∃ (G : Hp) (ds : List PyData) (d : PyData), Same G H ∧ DtAll K G vs ds ∧ R ds d ∧ ∀ v G' H', Ext [] G H G' H' → Dt K G' v d → Q v H'
section
variable {K : PySem.W.Frag} {G G' : Hp} {σ : L2.St} {ta tb te : TE} {t u : TT} {tas : TA} {d d1 d2 : PyData} {ds : List PyData} {v : V} {r : R2} {b c : Bool}
theorem ED.mono (h : ED K G te σ d) (e : Same G G') : ED K G' te σ d := fun G1 H a => h G1 H (e.trans a)
theorem ET.mono (h : ET K G t σ b) (e : Same G G') : ET K G' t σ b := fun G1 H a => h G1 H (e.trans a)
theorem EA.mono (h : EA K G tas σ ds) (e : Same G G') : EA K G' tas σ ds := fun G1 H a => h G1 H (e.trans a)
theorem ED.to {d' : PyData} (h : ED K G te σ d) (e : d = d') : ED K G te σ d' := e ▸ h
theorem ET.to (h : ET K G t σ b) (e : b = c) : ET K G t σ c := e ▸ h
theorem ed_var {i : Nat} (h : σ[i]? = some (some v)) (hv : Dt K G v d) : ED K G (tVar i) σ d := fun G1 H a gh Q q => ⟨v, h, q v G1 H (Ext.refl gh) (same_dt a hv)⟩
theorem ed_c (hv : ∀ G, Dt K G v d) : ED K G (tC v) σ d := fun G1 H _ gh Q q => q v G1 H (Ext.refl gh) (hv G1)
theorem ed_int {i : Int} : ED K G (tC (.int i)) σ (.int i) := ed_c fun _ => .int i
theorem ed_str {x : Str} : ED K G (tC (.str x)) σ (.str x) := ed_c fun _ => .str x
theorem ed_bl : ED K G (tC (.bl b)) σ (.bool b) := ed_c fun _ => .bl b
theorem ed_non : ED K G (tC .non) σ .none := ed_c fun _ => .non
theorem ed_op (ha : ED K G ta σ d1) (hb : ED K G tb σ d2) (hr : R2D K r d1 d2 d) : ED K G (tOp r ta tb) σ d := fun G1 H a gh Q q =>
  ha G1 H a gh _ fun x G2 H2 e2 hx => hb G2 H2 (a.trans e2.gg) e2.gh _ fun y G3 H3 e3 hy => hr x y G3 H3 e3.gh (same_dt e3.gg hx) hy Q fun v G4 H4 e4 hv => q v G4 H4 ((e2.same e3).same e4) hv
theorem r2_i {g : Int → Int → Int} {i j : Int} : R2D K (rI0 fun i j => .int (g i j)) (.int i) (.int j) (.int (g i j)) := fun x y G H gh hx hy Q q => by
  rw [dt_int hx, dt_int hy]
  exact ⟨i, j, rfl, rfl, q _ G H (Ext.refl gh) (.int _)⟩
theorem r2_b {g : Int → Int → Bool} {i j : Int} : R2D K (rI0 fun i j => .bl (g i j)) (.int i) (.int j) (.bool (g i j)) := fun x y G H gh hx hy Q q => by
  rw [dt_int hx, dt_int hy]
  exact ⟨i, j, rfl, rfl, q _ G H (Ext.refl gh) (.bl _)⟩
theorem r2_c {C : Int → Int → Prop} {g : Int → Int → Int} {i j : Int} (hc : C i j) : R2D K (rI C fun i j => .int (g i j)) (.int i) (.int j) (.int (g i j)) := fun x y G H gh hx hy Q q => by
  rw [dt_int hx, dt_int hy]
  exact ⟨i, j, rfl, rfl, hc, q _ G H (Ext.refl gh) (.int _)⟩
theorem r2_eqS {x y : Str} : R2D K rEq (.str x) (.str y) (.bool (decide (x = y))) := fun v w G H gh hx hy Q q => by
  rw [dt_str hx, dt_str hy]
  refine ⟨rfl, ?_⟩
  rw [show decide (V.str x = V.str y) = decide (x = y) by simp]
  exact q _ G H (Ext.refl gh) (.bl _)
theorem r2_neS {x y : Str} : R2D K rNe (.str x) (.str y) (.bool (!decide (x = y))) := fun v w G H gh hx hy Q q => by
  rw [dt_str hx, dt_str hy]
  refine ⟨rfl, ?_⟩
  rw [show decide (V.str x = V.str y) = decide (x = y) by simp]
  exact q _ G H (Ext.refl gh) (.bl _)
theorem r2_eqI {x y : Int} : R2D K rEq (.int x) (.int y) (.bool (decide (x = y))) := fun v w G H gh hx hy Q q => by
  rw [dt_int hx, dt_int hy]
  refine ⟨rfl, ?_⟩
  rw [show decide (V.int x = V.int y) = decide (x = y) by simp]
  exact q _ G H (Ext.refl gh) (.bl _)
theorem r2_neI {x y : Int} : R2D K rNe (.int x) (.int y) (.bool (!decide (x = y))) := fun v w G H gh hx hy Q q => by
  rw [dt_int hx, dt_int hy]
  refine ⟨rfl, ?_⟩
  rw [show decide (V.int x = V.int y) = decide (x = y) by simp]
  exact q _ G H (Ext.refl gh) (.bl _)
theorem r2_eqD (h1 : SeqAt.shaped d1 = true) (h2 : SeqAt.shaped d2 = true) : R2D K (rEqD K) d1 d2 (.bool (PyData.eqv d1 d2)) := fun v w G H gh hx hy Q q =>
  ⟨d1, d2, dt_dp (same_dt gh hx) (SeqAt.canLay_of_shaped h1), dt_dp (same_dt gh hy) (SeqAt.canLay_of_shaped h2), h1, h2, q _ G H (Ext.refl gh) (.bl _)⟩
theorem r2_neD (h1 : SeqAt.shaped d1 = true) (h2 : SeqAt.shaped d2 = true) : R2D K (rNeD K) d1 d2 (.bool (!PyData.eqv d1 d2)) := fun v w G H gh hx hy Q q =>
  ⟨d1, d2, dt_dp (same_dt gh hx) (SeqAt.canLay_of_shaped h1), dt_dp (same_dt gh hy) (SeqAt.canLay_of_shaped h2), h1, h2, q _ G H (Ext.refl gh) (.bl _)⟩
theorem r2_addS {x y : Str} (h : x.length + y.length ≤ sizeLine) : R2D K (fun x y H Q => ∃ i j, x = .str i ∧ y = .str j ∧ i.length + j.length ≤ sizeLine ∧ Q (.str (i ++ j)) H) (.str x) (.str y) (.str (x ++ y)) := fun v w G H gh hx hy Q q => by
  rw [dt_str hx, dt_str hy]
  exact ⟨x, y, rfl, rfl, h, q _ G H (Ext.refl gh) (.str _)⟩
theorem atI_dts {xs : List V} {i : Int} (hs : DtAll K G xs ds) (h : atI ds i = some d) : ∃ x, atI xs i = some x ∧ Dt K G x d := by
  unfold atI at h ⊢
  rw [dts_len hs]
  cases e : ixN ds.length i with
  | none => rw [e] at h; cases h
  | some j =>
    rw [e] at h
    obtain ⟨x, h1, h2⟩ := dts_at hs (show ds[j]? = some d from h)
    exact ⟨x, h1, h2⟩
theorem r2_ixL {i : Int} (h : atI ds i = some d) : R2D K (rIxL K) (.list ds) (.int i) d := fun v w G H gh hx hy Q q => by
  obtain ⟨a, xs, rfl, hl, hs⟩ := dt_list hx gh
  rw [dt_int hy]
  obtain ⟨x, h1, h2⟩ := atI_dts hs h
  exact ⟨a, xs, i, x, rfl, rfl, hl, h1, q _ G H (Ext.refl gh) h2⟩
theorem r2_ixT {i : Int} (h : atI ds i = some d) : R2D K (rIxT K) (.tuple ds) (.int i) d := fun v w G H gh hx hy Q q => by
  obtain ⟨a, xs, rfl, hl, hs⟩ := dt_tuple hx gh
  rw [dt_int hy]
  obtain ⟨x, h1, h2⟩ := atI_dts hs h
  exact ⟨a, xs, i, x, rfl, rfl, hl, h1, q _ G H (Ext.refl gh) h2⟩
theorem r2_ixS {z : Str} {i : Int} {c : Nat} (hz : z.length ≤ sizeLine) (h : atI z.cps.toList i = some c) : R2D K rIxS (.str z) (.int i) (.str ⟨#[c]⟩) := fun v w G H gh hx hy Q q => by
  rw [dt_str hx, dt_int hy]
  exact ⟨z, i, c, rfl, rfl, hz, h, q _ G H (Ext.refl gh) (.str _)⟩
theorem dts1 {vs : List V} (h : DtAll K G vs [d]) : ∃ v, vs = [v] ∧ Dt K G v d := by
  cases h with
  | cons h hs => cases hs; exact ⟨_, rfl, h⟩
theorem dtsN {vs : List V} (h : DtAll K G vs (d :: ds)) : ∃ v ws, vs = v :: ws ∧ Dt K G v d ∧ DtAll K G ws ds := by
  cases h with
  | cons h hs => exact ⟨_, _, rfl, h, hs⟩
theorem dts2 {vs : List V} (h : DtAll K G vs [d1, d2]) : ∃ v w, vs = [v, w] ∧ Dt K G v d1 ∧ Dt K G w d2 := by
  obtain ⟨v, ws, rfl, h1, hs⟩ := dtsN h
  obtain ⟨w, rfl, h2⟩ := dts1 hs
  exact ⟨v, w, rfl, h1, h2⟩
theorem dts3 {d3 : PyData} {vs : List V} (h : DtAll K G vs [d1, d2, d3]) : ∃ v w x, vs = [v, w, x] ∧ Dt K G v d1 ∧ Dt K G w d2 ∧ Dt K G x d3 := by
  obtain ⟨v, ws, rfl, h1, hs⟩ := dtsN h
  obtain ⟨w, x, rfl, h2, h3⟩ := dts2 hs
  exact ⟨v, w, x, rfl, h1, h2, h3⟩
theorem dts4 {d3 d4 : PyData} {vs : List V} (h : DtAll K G vs [d1, d2, d3, d4]) : ∃ v w x y, vs = [v, w, x, y] ∧ Dt K G v d1 ∧ Dt K G w d2 ∧ Dt K G x d3 ∧ Dt K G y d4 := by
  obtain ⟨v, ws, rfl, h1, hs⟩ := dtsN h
  obtain ⟨w, x, y, rfl, h2, h3, h4⟩ := dts3 hs
  exact ⟨v, w, x, y, rfl, h1, h2, h3, h4⟩
theorem dts5 {d3 d4 d5 : PyData} {vs : List V} (h : DtAll K G vs [d1, d2, d3, d4, d5]) : ∃ v w x y z, vs = [v, w, x, y, z] ∧ Dt K G v d1 ∧ Dt K G w d2 ∧ Dt K G x d3 ∧ Dt K G y d4 ∧ Dt K G z d5 := by
  obtain ⟨v, ws, rfl, h1, hs⟩ := dtsN h
  obtain ⟨w, x, y, z, rfl, h2, h3, h4, h5⟩ := dts4 hs
  exact ⟨v, w, x, y, z, rfl, h1, h2, h3, h4, h5⟩
/-! tests -/
theorem et_test (h : ED K G te σ (.bool b)) : ET K G (tTest te) σ b := fun G1 H a gh Q q => h G1 H a gh _ fun v G2 H2 e hv => ⟨b, dt_bool hv, q G2 H2 e⟩
theorem et_B (h : ED K G te σ (.bool b)) : ET K G (tB te) σ b := fun G1 H a gh Q q => h G1 H a gh _ fun v G2 H2 e hv => ⟨b, dt_bool hv, q G2 H2 e⟩
theorem et_yes : ET K G tYes σ true := fun G1 H a gh Q q => q G1 H (Ext.refl gh)
theorem et_not (h : ET K G t σ b) : ET K G (tNot t) σ (!b) := fun G1 H a gh Q q => h G1 H a gh _ fun G2 H2 e => q G2 H2 e
theorem et_and (h : ET K G t σ b) (h2 : b = true → ET K G u σ c) : ET K G (tAnd t u) σ (b && c) := fun G1 H a gh Q q => h G1 H a gh _ fun G2 H2 e => by
  cases b with
  | true => exact iteT (h2 rfl G2 H2 (a.trans e.gg) e.gh Q fun G3 H3 e3 => q G3 H3 (e.same e3))
  | false => exact iteF (q G2 H2 e)
theorem et_or (h : ET K G t σ b) (h2 : b = false → ET K G u σ c) : ET K G (tOr t u) σ (b || c) := fun G1 H a gh Q q => h G1 H a gh _ fun G2 H2 e => by
  cases b with
  | true => exact iteT (q G2 H2 e)
  | false => exact iteF (h2 rfl G2 H2 (a.trans e.gg) e.gh Q fun G3 H3 e3 => q G3 H3 (e.same e3))
theorem ed_and (h : ED K G ta σ (.bool b)) (h2 : b = true → ED K G tb σ (.bool c)) : ED K G (tAndV ta tb) σ (.bool (b && c)) := fun G1 H a gh Q q => h G1 H a gh _ fun v G2 H2 e hv => ⟨b, dt_bool hv, by
  cases b with
  | true => exact iteT (h2 rfl G2 H2 (a.trans e.gg) e.gh Q fun v G3 H3 e3 hv => q v G3 H3 (e.same e3) hv)
  | false => exact iteF (q _ G2 H2 e (.bl _))⟩
theorem ed_or (h : ED K G ta σ (.bool b)) (h2 : b = false → ED K G tb σ (.bool c)) : ED K G (tOrV ta tb) σ (.bool (b || c)) := fun G1 H a gh Q q => h G1 H a gh _ fun v G2 H2 e hv => ⟨b, dt_bool hv, by
  cases b with
  | true => exact iteT (q _ G2 H2 e (.bl _))
  | false => exact iteF (h2 rfl G2 H2 (a.trans e.gg) e.gh Q fun v G3 H3 e3 hv => q v G3 H3 (e.same e3) hv)⟩
theorem ed_not (h : ED K G ta σ (.bool b)) : ED K G (tNotV ta) σ (.bool (!b)) := fun G1 H a gh Q q => h G1 H a gh _ fun v G2 H2 e hv => ⟨b, dt_bool hv, q _ G2 H2 e (.bl _)⟩
theorem ed_if (h : ET K G t σ b) (h1 : b = true → ED K G ta σ d) (h2 : b = false → ED K G tb σ d) : ED K G (tIf t ta tb) σ d := fun G1 H a gh Q q => h G1 H a gh _ fun G2 H2 e => by
  cases b with
  | true => exact iteT (h1 rfl G2 H2 (a.trans e.gg) e.gh Q fun v G3 H3 e3 hv => q v G3 H3 (e.same e3) hv)
  | false => exact iteF (h2 rfl G2 H2 (a.trans e.gg) e.gh Q fun v G3 H3 e3 hv => q v G3 H3 (e.same e3) hv)
/-! arguments, displays, calls -/
theorem ea_nil : EA K G tNil σ [] := fun G1 H a gh Q q => q [] G1 H (Ext.refl gh) .nil
theorem ea_cons (h : ED K G ta σ d) (hs : EA K G tas σ ds) : EA K G (tCons ta tas) σ (d :: ds) := fun G1 H a gh Q q => h G1 H a gh _ fun v G2 H2 e hv => hs G2 H2 (a.trans e.gg) e.gh _ fun vs G3 H3 e3 hvs => q _ G3 H3 (e.same e3) (.cons (same_dt e3.gg hv) hvs)
theorem ed_tup (h : EA K G tas σ ds) (hl : ds.length ≤ 1000 := by first | decide | simp) : ED K G (tTup tas) σ (.tuple ds) := fun G1 H a gh Q q => h G1 H a gh _ fun vs G2 H2 e hvs =>
  ⟨by rw [dts_len hvs]; exact szn _ hl, fun p hp => q _ _ _ (e.same (Ext.new e.gh hp)) (.tup (SqT.of upd_same) (same_dts (same_new (e.gh.free hp)) hvs))⟩
theorem ed_lst (h : EA K G tas σ ds) (hl : ds.length ≤ 1000 := by first | decide | simp) : ED K G (tLst tas) σ (.list ds) := fun G1 H a gh Q q => h G1 H a gh _ fun vs G2 H2 e hvs =>
  ⟨by rw [dts_len hvs]; exact szn _ hl, fun p hp => q _ _ _ (e.same (Ext.new e.gh hp)) (.lst upd_same (same_dts (same_new (e.gh.free hp)) hvs))⟩
theorem ed_cb {rr : List V → Hp → VK → Prop} (h : EA K G tas σ ds) (hr : CBD K rr ds d) : ED K G (tCB rr tas) σ d := fun G1 H a gh Q q => h G1 H a gh _ fun vs G2 H2 e hvs => hr vs G2 H2 e.gh hvs Q fun v G3 H3 e3 hv => q v G3 H3 (e.same e3) hv
theorem ed_fn {R : List PyData → PyData → Prop} {E : XK} (h : EA K G tas σ ds) (hr : R ds d) : ED K G (tCall (PFn K R) [] E tas) σ d := fun G1 H a gh Q q => h G1 H a gh _ fun vs G2 H2 e hvs => by
  rw [List.append_nil]
  exact ⟨G2, ds, d, e.gh, hvs, hr, fun v G3 H3 e3 hv => q v G3 H3 (e.same e3) hv⟩
theorem ed_m1 {rr : V → List V → Hp → VK → Prop} {a : Str} (ho : ED K G ta σ (.str a)) (he : ED K G te σ d2) (hr : MD K rr (.str a) [d2] d) : ED K G (tM1 rr ta te) σ d := fun G1 H g gh Q q => ho G1 H g gh _ fun x G2 H2 e2 hx => ⟨⟨a, dt_str hx⟩,
  he G2 H2 (g.trans e2.gg) e2.gh _ fun y G3 H3 e3 hy => hr x [y] G3 H3 e3.gh (same_dt e3.gg hx) (.cons hy .nil) Q fun v G4 H4 e4 hv => q v G4 H4 ((e2.same e3).same e4) hv⟩
theorem ed_un {f : Int → Int} {i : Int} (h : ED K G ta σ (.int i)) : ED K G (tUn (rU fun i => .int (f i)) ta) σ (.int (f i)) := fun G1 H a gh Q q => h G1 H a gh _ fun v G2 H2 e hv => ⟨i, dt_int hv, q _ G2 H2 e (.int _)⟩
/-! built-ins by data -/
theorem cb_isi {b : String} {ans : Bool} (hk : kitB (tyD d) b = some ans) : ∀ {vs : List V} {G H : Hp}, Same G H → (∃ v, vs = [v, .ty b] ∧ Dt K G v d) → ∀ Q : VK, (∀ G2 H2, Ext [] G H G2 H2 → Q (.bl ans) H2) → rIsi K vs H Q := fun {vs G H} gh h Q q => by
  obtain ⟨v, rfl, hv⟩ := h
  exact ⟨v, .ty b, _, _, ans, rfl, .ty b, ty_of hv gh, kit_ty hk, q G H (Ext.refl gh)⟩
/-- isinstance(e, T) -/
theorem ed_isi {T : String} {ans : Bool} (h : ED K G ta σ d) (hk : kitB (tyD d) T = some ans) : ED K G (tCB (rIsi K) (tCons ta (tCons (tC (.ty T)) tNil))) σ (.bool ans) := fun G1 H a gh Q q => h G1 H a gh _ fun v G2 H2 e hv =>
  ⟨v, .ty T, _, _, ans, rfl, .ty T, ty_of hv e.gh, kit_ty hk, q _ G2 H2 e (.bl _)⟩
theorem cb_lenL : CBD K (fun xs H Q => ∃ x n, xs = [x] ∧ LenV K x H n ∧ Q (.int n) H) [.list ds] (.int ds.length) := fun vs G H gh h Q q => by
  cases h with
  | cons h hs =>
    cases hs
    obtain ⟨a, xs, rfl, hl, hx⟩ := dt_list h gh
    exact ⟨_, ds.length, rfl, .inl ⟨xs, hl, (dts_len hx).symm⟩, q _ G H (Ext.refl gh) (.int _)⟩
theorem cb_lenT : CBD K (fun xs H Q => ∃ x n, xs = [x] ∧ LenV K x H n ∧ Q (.int n) H) [.tuple ds] (.int ds.length) := fun vs G H gh h Q q => by
  cases h with
  | cons h hs =>
    cases hs
    obtain ⟨a, xs, rfl, hl, hx⟩ := dt_tuple h gh
    exact ⟨_, ds.length, rfl, .inr ⟨xs, hl, (dts_len hx).symm⟩, q _ G H (Ext.refl gh) (.int _)⟩
theorem cb_lenS {z : Str} (hz : z.length ≤ sizeLine) : CBD K (fun xs H Q => ∃ x n, xs = [x] ∧ LenV K x H n ∧ Q (.int n) H) [.str z] (.int z.length) := fun vs G H gh h Q q => by
  cases h with
  | cons h hs =>
    cases hs
    rw [dt_str h]
    exact ⟨_, z.length, rfl, ⟨hz, rfl⟩, q _ G H (Ext.refl gh) (.int _)⟩
theorem dts_bools : ∀ {xs : List V} {bs : List Bool}, DtAll K G xs (bs.map PyData.bool) → xs = bs.map V.bl
  | _, [], .nil => rfl
  | _, n :: ns, .cons a b => by rw [dt_bool a, dts_bools b]; rfl
theorem bools_dts : ∀ (ns : List Bool), DtAll K G (ns.map V.bl) (ns.map PyData.bool)
  | [] => .nil
  | n :: ns => .cons (.bl n) (bools_dts ns)
theorem cb_all {bs : List Bool} : CBD K (rAll K) [.list (bs.map PyData.bool)] (.bool (bs.all id)) := fun vs G H gh h Q q => by
  cases h with
  | cons h hs =>
    cases hs
    obtain ⟨a, xs, rfl, hl, hx⟩ := dt_list h gh
    rw [dts_bools hx] at hl
    exact ⟨a, bs, rfl, hl, q _ G H (Ext.refl gh) (.bl _)⟩
theorem cb_sum {ns : List Int} : CBD K (rSum K) [.list (ns.map PyData.int)] (.int ns.sum) := fun vs G H gh h Q q => by
  cases h with
  | cons h hs =>
    cases hs
    obtain ⟨a, xs, rfl, hl, hx⟩ := dt_list h gh
    rw [dts_ints hx] at hl
    exact ⟨a, ns, rfl, hl, q _ G H (Ext.refl gh) (.int _)⟩
theorem md_join {a : Str} {ys : List Str} (hz : (ys.map (·.length)).sum + ys.length * a.length ≤ 16777216) : MD K (fun x xs H Q => ∃ a p, ∃ ys : List Str, x = .str a ∧ xs = [.ref p] ∧ (SqL K H p (ys.map V.str) ∨ SqT K H p (ys.map V.str)) ∧ (ys.map (·.length)).sum + ys.length * a.length ≤ 16777216 ∧ Q (.str (Txt.join a ys)) H)
    (.str a) [.list (ys.map PyData.str)] (.str (Txt.join a ys)) := fun x vs G H gh hx h Q q => by
  cases h with
  | cons h hs =>
    cases hs
    obtain ⟨p, xs, rfl, hl, hxs⟩ := dt_list h gh
    rw [dts_strs hxs] at hl
    rw [dt_str hx]
    exact ⟨a, p, ys, rfl, rfl, .inl hl, hz, q _ G H (Ext.refl gh) (.str _)⟩
theorem md_sindex {a b : Str} {i : Nat} {rest : List Nat} (h : Builtin.Str.occurrences a b 0 a.length 1 = i :: rest) : MD K (fun x xs H Q => ∃ a b i rest, x = .str a ∧ xs = [.str b] ∧ Builtin.Str.occurrences a b 0 a.length 1 = i :: rest ∧ Q (.int (i : Nat)) H) (.str a) [.str b] (.int i) := fun x vs G H gh hx hv Q q => by
  cases hv with
  | cons hv hs =>
    cases hs
    rw [dt_str hx, dt_str hv]
    exact ⟨a, b, i, rest, rfl, rfl, h, q _ G H (Ext.refl gh) (.int _)⟩
end
end S

set_option linter.unusedVariables false
namespace S
open PySem L2
/-! ### what is walked, by data -/
structure DW (K : PySem.W.Frag) (G : Hp) (J : It) (n : Nat) (f : Nat → PyData) : Prop where
  goes : ∀ i H, i < n → Same G H → J.go i H
  stops : ∀ H, Same G H → J.stop n H
  yields : ∀ i H x H' G1, i < n → Same G G1 → Same G1 H → J.yld i H x H' → ∃ G2, Ext [] G1 H G2 H' ∧ Dt K G2 x (f i)
/-- the iterable gives n items, f i the i-th -/
def EI (K : PySem.W.Frag) (G : Hp) (wi : TI) (σ : L2.St) (n : Nat) (f : Nat → PyData) : Prop := ∀ G1 H, Same G G1 → Same G1 H → ∀ R : It → Hp → Prop, (∀ J G2 H2, Ext [] G1 H G2 H2 → DW K G2 J n f → R J H2) → wi σ H R
section
variable {K : PySem.W.Frag} {G G' : Hp} {σ : L2.St} {ta tb te : TE} {t u : TT} {tas : TA} {d d1 d2 : PyData} {ds es : List PyData} {v : V} {r : R2} {b c : Bool}
theorem dw_list {a : Addr} {xs : List V} (hl : SqL K G a xs) (hs : DtAll K G xs ds) : DW K G (Itl K a) ds.length (fun i => ds.getD i .none) where
  goes := fun i H hi gh => by
    have e := dts_len hs
    exact ⟨xs, xs[i], gh.seq hl, by simp [e, hi]⟩
  stops := fun H gh => ⟨xs, gh.seq hl, by rw [dts_len hs]; exact Nat.le_refl _⟩
  yields := fun i H x H' G1 hi g1 gh y => by
    obtain ⟨rfl, hx⟩ := y
    obtain ⟨d, h1, h2⟩ := dts_at' hs (hx xs ((g1.trans gh).seq hl))
    refine ⟨G1, Ext.refl gh, ?_⟩
    rw [List.getD_eq_getElem?_getD, h1]
    exact same_dt g1 h2
theorem dw_tup {a : Addr} {xs : List V} (hl : SqT K G a xs) (hs : DtAll K G xs ds) : DW K G (Itt K a) ds.length (fun i => ds.getD i .none) where
  goes := fun i H hi gh => by
    have e := dts_len hs
    exact ⟨xs, xs[i], same_tup gh hl, by simp [e, hi]⟩
  stops := fun H gh => ⟨xs, same_tup gh hl, by rw [dts_len hs]; exact Nat.le_refl _⟩
  yields := fun i H x H' G1 hi g1 gh y => by
    obtain ⟨rfl, hx⟩ := y
    obtain ⟨d, h1, h2⟩ := dts_at' hs (hx xs (same_tup (g1.trans gh) hl))
    refine ⟨G1, Ext.refl gh, ?_⟩
    rw [List.getD_eq_getElem?_getD, h1]
    exact same_dt g1 h2
theorem dw_str {z : Str} : DW K G (Its z) z.cps.size (fun i => .str ⟨#[z.cps.getD i 0]⟩) where
  goes := fun i H hi _ => hi
  stops := fun H _ => Nat.le_refl _
  yields := fun i H x H' G1 hi g1 gh y => by
    obtain ⟨rfl, c, hc, rfl⟩ := y
    refine ⟨G1, Ext.refl gh, ?_⟩
    rw [Array.getD_eq_getD_getElem?, hc]
    exact .str _
theorem dw_range {lo : Int} {n : Nat} : DW K G (Itr lo n) n (fun i => .int (lo + i)) where
  goes := fun i H hi _ => hi
  stops := fun H _ => Nat.le_refl _
  yields := fun i H x H' G1 hi g1 gh y => by
    obtain ⟨rfl, rfl⟩ := y
    exact ⟨G1, Ext.refl gh, .int _⟩
theorem dw_enum {a : Addr} {xs : List V} (hl : SqL K G a xs) (hs : DtAll K G xs ds) : DW K G (Ite K a) ds.length (fun i => .tuple [.int (i : Nat), ds.getD i .none]) where
  goes := fun i H hi gh => by
    have e := dts_len hs
    exact ⟨xs, xs[i], gh.seq hl, by simp [e, hi]⟩
  stops := fun H gh => ⟨xs, gh.seq hl, by rw [dts_len hs]; exact Nat.le_refl _⟩
  yields := fun i H x H' G1 hi g1 gh y => by
    obtain ⟨T, z, rfl, hT, rfl, hx⟩ := y
    obtain ⟨d, h1, h2⟩ := dts_at' hs (hx xs ((g1.trans gh).seq hl))
    refine ⟨_, Ext.new gh hT, ?_⟩
    rw [List.getD_eq_getElem?_getD, h1]
    exact .tup (SqT.of upd_same) (.cons (.int _) (.cons (same_dt (g1.trans (same_new (gh.free hT))) h2) .nil))
theorem dw_zip {a a2 : Addr} {xs ys : List V} (hl : SqL K G a xs) (hs : DtAll K G xs ds) (hl2 : SqL K G a2 ys) (hs2 : DtAll K G ys es) : DW K G (Itz K a a2) (min ds.length es.length) (fun i => .tuple [ds.getD i .none, es.getD i .none]) where
  goes := fun i H hi gh => by
    have e := dts_len hs
    have e2 := dts_len hs2
    exact ⟨xs, ys, xs[i], ys[i], gh.seq hl, gh.seq hl2, by simp [show i < xs.length by omega], by simp [show i < ys.length by omega]⟩
  stops := fun H gh => by
    have e := dts_len hs
    have e2 := dts_len hs2
    exact ⟨xs, ys, gh.seq hl, gh.seq hl2, by omega⟩
  yields := fun i H x H' G1 hi g1 gh y => by
    obtain ⟨T, z, z2, rfl, hT, rfl, hx, hx2⟩ := y
    obtain ⟨d, h1, h2⟩ := dts_at' hs (hx xs ((g1.trans gh).seq hl))
    obtain ⟨d', h3, h4⟩ := dts_at' hs2 (hx2 ys ((g1.trans gh).seq hl2))
    refine ⟨_, Ext.new gh hT, ?_⟩
    rw [List.getD_eq_getElem?_getD, h1, List.getD_eq_getElem?_getD, h3]
    have e := g1.trans (same_new (o := .tup [z, z2]) (gh.free hT))
    exact .tup (SqT.of upd_same) (.cons (same_dt e h2) (.cons (same_dt e h4) .nil))
theorem ei_list (h : ED K G te σ (.list ds)) : EI K G (iList K te) σ ds.length (fun i => ds.getD i .none) := fun G1 H a gh R q => h G1 H a gh _ fun v G2 H2 e hv => by
  obtain ⟨p, xs, rfl, hl, hs⟩ := dt_list hv (Same.refl G2)
  exact ⟨p, rfl, ⟨xs, e.gh.seq hl⟩, q _ G2 H2 e (dw_list hl hs)⟩
theorem ei_tup (h : ED K G te σ (.tuple ds)) : EI K G (iTup K te) σ ds.length (fun i => ds.getD i .none) := fun G1 H a gh R q => h G1 H a gh _ fun v G2 H2 e hv => by
  obtain ⟨p, xs, rfl, hl, hs⟩ := dt_tuple hv (Same.refl G2)
  exact ⟨p, rfl, ⟨xs, same_tup e.gh hl⟩, q _ G2 H2 e (dw_tup hl hs)⟩
theorem ei_str {z : Str} (h : ED K G te σ (.str z)) : EI K G (iStr te) σ z.cps.size (fun i => .str ⟨#[z.cps.getD i 0]⟩) := fun G1 H a gh R q => h G1 H a gh _ fun v G2 H2 e hv => ⟨z, dt_str hv, q _ G2 H2 e dw_str⟩
theorem ei_range1 {j : Int} (h : EA K G tas σ [.int j]) (h0 : 0 ≤ j) (h1 : j < 2 ^ 62) : EI K G (iRng1 tas) σ j.toNat (fun i => .int i) := fun G1 H a gh R q => h G1 H a gh _ fun vs G2 H2 e hvs => by
  cases hvs with
  | cons hv hs =>
    cases hs
    rw [dt_int hv]
    refine ⟨j, rfl, by omega, h1, q _ G2 H2 e ?_⟩
    have w := dw_range (K := K) (G := G2) (lo := 0) (n := j.toNat)
    simp only [Int.zero_add] at w
    exact w
theorem ei_range2 {i j : Int} (h : EA K G tas σ [.int i, .int j]) (hb : -(2 ^ 62) ≤ i ∧ i < 2 ^ 62 ∧ -(2 ^ 62) ≤ j ∧ j < 2 ^ 62) : EI K G (iRng2 tas) σ (j - i).toNat (fun k => .int (i + k)) := fun G1 H a gh R q => h G1 H a gh _ fun vs G2 H2 e hvs => by
  cases hvs with
  | cons hv hs =>
    cases hs with
    | cons hv2 hs =>
      cases hs
      rw [dt_int hv, dt_int hv2]
      exact ⟨i, j, rfl, hb, q _ G2 H2 e dw_range⟩
theorem ei_enum (h : EA K G tas σ [.list ds]) : EI K G (iEnum K tas) σ ds.length (fun i => .tuple [.int (i : Nat), ds.getD i .none]) := fun G1 H a gh R q => h G1 H a gh _ fun vs G2 H2 e hvs => by
  cases hvs with
  | cons hv hs =>
    cases hs
    obtain ⟨p, xs, rfl, hl, hs⟩ := dt_list hv (Same.refl G2)
    exact ⟨p, xs, rfl, e.gh.seq hl, q _ G2 H2 e (dw_enum hl hs)⟩
theorem ei_zip (h : EA K G tas σ [.list ds, .list es]) : EI K G (iZip K tas) σ (min ds.length es.length) (fun i => .tuple [ds.getD i .none, es.getD i .none]) := fun G1 H a gh R q => h G1 H a gh _ fun vs G2 H2 e hvs => by
  cases hvs with
  | cons hv hs =>
    cases hs with
    | cons hv2 hs2 =>
      cases hs2
      obtain ⟨p, xs, rfl, hl, hs⟩ := dt_list hv (Same.refl G2)
      obtain ⟨p2, ys, rfl, hl2, hs2⟩ := dt_list hv2 (Same.refl G2)
      exact ⟨p, p2, xs, ys, rfl, e.gh.seq hl, e.gh.seq hl2, q _ G2 H2 e (dw_zip hl hs hl2 hs2)⟩

/-! ### targets -/
/-- the target takes x, of data d; behind it the slots are as B tells -/
def EG (K : PySem.W.Frag) (g : TG) (σ : L2.St) (d : PyData) (B : Hp → L2.St → Prop) : Prop := ∀ G H x, Same G H → Dt K G x d → ∀ Q : L2.St → Hp → Prop, (∀ σ2, B G σ2 → Q σ2 H) → g x σ H Q
theorem eg_name {j : Nat} : EG K (gName j) σ d (fun G σ2 => ∃ x, Dt K G x d ∧ σ2 = σ.set j (some x)) := fun G H x gh hx Q q => q _ ⟨x, hx, rfl⟩
theorem eg_tup2 {i j : Nat} : EG K (gTup K 2 (gCons (gName i) (gCons (gName j) gNil))) σ (.tuple [d1, d2]) (fun G σ2 => ∃ x y, Dt K G x d1 ∧ Dt K G y d2 ∧ σ2 = (σ.set i (some x)).set j (some y)) := fun G H x gh hx Q q => by
  obtain ⟨a, xs, rfl, hl, hs⟩ := dt_tuple hx gh
  cases hs with
  | cons h1 hs =>
    cases hs with
    | cons h2 hs =>
      cases hs
      exact ⟨a, _, rfl, hl, rfl, _, _, rfl, _, _, rfl, rfl, q _ ⟨_, _, h1, h2, rfl⟩⟩
theorem eg_tup3 {i j k : Nat} {d3 : PyData} : EG K (gTup K 3 (gCons (gName i) (gCons (gName j) (gCons (gName k) gNil)))) σ (.tuple [d1, d2, d3]) (fun G σ2 => ∃ x y z, Dt K G x d1 ∧ Dt K G y d2 ∧ Dt K G z d3 ∧ σ2 = ((σ.set i (some x)).set j (some y)).set k (some z)) := fun G H x gh hx Q q => by
  obtain ⟨a, xs, rfl, hl, hs⟩ := dt_tuple hx gh
  cases hs with
  | cons h1 hs =>
    cases hs with
    | cons h2 hs =>
      cases hs with
      | cons h3 hs =>
        cases hs
        exact ⟨a, _, rfl, hl, rfl, _, _, rfl, _, _, rfl, _, _, rfl, rfl, q _ ⟨_, _, _, h1, h2, h3, rfl⟩⟩

/-! ### comprehensions -/
/-- what n turns give: p tells which, h what -/
def outs (n : Nat) (p : Nat → Bool) (h : Nat → PyData) : List PyData := ((List.range n).filter p).map h
theorem outs_yes {n : Nat} {p : Nat → Bool} {h : Nat → PyData} (e : p n = true) : outs (n + 1) p h = outs n p h ++ [h n] := by
  unfold outs
  rw [List.range_succ, List.filter_append, List.map_append, List.filter_cons, if_pos e] <;> rfl
theorem outs_no {n : Nat} {p : Nat → Bool} {h : Nat → PyData} (e : p n = false) : outs (n + 1) p h = outs n p h := by
  unfold outs
  rw [List.range_succ, List.filter_append, List.map_append, List.filter_cons, if_neg (by rw [e]; decide)]
  show _ ++ [] = _
  rw [List.append_nil]
theorem outs_len (n : Nat) (p : Nat → Bool) (h : Nat → PyData) : (outs n p h).length ≤ n := by
  unfold outs
  rw [List.length_map]
  have q := List.length_filter_le p (List.range n)
  rw [List.length_range] at q
  exact q
theorem outs_map {α : Type} {xs : List α} {f : α → PyData} {h : Nat → PyData} (e : ∀ i x, xs[i]? = some x → h i = f x) : outs xs.length (fun _ => true) h = xs.map f := by
  unfold outs
  rw [List.filter_eq_self.mpr (by simp)]
  apply List.ext_getElem?
  intro i
  simp only [List.getElem?_map]
  by_cases hi : i < xs.length
  · simp [hi, e i xs[i] (by simp [hi])]
  · simp [hi]
theorem sz_list {n : Nat} (h : n < 100000) : n < sizeLine := Nat.lt_of_lt_of_le h (by decide)
theorem ed_lc {wi : TI} {g : TG} {tt : TT} {te : TE} {vs : List Nat} {n : Nat} {f h : Nat → PyData} {p : Nat → Bool} {B : Nat → Hp → L2.St → Prop} (hi : EI K G wi σ n f) (hn : n < 100000) (hb : ∀ i, i < n → EG K g (wipe σ vs) (f i) (B i))
    (hw : ∀ i G1 σ2, i < n → B i G1 σ2 → wipe σ2 vs = wipe σ vs) (ht : ∀ i G1 σ2, i < n → Same G G1 → B i G1 σ2 → ET K G1 tt σ2 (p i)) (he : ∀ i G1 σ2, i < n → Same G G1 → B i G1 σ2 → p i = true → ED K G1 te σ2 (h i)) :
    ED K G (tLc wi g tt te vs) σ (.list (outs n p h)) := fun G1 H a gh Q q => hi G1 H a gh _ fun J G2 H2 e2 W D hD => by
  refine ⟨fun i m H' => m = n - i ∧ i ≤ n ∧ ∃ G' acc, Ext [] G2 H2 G' H' ∧ G' D = none ∧ H' D = some (.lst acc) ∧ DtAll K G' acc (outs i p h), ⟨n, by simp, Nat.zero_le _, G2, [], Ext.cell e2.gh hD, e2.gh.free hD, upd_same, .nil⟩, ?_⟩
  rintro i m H' ⟨rfl, hin, G', acc, e, gD, hacc, hds⟩
  have gsame : Same G2 H' := e.gg.trans e.gh
  by_cases hlt : i < n
  · refine .inr ⟨W.goes i H' hlt gsame, fun H'' => i + 1 ≤ n ∧ ∃ G' acc, Ext [] G2 H2 G' H'' ∧ G' D = none ∧ H'' D = some (.lst acc) ∧ DtAll K G' acc (outs (i + 1) p h), fun H'' ⟨h1, h2⟩ => ⟨n - (i + 1), by omega, rfl, h1, h2⟩, fun x H3 y => ?_⟩
    obtain ⟨G3, e3, hx⟩ := W.yields i H' x H3 G' hlt e.gg e.gh y
    refine hb i hlt G3 H3 x e3.gh hx _ fun σ2 hσ => ⟨hw i G3 σ2 hlt hσ, ?_⟩
    have eG : Same G G3 := ((a.trans e2.gg).trans e.gg).trans e3.gg
    refine ht i G3 σ2 hlt eG hσ G3 H3 (Same.refl G3) e3.gh _ fun G4 H4 e4 => ?_
    have e24 : Ext [] G2 H2 G4 H4 := (e.same e3).same e4
    have gD4 : G4 D = none := (e3.same e4).free gD hacc
    have hacc4 : H4 D = some (.lst acc) := (e3.same e4).keep hacc (by simp)
    have hds4 : DtAll K G4 acc (outs i p h) := same_dts (e3.same e4).gg hds
    cases hp : p i with
    | false => exact iteF ⟨hlt, G4, acc, e24, gD4, hacc4, by rw [outs_no hp]; exact hds4⟩
    | true =>
      refine iteT ?_
      refine (he i G3 σ2 hlt eG hσ hp).mono e4.gg G4 H4 (Same.refl G4) e4.gh _ fun w G5 H5 e5 hwd => ?_
      have l := outs_len i p h
      have l2 := dts_len hds4
      refine ⟨acc, e5.keep hacc4 (by simp), sz_list (by omega), hlt, G5, acc ++ [w], (e24.same e5).trans (Ext.put e5.gh (e5.free gD4 hacc4) (e5.keep hacc4 (by simp))) fun z hz => .inr (by rw [List.mem_singleton] at hz; rw [hz]; exact hD), e5.free gD4 hacc4, upd_same, ?_⟩
      rw [outs_yes hp]
      exact dts_app (same_dts e5.gg hds4) (.cons hwd .nil)
  · have ei : i = n := by omega
    subst ei
    refine .inl ⟨W.stops H' gsame, ?_⟩
    have ek := Ext.know e.gh hacc gD e hD
    exact q _ _ H' (e2.same ek) (.lst upd_same (same_dts (same_new gD) hds))

/-! ### statements that return data, or go on -/
def ES (K : PySem.W.Frag) (G : Hp) (ts : TS) (σ : L2.St) (R : PyData → Prop) (N : Hp → L2.St → Prop) : Prop := ∀ G1 H, Same G G1 → Same G1 H → ∀ D : Ends, (∀ v d G2 H2, Ext [] G1 H G2 H2 → Dt K G2 v d → R d → D.rt v H2) → (∀ σ' G2 H2, Ext [] G1 H G2 H2 → N G2 σ' → D.nx σ' H2) → ts D σ H
variable {R : PyData → Prop} {N M : Hp → L2.St → Prop} {ts tz tw : TS}
theorem ES.mono (h : ES K G ts σ R N) (e : Same G G') : ES K G' ts σ R N := fun G1 H a => h G1 H (e.trans a)
theorem es_ret (h : ED K G te σ d) (hr : R d) : ES K G (tRet te) σ R N := fun G1 H a gh D hrt hnx => h G1 H a gh _ fun v G2 H2 e hv => hrt v d G2 H2 e hv hr
theorem es_next (h : ∀ G1, Same G G1 → N G1 σ) : ES K G tNext σ R N := fun G1 H a gh D hrt hnx => hnx σ G1 H (Ext.refl gh) (h G1 a)
theorem es_seq (h : ES K G ts σ R M) (k : ∀ G1 σ1, Same G G1 → M G1 σ1 → ES K G1 tz σ1 R N) : ES K G (tSeq ts tz) σ R N := fun G1 H a gh D hrt hnx =>
  h G1 H a gh { D with nx := tz D } hrt fun σ1 G2 H2 e hm => k G2 σ1 (a.trans e.gg) hm G2 H2 (Same.refl G2) e.gh D (fun v d G3 H3 e3 => hrt v d G3 H3 (e.same e3)) (fun σ' G3 H3 e3 => hnx σ' G3 H3 (e.same e3))
theorem es_cut (h : ES K G ts σ R M) (k : ∀ G1 σ1, Same G G1 → M G1 σ1 → ES K G1 tz σ1 R N) : ES K G (tCut ts tz) σ R N := fun G1 H a gh D hrt hnx =>
  ⟨tz D, h G1 H a gh { D with nx := tz D } hrt fun σ1 G2 H2 e hm => k G2 σ1 (a.trans e.gg) hm G2 H2 (Same.refl G2) e.gh D (fun v d G3 H3 e3 => hrt v d G3 H3 (e.same e3)) (fun σ' G3 H3 e3 => hnx σ' G3 H3 (e.same e3)), fun _ _ z => z⟩
theorem es_asg {i : Nat} (h : ED K G te σ d) (k : ∀ G1 x, Same G G1 → Dt K G1 x d → N G1 (σ.set i (some x))) : ES K G (tAsg te (gName i)) σ R N := fun G1 H a gh D hrt hnx => h G1 H a gh _ fun v G2 H2 e hv => hnx _ G2 H2 e (k G2 v (a.trans e.gg) hv)
/-- x = e, then the rest -/
theorem es_set {i : Nat} (h : ED K G te σ d) (k : ∀ G1 x, Same G G1 → Dt K G1 x d → ES K G1 tz (σ.set i (some x)) R N) : ES K G (tSeq (tAsg te (gName i)) tz) σ R N :=
  es_seq (M := fun G1 σ1 => ∃ x, Dt K G1 x d ∧ σ1 = σ.set i (some x)) (es_asg h fun G1 x a hx => ⟨x, hx, rfl⟩) fun G1 σ1 a ⟨x, hx, e⟩ => by rw [e]; exact k G1 x a hx
/-- a target of any kind -/
theorem es_asgG {g : TG} {B : Hp → L2.St → Prop} (h : ED K G te σ d) (hb : EG K g σ d B) (k : ∀ G1 σ1, Same G G1 → B G1 σ1 → ES K G1 tz σ1 R N) : ES K G (tSeq (tAsg te g) tz) σ R N :=
  es_seq (M := B) (fun G1 H a gh D hrt hnx => h G1 H a gh _ fun v G2 H2 e hv => hb G2 H2 v e.gh hv _ fun σ2 hσ => hnx σ2 G2 H2 e hσ) k
theorem es_if (h : ET K G t σ b) (h1 : b = true → ES K G ts σ R N) (h2 : b = false → ES K G tz σ R N) : ES K G (tIfS t ts tz) σ R N := fun G1 H a gh D hrt hnx => h G1 H a gh _ fun G2 H2 e => by
  cases b with
  | true => exact iteT ((h1 rfl).mono (a.trans e.gg) G2 H2 (Same.refl G2) e.gh D (fun v d G3 H3 e3 => hrt v d G3 H3 (e.same e3)) (fun σ' G3 H3 e3 => hnx σ' G3 H3 (e.same e3)))
  | false => exact iteF ((h2 rfl).mono (a.trans e.gg) G2 H2 (Same.refl G2) e.gh D (fun v d G3 H3 e3 => hrt v d G3 H3 (e.same e3)) (fun σ' G3 H3 e3 => hnx σ' G3 H3 (e.same e3)))
/-- if t: .. (and nothing else), then the rest -/
theorem es_when (h : ET K G t σ b) (h1 : b = true → ES K G (tSeq ts tz) σ R N) (h2 : b = false → ES K G tz σ R N) : ES K G (tSeq (tIfS t ts tNext) tz) σ R N := fun G1 H a gh D hrt hnx => h G1 H a gh _ fun G2 H2 e => by
  cases b with
  | true => exact iteT ((h1 rfl).mono (a.trans e.gg) G2 H2 (Same.refl G2) e.gh D (fun v d G3 H3 e3 => hrt v d G3 H3 (e.same e3)) (fun σ' G3 H3 e3 => hnx σ' G3 H3 (e.same e3)))
  | false => exact iteF ((h2 rfl).mono (a.trans e.gg) G2 H2 (Same.refl G2) e.gh D (fun v d G3 H3 e3 => hrt v d G3 H3 (e.same e3)) (fun σ' G3 H3 e3 => hnx σ' G3 H3 (e.same e3)))
theorem es_retSeq (h : ED K G te σ d) (hr : R d) : ES K G (tSeq (tRet te) tz) σ R N := es_seq (M := fun _ _ => False) (es_ret h hr) fun _ _ _ z => z.elim
theorem es_drop (h : ED K G te σ d) (k : ∀ G1, Same G G1 → N G1 σ) : ES K G (tDrop te) σ R N := fun G1 H a gh D hrt hnx => h G1 H a gh _ fun v G2 H2 e hv => hnx _ G2 H2 e (k G2 (a.trans e.gg))
theorem es_for {wi : TI} {g : TG} {n : Nat} {f : Nat → PyData} {B : Nat → L2.St → Hp → L2.St → Prop} (hi : EI K G wi σ n f) (I : Nat → Hp → L2.St → Prop) (h0 : ∀ G1, Same G G1 → I 0 G1 σ) (mono : ∀ i G1 G2 σ1, Same G1 G2 → I i G1 σ1 → I i G2 σ1)
    (hb : ∀ i G1 σ1, i < n → Same G G1 → I i G1 σ1 → EG K g σ1 (f i) (B i σ1)) (hs : ∀ i G1 σ1 σ2, i < n → Same G G1 → I i G1 σ1 → B i σ1 G1 σ2 → ES K G1 ts σ2 R (I (i + 1))) (hd : ∀ G1 σ1, Same G G1 → I n G1 σ1 → N G1 σ1) :
    ES K G (tFor wi g ts) σ R N := fun G1 H a gh D hrt hnx => hi G1 H a gh _ fun J G2 H2 e2 W => by
  refine ⟨fun i m σ' H' => m = n - i ∧ i ≤ n ∧ ∃ G', Ext [] G2 H2 G' H' ∧ I i G' σ', ⟨n, by simp, Nat.zero_le _, G2, Ext.refl e2.gh, h0 G2 (a.trans e2.gg)⟩, ?_⟩
  rintro i m σ' H' ⟨rfl, hin, G', e, hI⟩
  have gsame : Same G2 H' := e.gg.trans e.gh
  by_cases hlt : i < n
  · refine .inr ⟨W.goes i H' hlt gsame, fun σ'' H'' => i + 1 ≤ n ∧ ∃ G', Ext [] G2 H2 G' H'' ∧ I (i + 1) G' σ'', fun σ'' H'' ⟨h1, h2⟩ => ⟨n - (i + 1), by omega, rfl, h1, h2⟩, fun x H3 y => ?_⟩
    obtain ⟨G3, e3, hx⟩ := W.yields i H' x H3 G' hlt e.gg e.gh y
    have eG : Same G G3 := ((a.trans e2.gg).trans e.gg).trans e3.gg
    have hI3 := mono i _ _ _ e3.gg hI
    refine hb i G3 σ' hlt eG hI3 G3 H3 x e3.gh hx _ fun σ2 hσ => ?_
    exact hs i G3 σ' σ2 hlt eG hI3 hσ G3 H3 (Same.refl G3) e3.gh _ (fun v d G4 H4 e4 => hrt v d G4 H4 (e2.same ((e.same e3).same e4))) fun σ4 G4 H4 e4 hI4 => ⟨hlt, G4, (e.same e3).same e4, hI4⟩
  · have ei : i = n := by omega
    subst ei
    exact .inl ⟨W.stops H' gsame, hnx σ' G' H' (e2.same e) (hd G' σ' (((a.trans e2.gg)).trans e.gg) hI)⟩
end

/-! ### loops that draw: I tells of what is known, of the heap and of the slots -/
section
variable {K : PySem.W.Frag} {G G0 H : Hp} {σ : L2.St} {D : Ends}
/-- the loop itself, over a walk by data -/
theorem loop_imp {J : It} {g : TG} {tb : TS} {n : Nat} {f : Nat → PyData} (W : DW K G0 J n f) (gh : Same G0 H) (I : Nat → Hp → Hp → L2.St → Prop) (h0 : I 0 G0 H σ)
    (hs : ∀ i G1 H1 σ1 x G2 H2, i < n → I i G1 H1 σ1 → Same G0 G1 → Ext [] G1 H1 G2 H2 → Dt K G2 x (f i) → g x σ1 H2 fun σ2 H3 => tb { D with nx := fun σ' H' => ∃ G', Same G1 G' ∧ Same G' H' ∧ I (i + 1) G' H' σ', ct := fun σ' H' => ∃ G', Same G1 G' ∧ Same G' H' ∧ I (i + 1) G' H' σ', bk := D.nx } σ2 H3)
    (hd : ∀ G1 H1 σ1, Same G0 G1 → Same G1 H1 → I n G1 H1 σ1 → D.nx σ1 H1) :
    ∃ W : Nat → Nat → L2.St → Hp → Prop, (∃ m, W 0 m σ H) ∧ ∀ i m σ H, W i m σ H →
      (J.stop i H ∧ D.nx σ H) ∨ (J.go i H ∧ ∃ N : L2.St → Hp → Prop, (∀ σ' H', N σ' H' → ∃ m', m' < m ∧ W (i + 1) m' σ' H') ∧ ∀ x H', J.yld i H x H' → g x σ H' fun σ2 H2 => tb { D with nx := N, ct := N, bk := D.nx } σ2 H2) := by
  refine ⟨fun i m σ' H' => m = n - i ∧ i ≤ n ∧ ∃ G', Same G0 G' ∧ Same G' H' ∧ I i G' H' σ', ⟨n, by simp, Nat.zero_le _, G0, Same.refl G0, gh, h0⟩, ?_⟩
  rintro i m σ' H' ⟨rfl, hin, G', e, gh', hI⟩
  by_cases hlt : i < n
  · refine .inr ⟨W.goes i H' hlt (e.trans gh'), fun σ'' H'' => ∃ G'', Same G' G'' ∧ Same G'' H'' ∧ I (i + 1) G'' H'' σ'', fun σ'' H'' ⟨G'', h1, h2, h3⟩ => ⟨n - (i + 1), by omega, rfl, hlt, G'', e.trans h1, h2, h3⟩, fun x H3 y => ?_⟩
    obtain ⟨G3, e3, hx⟩ := W.yields i H' x H3 G' hlt e gh' y
    exact hs i G' H' σ' x G3 H3 hlt hI e e3 hx
  · have ei : i = n := by omega
    subst ei
    exact .inl ⟨W.stops H' (e.trans gh'), hd G' H' σ' e gh' hI⟩
theorem for_imp {wi : TI} {g : TG} {tb : TS} {n : Nat} {f : Nat → PyData} (hi : EI K G wi σ n f) (g0 : Same G G0) (gh : Same G0 H) (I : Nat → Hp → Hp → L2.St → Prop) (h0 : ∀ G1 H1, Ext [] G0 H G1 H1 → I 0 G1 H1 σ)
    (hs : ∀ i G1 H1 σ1 x G2 H2, i < n → I i G1 H1 σ1 → Same G0 G1 → Ext [] G1 H1 G2 H2 → Dt K G2 x (f i) → g x σ1 H2 fun σ2 H3 => tb { D with nx := fun σ' H' => ∃ G', Same G1 G' ∧ Same G' H' ∧ I (i + 1) G' H' σ', ct := fun σ' H' => ∃ G', Same G1 G' ∧ Same G' H' ∧ I (i + 1) G' H' σ', bk := D.nx } σ2 H3)
    (hd : ∀ G1 H1 σ1, Same G0 G1 → Same G1 H1 → I n G1 H1 σ1 → D.nx σ1 H1) : tFor wi g tb D σ H := hi G0 H g0 gh _ fun J G2 H2 e2 W =>
  loop_imp W e2.gh I (h0 G2 H2 e2) (fun i G1 H1 σ1 x G3 H3 hi hI g1 => hs i G1 H1 σ1 x G3 H3 hi hI (e2.gg.trans g1)) fun G1 H1 σ1 g1 => hd G1 H1 σ1 (e2.gg.trans g1)
end

/-! ### a pure def by its body -/
section
variable {P : Program} {w : World} {K : PySem.W.Frag} {mg : Str → Option Value} {base : Heap}
theorem FnIn.pure {x : Str} {st : Stmt} {N ps : List Str} {k : Nat} {R : List PyData → PyData → Prop} (F : FnIn K mg x st) (S : FnScope N ps (defScope st)) (len : ∀ ds d, R ds d → ds.length = ps.length)
    (hb : ∀ (kV doc pm : Value) (an : Option Addr) (cdv ct : Value) (us : List Value), us.length = ps.length → bindArgs (PySem.W.fnOf x x (defArgs st) (defBody st) (defScope st) .none kV doc pm an cdv ct) ⟨us, []⟩ = pure (ps.zip us))
    (body : ∀ (f : Addr) (cdv : Value) (A : Around) (outer : List Env) (s : Shared) (H : Hp) (E : XK), Room k (A.deeper (PyProof.Rows.envOfC x (defScope st) s.heap.objs.size f cdv)) →
      ∃ t, PSs (cxOf CX0 P w K mg base N x (defScope st) f cdv A outer s H E).nox (defBody st) t ∧ ∀ G vs ds d, DtAll K G vs ds → R ds d → ES K G t (start N vs) (fun d' => d' = d) (fun _ _ => d = .none)) : Has P w K mg base CX0 (k + 1) x ps (PFn K R) := by
  refine F.ok S (fun vs H Q E ⟨G, ds, d, gh, hv, hr, q⟩ => (dts_len hv).trans (len ds d hr)) hb (fun f cdv A outer s H vs Q E hr ⟨G, ds, d, gh, hv, hR, q⟩ => ?_)
  obtain ⟨t, ht, hs⟩ := body f cdv A outer s H E hr
  refine ⟨t, ht, hs G vs ds d hv hR G H (Same.refl G) gh _ (fun v d' G2 H2 e hv' e' => ?_) (fun σ' G2 H2 e e' => ?_)⟩
  · subst e'
    exact q v G2 H2 e hv'
  · exact q .non G2 H2 e (by rw [e']; exact .non)
end
end S

set_option linter.unusedVariables false
namespace S
open PySem L2
/-! ### evaluation that draws: an effect is some cells that change, with a word I n of them that holds behind n draws -/
structure Eff where
  M : List Addr
  I : Nat → Hp → Hp → Prop
  keep : ∀ {n G H G' H' M'}, I n G H → Ext M' G H G' H' → (∀ a ∈ M, a ∉ M') → I n G' H'
  up : ∀ {n m G H}, n ≤ m → I n G H → I m G H
  trk : ∀ {n G H}, I n G H → ∀ a ∈ M, ∃ o, H a = some o
  unk : ∀ {n G H}, I n G H → ∀ a ∈ M, G a = none
  know : ∀ {n G H G'}, I n G H → Same G G' → (∀ a ∈ M, G' a = none) → I n G' H
abbrev lim : Nat := 2 ^ 40
def EV (ε : Eff) (K : PySem.W.Frag) (c : Nat) (G : Hp) (te : TE) (σ : L2.St) (P : PyData → Prop) : Prop := ∀ G1 H n, Same G G1 → Same G1 H → ε.I n G1 H → n + c ≤ lim → ∀ Q : VK, (∀ v d G2 H2, Ext ε.M G1 H G2 H2 → ε.I (n + c) G2 H2 → Dt K G2 v d → P d → Q v H2) → te σ H Q
def AV (ε : Eff) (K : PySem.W.Frag) (c : Nat) (G : Hp) (ta : TA) (σ : L2.St) (P : List PyData → Prop) : Prop := ∀ G1 H n, Same G G1 → Same G1 H → ε.I n G1 H → n + c ≤ lim → ∀ Q : List V → Hp → Prop, (∀ vs ds G2 H2, Ext ε.M G1 H G2 H2 → ε.I (n + c) G2 H2 → DtAll K G2 vs ds → P ds → Q vs H2) → ta σ H Q
def TV (ε : Eff) (K : PySem.W.Frag) (c : Nat) (G : Hp) (tt : TT) (σ : L2.St) (P : Bool → Prop) : Prop := ∀ G1 H n, Same G G1 → Same G1 H → ε.I n G1 H → n + c ≤ lim → ∀ Q : Bool → Hp → Prop, (∀ b G2 H2, Ext ε.M G1 H G2 H2 → ε.I (n + c) G2 H2 → P b → Q b H2) → tt σ H Q
section
variable {ε : Eff} {K : PySem.W.Frag} {c c1 c2 : Nat} {G G' H : Hp} {σ : L2.St} {ta tb te : TE} {t u : TT} {tas : TA} {d : PyData} {ds : List PyData} {r : R2} {b : Bool} {P P1 P2 P' : PyData → Prop} {Ps Ps' : List PyData → Prop} {Pb Pb2 : Bool → Prop}
theorem Ext.toM {M : List Addr} {G H G' H' : Hp} (e : Ext [] G H G' H') : Ext M G H G' H' := e.mono fun _ h => nomatch h
theorem Eff.stay (ε : Eff) {n : Nat} {G H G' H' : Hp} (h : ε.I n G H) (e : Ext [] G H G' H') : ε.I n G' H' := ε.keep h e fun _ _ h => nomatch h
theorem EV.mono (h : EV ε K c G te σ P) (e : Same G G') : EV ε K c G' te σ P := fun G1 H n a => h G1 H n (e.trans a)
theorem EV.imp (h : EV ε K c G te σ P) (k : ∀ d, P d → P' d) : EV ε K c G te σ P' := fun G1 H n a gh hI hl Q q => h G1 H n a gh hI hl Q fun v d G2 H2 e hI2 hv hp => q v d G2 H2 e hI2 hv (k d hp)
theorem EV.up (h : EV ε K c G te σ P) (k : c ≤ c2) : EV ε K c2 G te σ P := fun G1 H n a gh hI hl Q q => h G1 H n a gh hI (by omega) Q fun v d G2 H2 e hI2 hv hp => q v d G2 H2 e (ε.up (by omega) hI2) hv hp
theorem AV.up (h : AV ε K c G tas σ Ps) (k : c ≤ c2) : AV ε K c2 G tas σ Ps := fun G1 H n a gh hI hl Q q => h G1 H n a gh hI (by omega) Q fun v d G2 H2 e hI2 hv hp => q v d G2 H2 e (ε.up (by omega) hI2) hv hp
theorem TV.imp (h : TV ε K c G t σ Pb) (k : ∀ b, Pb b → Pb2 b) : TV ε K c G t σ Pb2 := fun G1 H n a gh hI hl Q q => h G1 H n a gh hI hl Q fun b G2 H2 e hI2 hp => q b G2 H2 e hI2 (k b hp)
theorem ev_ed (h : ED K G te σ d) : EV ε K 0 G te σ (fun d' => d' = d) := fun G1 H n a gh hI hl Q q => h G1 H a gh Q fun v G2 H2 e hv => q v d G2 H2 e.toM (ε.stay hI e) hv rfl
theorem tv_et (h : ET K G t σ b) : TV ε K 0 G t σ (fun b' => b' = b) := fun G1 H n a gh hI hl Q q => h G1 H a gh Q fun G2 H2 e => q b G2 H2 e.toM (ε.stay hI e) rfl
theorem av_ea (h : EA K G tas σ ds) : AV ε K 0 G tas σ (fun ds' => ds' = ds) := fun G1 H n a gh hI hl Q q => h G1 H a gh Q fun v G2 H2 e hv => q v ds G2 H2 e.toM (ε.stay hI e) hv rfl
theorem ev_op (ha : EV ε K c1 G ta σ P1) (hb : EV ε K c2 G tb σ P2) (hr : ∀ d1 d2, P1 d1 → P2 d2 → ∃ d, R2D K r d1 d2 d ∧ P d) : EV ε K (c1 + c2) G (tOp r ta tb) σ P := fun G1 H n a gh hI hl Q q =>
  ha G1 H n a gh hI (by omega) _ fun x d1 G2 H2 e2 hI2 hx p1 => hb G2 H2 (n + c1) (a.trans e2.gg) e2.gh hI2 (by omega) _ fun y d2 G3 H3 e3 hI3 hy p2 => by
    obtain ⟨d, hd, hp⟩ := hr d1 d2 p1 p2
    refine hd x y G3 H3 e3.gh (same_dt e3.gg hx) hy Q fun v G4 H4 e4 hv => q v d G4 H4 ((e2.trans e3 fun _ h => .inl h).same e4) ?_ hv hp
    have z := ε.stay hI3 e4
    rw [Nat.add_assoc] at z
    exact z
theorem ev_un {f : Int → Int} (h : EV ε K c G ta σ P1) (k : ∀ d, P1 d → ∃ i, d = .int i ∧ P (.int (f i))) : EV ε K c G (tUn (rU fun i => .int (f i)) ta) σ P := fun G1 H n a gh hI hl Q q => h G1 H n a gh hI hl _ fun v d G2 H2 e hI2 hv hp => by
  obtain ⟨i, rfl, hp2⟩ := k d hp
  exact ⟨i, dt_int hv, q _ _ G2 H2 e hI2 (.int _) hp2⟩
theorem av_nil : AV ε K 0 G tNil σ (fun ds => ds = []) := av_ea ea_nil
theorem av_cons (h : EV ε K c1 G ta σ P) (hs : AV ε K c2 G tas σ Ps) : AV ε K (c1 + c2) G (tCons ta tas) σ (fun ds => ∃ d ds', ds = d :: ds' ∧ P d ∧ Ps ds') := fun G1 H n a gh hI hl Q q =>
  h G1 H n a gh hI (by omega) _ fun x d1 G2 H2 e2 hI2 hx p1 => hs G2 H2 (n + c1) (a.trans e2.gg) e2.gh hI2 (by omega) _ fun ys ds' G3 H3 e3 hI3 hy p2 =>
    q _ _ G3 H3 (e2.trans e3 fun _ h => .inl h) (by rw [← Nat.add_assoc]; exact hI3) (.cons (same_dt e3.gg hx) hy) ⟨d1, ds', rfl, p1, p2⟩
theorem ev_lst (h : AV ε K c G tas σ Ps) (hl : ∀ ds, Ps ds → ds.length ≤ 1000) : EV ε K c G (tLst tas) σ (fun d => ∃ ds, d = .list ds ∧ Ps ds) := fun G1 H n a gh hI hlim Q q => h G1 H n a gh hI hlim _ fun vs ds G2 H2 e hI2 hvs hp =>
  ⟨by rw [dts_len hvs]; exact szn _ (hl ds hp), fun p hp' => q _ _ _ _ (e.same (Ext.new e.gh hp')) (ε.stay hI2 (Ext.new e.gh hp')) (.lst upd_same (same_dts (same_new (e.gh.free hp')) hvs)) ⟨ds, rfl, hp⟩⟩
theorem ev_tup (h : AV ε K c G tas σ Ps) (hl : ∀ ds, Ps ds → ds.length ≤ 1000) : EV ε K c G (tTup tas) σ (fun d => ∃ ds, d = .tuple ds ∧ Ps ds) := fun G1 H n a gh hI hlim Q q => h G1 H n a gh hI hlim _ fun vs ds G2 H2 e hI2 hvs hp =>
  ⟨by rw [dts_len hvs]; exact szn _ (hl ds hp), fun p hp' => q _ _ _ _ (e.same (Ext.new e.gh hp')) (ε.stay hI2 (Ext.new e.gh hp')) (.tup (SqT.of upd_same) (same_dts (same_new (e.gh.free hp')) hvs)) ⟨ds, rfl, hp⟩⟩
theorem ev_fn {R : List PyData → PyData → Prop} {E : XK} (h : AV ε K c G tas σ Ps) (hr : ∀ ds, Ps ds → ∃ d, R ds d ∧ P d) : EV ε K c G (tCall (PFn K R) [] E tas) σ P := fun G1 H n a gh hI hlim Q q => h G1 H n a gh hI hlim _ fun vs ds G2 H2 e hI2 hvs hp => by
  rw [List.append_nil]
  obtain ⟨d, hd, hp2⟩ := hr ds hp
  exact ⟨G2, ds, d, e.gh, hvs, hd, fun v G3 H3 e3 hv => q v d G3 H3 (e.same e3) (ε.stay hI2 e3) hv hp2⟩
theorem ev_cb {rr : List V → Hp → VK → Prop} (h : AV ε K c G tas σ Ps) (hr : ∀ ds, Ps ds → ∃ d, CBD K rr ds d ∧ P d) : EV ε K c G (tCB rr tas) σ P := fun G1 H n a gh hI hlim Q q => h G1 H n a gh hI hlim _ fun vs ds G2 H2 e hI2 hvs hp => by
  obtain ⟨d, hd, hp2⟩ := hr ds hp
  exact hd vs G2 H2 e.gh hvs Q fun v G3 H3 e3 hv => q v d G3 H3 (e.same e3) (ε.stay hI2 e3) hv hp2
theorem ev_m1 {rr : V → List V → Hp → VK → Prop} {z : Str} (ho : ED K G ta σ (.str z)) (he : EV ε K c G te σ P1) (hr : ∀ d, P1 d → ∃ d', MD K rr (.str z) [d] d' ∧ P d') : EV ε K c G (tM1 rr ta te) σ P := fun G1 H n a gh hI hlim Q q => ho G1 H a gh _ fun x G2 H2 e2 hx => ⟨⟨z, dt_str hx⟩,
  he G2 H2 n (a.trans e2.gg) e2.gh (ε.stay hI e2) hlim _ fun y d G3 H3 e3 hI3 hy hp => by
    obtain ⟨d', hd, hp2⟩ := hr d hp
    exact hd x [y] G3 H3 e3.gh (same_dt e3.gg hx) (.cons hy .nil) Q fun v G4 H4 e4 hv => q v d' G4 H4 ((e2.toM.trans e3 fun _ h => .inl h).same e4) (ε.stay hI3 e4) hv hp2⟩
theorem tv_test (h : EV ε K c G te σ (fun d => ∃ b, d = .bool b ∧ Pb b)) : TV ε K c G (tTest te) σ Pb := fun G1 H n a gh hI hl Q q => h G1 H n a gh hI hl _ fun v d G2 H2 e hI2 hv ⟨b, hd, hp⟩ => ⟨b, by subst hd; exact dt_bool hv, q b G2 H2 e hI2 hp⟩
theorem tv_B (h : EV ε K c G te σ (fun d => ∃ b, d = .bool b ∧ Pb b)) : TV ε K c G (tB te) σ Pb := fun G1 H n a gh hI hl Q q => h G1 H n a gh hI hl _ fun v d G2 H2 e hI2 hv ⟨b, hd, hp⟩ => ⟨b, by subst hd; exact dt_bool hv, q b G2 H2 e hI2 hp⟩
theorem tv_not (h : TV ε K c G t σ (fun b => Pb (!b))) : TV ε K c G (tNot t) σ Pb := fun G1 H n a gh hI hl Q q => h G1 H n a gh hI hl _ fun b G2 H2 e hI2 hp => q _ G2 H2 e hI2 hp
/-- a test with either answer -/
theorem TV.any (h : TV ε K c G t σ Pb) : TV ε K c G t σ (fun _ => True) := h.imp fun _ _ => trivial
/-- comprehensions whose element draws -/
theorem ev_lc {wi : TI} {g : TG} {te : TE} {vs : List Nat} {m : Nat} {f : Nat → PyData} {P : Nat → PyData → Prop} {B : Nat → Hp → L2.St → Prop} (hi : EI K G wi σ m f) (hn : m < 100000) (hb : ∀ i, i < m → EG K g (wipe σ vs) (f i) (B i))
    (hw : ∀ i G1 σ2, i < m → B i G1 σ2 → wipe σ2 vs = wipe σ vs) (he : ∀ i G1 σ2, i < m → Same G G1 → B i G1 σ2 → EV ε K c G1 te σ2 (P i)) :
    EV ε K (m * c) G (tLc wi g tYes te vs) σ (fun d => ∃ ds, d = .list ds ∧ ds.length = m ∧ ∀ i x, ds[i]? = some x → P i x) := fun G1 H n a gh hI hlim Q q => hi G1 H a gh _ fun J G2 H2 e2 W D hD => by
  have hI2 := ε.stay hI e2
  have hDM : D ∉ ε.M := fun z => by
    obtain ⟨o, ho⟩ := ε.trk hI2 D z
    rw [hD] at ho
    cases ho
  have hMD : ∀ a ∈ ε.M, a ∉ [D] := fun a ha z => hDM (by rw [List.mem_singleton] at z; rw [← z]; exact ha)
  refine ⟨fun i k H' => k = m - i ∧ i ≤ m ∧ ∃ G' acc ds, Ext ε.M G2 H2 G' H' ∧ G' D = none ∧ H' D = some (.lst acc) ∧ DtAll K G' acc ds ∧ ds.length = i ∧ (∀ j x, ds[j]? = some x → P j x) ∧ ε.I (n + i * c) G' H',
    ⟨m, by simp, Nat.zero_le _, G2, [], [], Ext.cell e2.gh hD, e2.gh.free hD, upd_same, .nil, rfl, fun _ _ z => by simp at z, by rw [Nat.zero_mul]; exact ε.stay hI2 (Ext.cell e2.gh hD)⟩, ?_⟩
  rintro i k H' ⟨rfl, hin, G', acc, ds, e, gD, hacc, hds, hlen, hP, hI'⟩
  have gsame : Same G2 H' := e.gg.trans e.gh
  by_cases hlt : i < m
  · have hle : (i + 1) * c ≤ m * c := Nat.mul_le_mul_right c hlt
    have hsc : (i + 1) * c = i * c + c := Nat.succ_mul i c
    refine .inr ⟨W.goes i H' hlt gsame, fun H'' => ∃ G' acc ds, Ext ε.M G2 H2 G' H'' ∧ G' D = none ∧ H'' D = some (.lst acc) ∧ DtAll K G' acc ds ∧ ds.length = i + 1 ∧ (∀ j x, ds[j]? = some x → P j x) ∧ ε.I (n + (i + 1) * c) G' H'', fun H'' h => ⟨m - (i + 1), by omega, rfl, hlt, h⟩, fun x H3 y => ?_⟩
    obtain ⟨G3, e3, hx⟩ := W.yields i H' x H3 G' hlt e.gg e.gh y
    refine hb i hlt G3 H3 x e3.gh hx _ fun σ2 hσ => ⟨hw i G3 σ2 hlt hσ, ?_⟩
    unfold tYes
    refine iteT ?_
    have eG : Same G G3 := ((a.trans e2.gg).trans e.gg).trans e3.gg
    refine he i G3 σ2 hlt eG hσ G3 H3 (n + i * c) (Same.refl G3) e3.gh (ε.stay hI' e3) (by omega) _ fun w d G5 H5 e5 hI5 hwd hpd => ?_
    have gD5 : G5 D = none := e5.free (e3.free gD hacc) (e3.keep hacc (by simp))
    have hacc5 : H5 D = some (.lst acc) := e5.keep (e3.keep hacc (by simp)) hDM
    have l2 := dts_len hds
    have ep := Ext.put (o := .lst (acc ++ [w])) e5.gh gD5 hacc5
    refine ⟨acc, hacc5, sz_list (by omega), G5, acc ++ [w], ds ++ [d], ((e.same e3).trans e5 fun _ h => .inl h).trans ep fun z hz => .inr (by rw [List.mem_singleton] at hz; rw [hz]; exact hD), gD5, upd_same, dts_app (same_dts (e3.gg.trans e5.gg) hds) (.cons hwd .nil), by rw [List.length_append, hlen]; rfl, fun j y hy => ?_, ?_⟩
    · by_cases hj : j < ds.length
      · rw [List.getElem?_append_left hj] at hy
        exact hP j y hy
      · rw [List.getElem?_append_right (by omega)] at hy
        have : j - ds.length = 0 := by
          cases q : j - ds.length with
          | zero => rfl
          | succ q' => rw [q] at hy; simp at hy
        rw [this] at hy
        have e1 : d = y := by simpa using hy
        have e2 : j = i := by omega
        subst e1 e2
        exact hpd
    · have z := ε.keep hI5 ep hMD
      rw [hsc, ← Nat.add_assoc]
      exact z
  · have ei : i = m := by omega
    subst ei
    refine .inl ⟨W.stops H' gsame, ?_⟩
    have ek := Ext.know e.gh hacc gD e hD
    have hI3 : ε.I (n + i * c) (upd G' D (.lst acc)) H' := ε.know hI' (same_new gD) fun a ha => by
      have z : a ≠ D := fun z => hDM (z ▸ ha)
      rw [upd_ne z]
      exact ε.unk hI' a ha
    exact q _ _ _ H' (e2.toM.trans ek fun _ h => .inl h) hI3 (.lst upd_same (same_dts (same_new gD) hds)) ⟨ds, rfl, hlen, hP⟩
/-! menus -/
theorem avl_nil : AV ε K 0 G tNil σ (fun ds => ds.length = 0 ∧ ∀ x ∈ ds, P x) := fun G1 H n a gh hI hl Q q => q [] [] G1 H (Ext.refl gh) hI .nil ⟨rfl, fun _ h => nomatch h⟩
theorem avl_cons {m : Nat} (h : EV ε K c1 G ta σ P) (hs : AV ε K c2 G tas σ (fun ds => ds.length = m ∧ ∀ x ∈ ds, P x)) : AV ε K (c1 + c2) G (tCons ta tas) σ (fun ds => ds.length = m + 1 ∧ ∀ x ∈ ds, P x) := fun G1 H n a gh hI hl Q q =>
  av_cons h hs G1 H n a gh hI hl Q fun vs ds G2 H2 e hI2 hv ⟨d, ds', hd, p1, p2, p3⟩ => q vs ds G2 H2 e hI2 hv ⟨by rw [hd, List.length_cons, p2], fun x hx => by
    rw [hd] at hx
    rcases List.mem_cons.mp hx with z | z
    · rw [z]; exact p1
    · exact p3 x z⟩
/-- an item of a list at a drawn place -/
theorem ev_ixL {m : Nat} (ha : EV ε K c1 G ta σ (fun d => ∃ ds, d = .list ds ∧ ds.length = m ∧ ∀ x ∈ ds, P x)) (hb : EV ε K c2 G tb σ (fun d => ∃ r : Int, d = .int r ∧ 0 ≤ r ∧ r < m)) : EV ε K (c1 + c2) G (tOp (rIxL K) ta tb) σ P :=
  ev_op ha hb fun d1 d2 ⟨ds, e1, hl, hp⟩ ⟨r, e2, r0, r1⟩ => by
    subst e1 e2
    obtain ⟨x, h1, h2⟩ := atI_in (xs := ds) r0 (by omega)
    exact ⟨x, r2_ixL h1, hp x (List.mem_of_getElem? h2)⟩
theorem ev_ixL0 {m : Nat} (ha : AV ε K c1 G tas σ (fun ds => ds.length = m ∧ ∀ x ∈ ds, P x)) (hm : m ≤ 1000) (hb : EV ε K c2 G tb σ (fun d => ∃ r : Int, d = .int r ∧ 0 ≤ r ∧ r < m)) : EV ε K (c1 + c2) G (tOp (rIxL K) (tLst tas) tb) σ P :=
  ev_ixL (ev_lst ha fun ds h => by omega) hb
/-- a sign of a text at a drawn place -/
theorem ev_ixS {z : Str} (ha : ED K G ta σ (.str z)) (hz : z.length ≤ 10000) (hb : EV ε K c G tb σ (fun d => ∃ r : Int, d = .int r ∧ 0 ≤ r ∧ r < z.length)) : EV ε K c G (tOp rIxS ta tb) σ (fun d => ∃ x ∈ z.cps.toList, d = .str ⟨#[x]⟩) :=
  EV.up (ev_op (ev_ed ha) hb fun d1 d2 e1 ⟨r, e2, r0, r1⟩ => by
    subst e1 e2
    obtain ⟨x, h1, h2⟩ := atI_in (xs := z.cps.toList) r0 (by rw [Array.length_toList]; exact r1)
    exact ⟨_, r2_ixS (Nat.le_trans hz (by decide)) h1, x, List.mem_of_getElem? h2, rfl⟩) (by omega)
/-- ints: any one comes out -/
def isI (d : PyData) : Prop := ∃ i : Int, d = .int i
theorem ev_ints {g : Int → Int → Int} (ha : EV ε K c1 G ta σ isI) (hb : EV ε K c2 G tb σ isI) : EV ε K (c1 + c2) G (tOp (rI0 fun i j => .int (g i j)) ta tb) σ isI :=
  ev_op ha hb fun d1 d2 ⟨i, e1⟩ ⟨j, e2⟩ => by subst e1 e2; exact ⟨_, r2_i, _, rfl⟩
theorem ev_d (h : ED K G te σ d) (hp : P d) : EV ε K 0 G te σ P := (ev_ed h).imp fun _ e => e ▸ hp

/-! ### statements that draw -/
def SS (ε : Eff) (K : PySem.W.Frag) (c : Nat) (G : Hp) (ts : TS) (σ : L2.St) (R : PyData → Prop) (N : Hp → L2.St → Prop) : Prop := ∀ G1 H n, Same G G1 → Same G1 H → ε.I n G1 H → n + c ≤ lim → ∀ D : Ends,
  (∀ v d G2 H2, Ext ε.M G1 H G2 H2 → ε.I (n + c) G2 H2 → Dt K G2 v d → R d → D.rt v H2) → (∀ σ' G2 H2, Ext ε.M G1 H G2 H2 → ε.I (n + c) G2 H2 → N G2 σ' → D.nx σ' H2) → ts D σ H
variable {R : PyData → Prop} {N M : Hp → L2.St → Prop} {ts tz : TS}
theorem SS.mono (h : SS ε K c G ts σ R N) (e : Same G G') : SS ε K c G' ts σ R N := fun G1 H n a => h G1 H n (e.trans a)
theorem SS.up (h : SS ε K c G ts σ R N) (k : c ≤ c2) : SS ε K c2 G ts σ R N := fun G1 H n a gh hI hl D hrt hnx => h G1 H n a gh hI (by omega) D (fun v d G2 H2 e hI2 => hrt v d G2 H2 e (ε.up (by omega) hI2)) fun σ' G2 H2 e hI2 => hnx σ' G2 H2 e (ε.up (by omega) hI2)
theorem ss_es (h : ES K G ts σ R N) : SS ε K 0 G ts σ R N := fun G1 H n a gh hI hl D hrt hnx => h G1 H a gh D (fun v d G2 H2 e => hrt v d G2 H2 e.toM (ε.stay hI e)) fun σ' G2 H2 e => hnx σ' G2 H2 e.toM (ε.stay hI e)
theorem ss_ret (h : EV ε K c G te σ P) (hr : ∀ d, P d → R d) : SS ε K c G (tRet te) σ R N := fun G1 H n a gh hI hl D hrt hnx => h G1 H n a gh hI hl _ fun v d G2 H2 e hI2 hv hp => hrt v d G2 H2 e hI2 hv (hr d hp)
theorem ss_seq (h : SS ε K c1 G ts σ R M) (k : ∀ G1 σ1, Same G G1 → M G1 σ1 → SS ε K c2 G1 tz σ1 R N) : SS ε K (c1 + c2) G (tSeq ts tz) σ R N := fun G1 H n a gh hI hl D hrt hnx =>
  h G1 H n a gh hI (by omega) { D with nx := tz D } (fun v d G2 H2 e hI2 => hrt v d G2 H2 e (ε.up (by omega) hI2)) fun σ1 G2 H2 e hI2 hm => k G2 σ1 (a.trans e.gg) hm G2 H2 (n + c1) (Same.refl G2) e.gh hI2 (by omega) D
    (fun v d G3 H3 e3 hI3 => hrt v d G3 H3 (e.trans e3 fun _ h => .inl h) (by rw [← Nat.add_assoc]; exact hI3)) (fun σ' G3 H3 e3 hI3 => hnx σ' G3 H3 (e.trans e3 fun _ h => .inl h) (by rw [← Nat.add_assoc]; exact hI3))
theorem ss_set {i : Nat} (h : EV ε K c1 G te σ P) (k : ∀ G1 x d, Same G G1 → Dt K G1 x d → P d → SS ε K c2 G1 tz (σ.set i (some x)) R N) : SS ε K (c1 + c2) G (tSeq (tAsg te (gName i)) tz) σ R N :=
  ss_seq (M := fun G1 σ1 => ∃ x d, Dt K G1 x d ∧ P d ∧ σ1 = σ.set i (some x)) (fun G1 H n a gh hI hl D hrt hnx => h G1 H n a gh hI hl _ fun v d G2 H2 e hI2 hv hp => hnx _ G2 H2 e hI2 ⟨v, d, hv, hp, rfl⟩) fun G1 σ1 a ⟨x, d, hx, hp, e⟩ => by rw [e]; exact k G1 x d a hx hp
theorem ss_if (h : TV ε K c1 G t σ Pb) (h1 : Pb true → SS ε K c2 G ts σ R N) (h2 : Pb false → SS ε K c2 G tz σ R N) : SS ε K (c1 + c2) G (tIfS t ts tz) σ R N := fun G1 H n a gh hI hl D hrt hnx => h G1 H n a gh hI (by omega) _ fun b G2 H2 e hI2 hb => by
  cases b with
  | true => exact iteT (h1 hb G2 H2 (n + c1) (a.trans e.gg) e.gh hI2 (by omega) D (fun v d G3 H3 e3 hI3 => hrt v d G3 H3 (e.trans e3 fun _ h => .inl h) (by rw [← Nat.add_assoc]; exact hI3)) (fun σ' G3 H3 e3 hI3 => hnx σ' G3 H3 (e.trans e3 fun _ h => .inl h) (by rw [← Nat.add_assoc]; exact hI3)))
  | false => exact iteF (h2 hb G2 H2 (n + c1) (a.trans e.gg) e.gh hI2 (by omega) D (fun v d G3 H3 e3 hI3 => hrt v d G3 H3 (e.trans e3 fun _ h => .inl h) (by rw [← Nat.add_assoc]; exact hI3)) (fun σ' G3 H3 e3 hI3 => hnx σ' G3 H3 (e.trans e3 fun _ h => .inl h) (by rw [← Nat.add_assoc]; exact hI3)))
theorem ss_when (h : TV ε K c1 G t σ Pb) (h1 : Pb true → SS ε K c2 G (tSeq ts tz) σ R N) (h2 : Pb false → SS ε K c2 G tz σ R N) : SS ε K (c1 + c2) G (tSeq (tIfS t ts tNext) tz) σ R N := fun G1 H n a gh hI hl D hrt hnx => h G1 H n a gh hI (by omega) _ fun b G2 H2 e hI2 hb => by
  cases b with
  | true => exact iteT (h1 hb G2 H2 (n + c1) (a.trans e.gg) e.gh hI2 (by omega) D (fun v d G3 H3 e3 hI3 => hrt v d G3 H3 (e.trans e3 fun _ h => .inl h) (by rw [← Nat.add_assoc]; exact hI3)) (fun σ' G3 H3 e3 hI3 => hnx σ' G3 H3 (e.trans e3 fun _ h => .inl h) (by rw [← Nat.add_assoc]; exact hI3)))
  | false => exact iteF (h2 hb G2 H2 (n + c1) (a.trans e.gg) e.gh hI2 (by omega) D (fun v d G3 H3 e3 hI3 => hrt v d G3 H3 (e.trans e3 fun _ h => .inl h) (by rw [← Nat.add_assoc]; exact hI3)) (fun σ' G3 H3 e3 hI3 => hnx σ' G3 H3 (e.trans e3 fun _ h => .inl h) (by rw [← Nat.add_assoc]; exact hI3)))
theorem ss_retSeq (h : EV ε K c G te σ P) (hr : ∀ d, P d → R d) : SS ε K c G (tSeq (tRet te) tz) σ R N := fun G1 H n a gh hI hl D hrt hnx => h G1 H n a gh hI hl _ fun v d G2 H2 e hI2 hv hp => hrt v d G2 H2 e hI2 hv (hr d hp)
end

/-! ### defs that draw: the state stands among the arguments (none), the others are data -/
inductive DtO (K : PySem.W.Frag) (p : Addr) (G : Hp) : V → Option PyData → Prop
  | st : DtO K p G (.ref p) none
  | dt {v : V} {d : PyData} : Dt K G v d → DtO K p G v (some d)
abbrev DtOs (K : PySem.W.Frag) (p : Addr) (G : Hp) : List V → List (Option PyData) → Prop := Paired (DtO K p G)
def SFn (ef : Addr → Eff) (K : PySem.W.Frag) (c : Nat) (Pre : List (Option PyData) → Prop) (R : List (Option PyData) → PyData → Prop) : Sp := fun vs H Q _ => ∃ (G : Hp) (p : Addr) (n : Nat) (os : List (Option PyData)), Same G H ∧ (ef p).I n G H ∧ n + c ≤ lim ∧ DtOs K p G vs os ∧ Pre os ∧
  ∀ v d G' H', Ext (ef p).M G H G' H' → (ef p).I (n + c) G' H' → Dt K G' v d → R os d → Q v H'
def AO (ε : Eff) (K : PySem.W.Frag) (p : Addr) (c : Nat) (G : Hp) (ta : TA) (σ : L2.St) (P : List (Option PyData) → Prop) : Prop := ∀ G1 H n, Same G G1 → Same G1 H → ε.I n G1 H → n + c ≤ lim → ∀ Q : List V → Hp → Prop, (∀ vs os G2 H2, Ext ε.M G1 H G2 H2 → ε.I (n + c) G2 H2 → DtOs K p G2 vs os → P os → Q vs H2) → ta σ H Q
theorem dtos_same {K : PySem.W.Frag} {p : Addr} {G G' : Hp} (e : Same G G') : ∀ {vs : List V} {os : List (Option PyData)}, DtOs K p G vs os → DtOs K p G' vs os
  | _, _, .nil => .nil
  | _, _, .cons (.st) hs => .cons .st (dtos_same e hs)
  | _, _, .cons (.dt h) hs => .cons (.dt (same_dt e h)) (dtos_same e hs)
section
variable {ef : Addr → Eff} {K : PySem.W.Frag} {p : Addr} {c c1 c2 : Nat} {G : Hp} {σ : L2.St} {ta te : TE} {tas : TA} {d : PyData} {P : PyData → Prop} {Ps : List (Option PyData) → Prop}
theorem ao_nil : AO (ef p) K p 0 G tNil σ (fun os => os = []) := fun G1 H n a gh hI hl Q q => q [] [] G1 H (Ext.refl gh) hI .nil rfl
theorem ao_st {i : Nat} (h : σ[i]? = some (some (.ref p))) (hs : AO (ef p) K p c G tas σ Ps) : AO (ef p) K p c G (tCons (tVar i) tas) σ (fun os => ∃ os', os = none :: os' ∧ Ps os') := fun G1 H n a gh hI hl Q q =>
  ⟨_, h, hs G1 H n a gh hI hl _ fun vs os G2 H2 e hI2 hv hp => q _ _ G2 H2 e hI2 (.cons .st hv) ⟨os, rfl, hp⟩⟩
theorem ao_cons (h : EV (ef p) K c1 G ta σ P) (hs : AO (ef p) K p c2 G tas σ Ps) : AO (ef p) K p (c1 + c2) G (tCons ta tas) σ (fun os => ∃ d os', os = some d :: os' ∧ P d ∧ Ps os') := fun G1 H n a gh hI hl Q q =>
  h G1 H n a gh hI (by omega) _ fun x d G2 H2 e2 hI2 hx hp => hs G2 H2 (n + c1) (a.trans e2.gg) e2.gh hI2 (by omega) _ fun vs os G3 H3 e3 hI3 hv hps =>
    q _ _ G3 H3 (e2.trans e3 fun _ h => .inl h) (by rw [← Nat.add_assoc]; exact hI3) (.cons (.dt (same_dt e3.gg hx)) hv) ⟨d, os, rfl, hp, hps⟩
theorem ev_sfn {Pre : List (Option PyData) → Prop} {R : List (Option PyData) → PyData → Prop} {E : XK} (h : AO (ef p) K p c1 G tas σ Ps) (hr : ∀ os, Ps os → Pre os ∧ ∀ d, R os d → P d) : EV (ef p) K (c1 + c) G (tCall (SFn ef K c Pre R) [] E tas) σ P := fun G1 H n a gh hI hl Q q => h G1 H n a gh hI (by omega) _ fun vs os G2 H2 e hI2 hv hps => by
  rw [List.append_nil]
  obtain ⟨h1, h2⟩ := hr os hps
  exact ⟨G2, p, n + c1, os, e.gh, hI2, by omega, hv, h1, fun v d G3 H3 e3 hI3 hv3 hR => q v d G3 H3 (e.trans e3 fun _ h => .inl h) (by rw [← Nat.add_assoc]; exact hI3) hv3 (h2 d hR)⟩
end
section
variable {P : Program} {w : World} {K : PySem.W.Frag} {mg : Str → Option Value} {base : Heap} {ef : Addr → Eff}
theorem paired_len {α β : Type} {F : α → β → Prop} : ∀ {xs : List α} {ys : List β}, Paired F xs ys → xs.length = ys.length
  | _, _, .nil => rfl
  | _, _, .cons _ h => by simp [paired_len h]
theorem FnIn.draw {x : Str} {st : Stmt} {N ps : List Str} {k c : Nat} {Pre : List (Option PyData) → Prop} {R : List (Option PyData) → PyData → Prop} (F : FnIn K mg x st) (S : FnScope N ps (defScope st)) (len : ∀ os, Pre os → os.length = ps.length)
    (hb : ∀ (kV doc pm : Value) (an : Option Addr) (cdv ct : Value) (us : List Value), us.length = ps.length → bindArgs (PySem.W.fnOf x x (defArgs st) (defBody st) (defScope st) .none kV doc pm an cdv ct) ⟨us, []⟩ = Pure.pure (ps.zip us))
    (body : ∀ (f : Addr) (cdv : Value) (A : Around) (outer : List Env) (s : Shared) (H : Hp) (E : XK), Room k (A.deeper (PyProof.Rows.envOfC x (defScope st) s.heap.objs.size f cdv)) →
      ∃ t, PSs (cxOf CX0 P w K mg base N x (defScope st) f cdv A outer s H E).nox (defBody st) t ∧ ∀ G p vs os, DtOs K p G vs os → Pre os → SS (ef p) K c G t (start N vs) (R os) (fun _ _ => R os .none)) : Has P w K mg base CX0 (k + 1) x ps (SFn ef K c Pre R) := by
  refine F.ok S (fun vs H Q E ⟨G, p, n, os, gh, hI, hl, hv, hp, q⟩ => (paired_len hv).trans (len os hp)) hb (fun f cdv A outer s H vs Q E hr ⟨G, p, n, os, gh, hI, hl, hv, hp, q⟩ => ?_)
  obtain ⟨t, ht, hs⟩ := body f cdv A outer s H E hr
  refine ⟨t, ht, hs G p vs os hv hp G H n (Same.refl G) gh hI hl _ (fun v d G2 H2 e hI2 hv hR => q v d G2 H2 e hI2 hv hR) (fun σ' G2 H2 e hI2 hR => q .non .none G2 H2 e hI2 .non hR)⟩
end
end S

set_option linter.unusedVariables false
namespace S
open PySem L2
/-! ### texts by their signs -/
def mkS (l : List Nat) : Str := ⟨l.toArray⟩
theorem mkS_list (l : List Nat) : (mkS l).cps.toList = l := rfl
theorem mkS_len (l : List Nat) : (mkS l).length = l.length := by show l.toArray.size = _; simp
theorem mkS_of (x : Str) : x = mkS x.cps.toList := by cases x; rfl
theorem mkS_inj {l m : List Nat} (h : mkS l = mkS m) : l = m := by
  have := congrArg (fun x : Str => x.cps.toList) h
  exact this
theorem mkS_app (l m : List Nat) : mkS l ++ mkS m = mkS (l ++ m) := by
  show Str.append _ _ = _
  unfold Str.append mkS
  simp
theorem mkS_size (l : List Nat) : (mkS l).cps.size = l.length := mkS_len l
theorem mkS_getD (l : List Nat) (i : Nat) : (mkS l).cps.getD i 0 = l.getD i 0 := by
  rw [Array.getD_eq_getD_getElem?, List.getD_eq_getElem?_getD]
  show (l.toArray[i]?).getD 0 = _
  rw [List.getElem?_toArray]
/-- one sign -/
abbrev sg (c : Nat) : Str := ⟨#[c]⟩
theorem joinL_flat : ∀ ps : List (List Nat), TL.joinL [] ps = ps.flatten
  | [] => rfl
  | [p] => by simp [TL.joinL]
  | p :: q :: r => by
    rw [TL.joinL, joinL_flat (q :: r)]
    simp
theorem join_texts (ls : List (List Nat)) : Txt.join "" (ls.map mkS) = mkS ls.flatten := by
  have h : TL.tl (Txt.join "" (ls.map mkS)) = ls.flatten := by
    rw [TL.join_eq, TL.tl_join]
    have e : (ls.map mkS).map TL.tl = ls := by
      rw [List.map_map]
      exact List.map_id'' (fun l => rfl) ls
    rw [e, show TL.tl ("" : Str) = [] from by decide +kernel, joinL_flat]
  rw [mkS_of (Txt.join "" (ls.map mkS))]
  exact congrArg mkS h
theorem flat_one : ∀ l : List Nat, (l.map fun c => [c]).flatten = l
  | [] => rfl
  | a :: l => by rw [List.map_cons, List.flatten_cons, flat_one l]; rfl
theorem join_signs (l : List Nat) : Txt.join "" (l.map sg) = mkS l := by
  have e : l.map sg = (l.map fun c => [c]).map mkS := by
    rw [List.map_map]
    rfl
  rw [e, join_texts]
  congr 1
  exact flat_one l
theorem cutS_mk (l : List Nat) (lo hi : Option Int) : cutS (mkS l) lo hi = mkS ((l.drop (HT.sIx l.length 0 lo)).take (HT.sIx l.length l.length hi - HT.sIx l.length 0 lo)) := by
  unfold cutS
  rw [mkS_len]
  rfl
theorem strOk_mk {l : List Nat} (h : ∀ c ∈ l, c < 1114112) : PyData.strOk (mkS l) = true := by
  unfold PyData.strOk mkS
  simp only [List.all_toArray, List.all_eq_true, decide_eq_true_eq]
  exact h
theorem sum_sg (l : List Nat) : ((l.map sg).map (·.length)).sum = l.length := by
  induction l with
  | nil => rfl
  | cons a l ih =>
    rw [List.map_cons, List.map_cons, List.sum_cons, ih, List.length_cons]
    show 1 + l.length = _
    omega
/-! ### data that may be compared -/
def ShD (n : Nat) (d : PyData) : Prop := d.canLay0 = true ∧ d.depth ≤ n
theorem ShD.ok {n : Nat} {d : PyData} (h : ShD n d) (hn : n ≤ 64 := by decide) : SeqAt.shaped d = true := by
  unfold SeqAt.shaped
  rw [h.1, decide_eq_true (Nat.le_trans h.2 hn)]
  rfl
theorem sh_int {n : Nat} {i : Int} : ShD n (.int i) := ⟨by simp [PyData.canLay0], by simp [PyData.depth]⟩
theorem sh_bool {n : Nat} {b : Bool} : ShD n (.bool b) := ⟨by simp [PyData.canLay0], by simp [PyData.depth]⟩
theorem sh_none {n : Nat} : ShD n .none := ⟨by simp [PyData.canLay0], by simp [PyData.depth]⟩
theorem sh_str {n : Nat} {z : Str} (h : PyData.strOk z = true) : ShD n (.str z) := ⟨by simp [PyData.canLay0, h], by simp [PyData.depth]⟩
theorem sh_txt {n : Nat} {l : List Nat} (h : ∀ c ∈ l, c < 1114112) : ShD n (.str (mkS l)) := sh_str (strOk_mk h)
theorem sh_all {n : Nat} : ∀ {ds : List PyData}, (∀ x ∈ ds, ShD n x) → PyData.canLayAll0 ds = true ∧ PyData.depthAll ds ≤ n
  | [], _ => ⟨by simp [PyData.canLayAll0], by simp [PyData.depthAll]⟩
  | d :: ds, h => by
    obtain ⟨h1, h2⟩ := h d (by simp)
    obtain ⟨h3, h4⟩ := sh_all (ds := ds) fun x hx => h x (by simp [hx])
    refine ⟨by simp [PyData.canLayAll0, h1, h3], ?_⟩
    rw [PyData.depthAll]
    omega
theorem sh_list {n : Nat} {ds : List PyData} (h : ∀ x ∈ ds, ShD n x) : ShD (n + 1) (.list ds) := by
  obtain ⟨h1, h2⟩ := sh_all h
  exact ⟨by simp [PyData.canLay0, h1], by rw [PyData.depth]; omega⟩
theorem sh_tuple {n : Nat} {ds : List PyData} (h : ∀ x ∈ ds, ShD n x) : ShD (n + 1) (.tuple ds) := by
  obtain ⟨h1, h2⟩ := sh_all h
  exact ⟨by simp [PyData.canLay0, h1], by rw [PyData.depth]; omega⟩
theorem ShD.up {n m : Nat} {d : PyData} (h : ShD n d) (k : n ≤ m) : ShD m d := ⟨h.1, Nat.le_trans h.2 k⟩
/-- f tells things apart -/
def EqF {α : Type} [DecidableEq α] (f : α → PyData) : Prop := ∀ x y, PyData.eqv (f x) (f y) = decide (x = y)
theorem eqf_int : EqF PyData.int := fun x y => by rw [PyData.eqv]; exact Bool.eq_iff_iff.mpr (by simp)
theorem eqf_bool : EqF PyData.bool := fun x y => by rw [PyData.eqv]; exact Bool.eq_iff_iff.mpr (by simp)
theorem eqf_str : EqF PyData.str := fun x y => by rw [PyData.eqv]; exact Bool.eq_iff_iff.mpr (by simp)
theorem eqf_txt : EqF (fun l => PyData.str (mkS l)) := fun x y => by
  rw [eqf_str]
  by_cases h : x = y
  · subst h; simp
  · rw [decide_eq_false h, decide_eq_false fun e => h (mkS_inj e)]
theorem eqvAll_map {α : Type} [DecidableEq α] {f : α → PyData} (h : EqF f) : ∀ xs ys : List α, PyData.eqvAll (xs.map f) (ys.map f) = decide (xs = ys)
  | [], [] => by simp [PyData.eqvAll]
  | [], y :: ys => by simp [PyData.eqvAll]
  | x :: xs, [] => by simp [PyData.eqvAll]
  | x :: xs, y :: ys => by
    rw [List.map_cons, List.map_cons, PyData.eqvAll, h x y, eqvAll_map h xs ys]
    exact Bool.eq_iff_iff.mpr (by simp)
theorem eqf_list {α : Type} [DecidableEq α] {f : α → PyData} (h : EqF f) : EqF (fun xs : List α => PyData.list (xs.map f)) := fun xs ys => by rw [PyData.eqv]; exact eqvAll_map h xs ys
theorem eqf_tuple {α : Type} [DecidableEq α] {f : α → PyData} (h : EqF f) : EqF (fun xs : List α => PyData.tuple (xs.map f)) := fun xs ys => by rw [PyData.eqv]; exact eqvAll_map h xs ys
theorem eqv_nil {ds : List PyData} : PyData.eqv (.list ds) (.list []) = ds.isEmpty := by
  rw [PyData.eqv]
  cases ds with
  | nil => simp [PyData.eqvAll]
  | cons a l => simp [PyData.eqvAll]
section
variable {K : PySem.W.Frag} {G : Hp} {σ : L2.St} {ta tb tc te : TE} {d d1 d2 d3 : PyData} {ds es : List PyData} {b c : Bool} {r r' : R2} {to tp : TO}
/-- a text of signs that were gathered -/
theorem md_joinS (l : List Nat) (h : l.length ≤ 10000) : MD K (fun x xs H Q => ∃ a p, ∃ ys : List Str, x = .str a ∧ xs = [.ref p] ∧ (SqL K H p (ys.map V.str) ∨ SqT K H p (ys.map V.str)) ∧ (ys.map (·.length)).sum + ys.length * a.length ≤ 16777216 ∧ Q (.str (Txt.join a ys)) H)
    (.str "") [.list (l.map fun c => .str (sg c))] (.str (mkS l)) := by
  have m := md_join (K := K) (a := "") (ys := l.map sg) (by rw [sum_sg, show Str.length "" = 0 from by decide +kernel]; omega)
  rw [join_signs, List.map_map] at m
  exact m
theorem r2_inS {x : Nat} {z : Str} : R2D K (fun x y H Q => ∃ (c : Nat) (z : Str), x = .str ⟨#[c]⟩ ∧ y = .str z ∧ Q (.bl (decide (c ∈ z.cps.toList))) H) (.str (sg x)) (.str z) (.bool (decide (x ∈ z.cps.toList))) := fun v w G H gh hx hy Q q => by
  rw [dt_str hx, dt_str hy]
  exact ⟨x, z, rfl, rfl, q _ G H (Ext.refl gh) (.bl _)⟩
theorem r2_inNotS {x : Nat} {z : Str} : R2D K (fun x y H Q => ∃ (c : Nat) (z : Str), x = .str ⟨#[c]⟩ ∧ y = .str z ∧ Q (.bl (!decide (c ∈ z.cps.toList))) H) (.str (sg x)) (.str z) (.bool (!decide (x ∈ z.cps.toList))) := fun v w G H gh hx hy Q q => by
  rw [dt_str hx, dt_str hy]
  exact ⟨x, z, rfl, rfl, q _ G H (Ext.refl gh) (.bl _)⟩
/-- a < b < c -/
theorem ed_chain (ha : ED K G ta σ d1) (hb : ED K G tb σ d2) (hr : R2D K r d1 d2 (.bool b)) (hc : ED K G tc σ d3) (hr' : R2D K r' d2 d3 (.bool c)) : ED K G (tChain r r' ta tb tc) σ (.bool (b && c)) := fun G1 H a gh Q q =>
  ha G1 H a gh _ fun x G2 H2 e2 hx => hb G2 H2 (a.trans e2.gg) e2.gh _ fun y G3 H3 e3 hy => hr x y G3 H3 e3.gh (same_dt e3.gg hx) hy _ fun z G4 H4 e4 hz => ⟨b, dt_bool hz, by
    have e24 := (e2.same e3).same e4
    cases b with
    | false => exact iteF (q _ G4 H4 e24 (.bl _))
    | true => exact iteT (hc G4 H4 (a.trans e24.gg) e24.gh _ fun w G5 H5 e5 hw => hr' y w G5 H5 e5.gh (same_dt (e4.gg.trans e5.gg) hy) hw Q fun v G6 H6 e6 hv => q v G6 H6 ((e24.same e5).same e6) hv)⟩
/-- slices -/
theorem eo_none : EO K G tNoPart σ none := fun G1 H a gh Q q => q G1 H (Ext.refl gh)
theorem eo_some {i : Int} (h : ED K G te σ (.int i)) : EO K G (tPart te) σ (some i) := fun G1 H a gh Q q => h G1 H a gh _ fun v G2 H2 e hv => ⟨i, dt_int hv, q G2 H2 e⟩
def cutD (ds : List PyData) (lo hi : Option Int) : List PyData := (ds.drop (HT.sIx ds.length 0 lo)).take (HT.sIx ds.length ds.length hi - HT.sIx ds.length 0 lo)
theorem dts_cut {xs : List V} {lo hi : Option Int} (h : DtAll K G xs ds) : DtAll K G (cutV xs lo hi) (cutD ds lo hi) := by
  unfold cutV cutD
  rw [dts_len h]
  exact dts_take _ (dts_drop _ h)
theorem ed_slL {lo hi : Option Int} (h : ED K G te σ (.list ds)) (hl : EO K G to σ lo) (hh : EO K G tp σ hi) : ED K G (tSl (rSlL K) te to tp) σ (.list (cutD ds lo hi)) := fun G1 H a gh Q q =>
  h G1 H a gh _ fun x G2 H2 e2 hx => hl G2 H2 (a.trans e2.gg) e2.gh _ fun G3 H3 e3 => hh G3 H3 ((a.trans e2.gg).trans e3.gg) e3.gh _ fun G4 H4 e4 => by
    obtain ⟨p, xs, rfl, hq, hs⟩ := dt_list (same_dt (e3.gg.trans e4.gg) hx) e4.gh
    refine ⟨p, xs, rfl, hq, fun l hl => q _ _ _ (((e2.same e3).same e4).same (Ext.new e4.gh hl)) (.lst upd_same (dts_cut (same_dts (same_new (e4.gh.free hl)) hs)))⟩
theorem ed_slS {l : List Nat} {lo hi : Option Int} (h : ED K G te σ (.str (mkS l))) (hl : EO K G to σ lo) (hh : EO K G tp σ hi) (hz : l.length ≤ 10000) : ED K G (tSl rSlS te to tp) σ (.str (mkS ((l.drop (HT.sIx l.length 0 lo)).take (HT.sIx l.length l.length hi - HT.sIx l.length 0 lo)))) := fun G1 H a gh Q q =>
  h G1 H a gh _ fun x G2 H2 e2 hx => hl G2 H2 (a.trans e2.gg) e2.gh _ fun G3 H3 e3 => hh G3 H3 ((a.trans e2.gg).trans e3.gg) e3.gh _ fun G4 H4 e4 => by
    rw [dt_str hx]
    refine ⟨_, rfl, by rw [mkS_len]; exact Nat.le_trans hz (by decide), ?_⟩
    rw [cutS_mk]
    exact q _ G4 H4 ((e2.same e3).same e4) (.str _)
/-- t[a:b]: a new tuple, or the same one -/
theorem ed_slT {lo hi : Option Int} (h : ED K G te σ (.tuple ds)) (hl : EO K G to σ lo) (hh : EO K G tp σ hi) : ED K G (tSl (rSlA K) te to tp) σ (.tuple (cutD ds lo hi)) := fun G1 H a gh Q q =>
  h G1 H a gh _ fun x G2 H2 e2 hx => hl G2 H2 (a.trans e2.gg) e2.gh _ fun G3 H3 e3 => hh G3 H3 ((a.trans e2.gg).trans e3.gg) e3.gh _ fun G4 H4 e4 => by
    have hx4 := same_dt (e3.gg.trans e4.gg) hx
    obtain ⟨p, xs, rfl, hq, hs⟩ := dt_tuple hx4 e4.gh
    refine ⟨p, xs, rfl, hq, fun ⟨z1, z2⟩ => q _ _ _ ((e2.same e3).same e4) ?_, fun _ l hl => q _ _ _ (((e2.same e3).same e4).same (Ext.new e4.gh hl)) (.tup (SqT.of upd_same) (dts_cut (same_dts (same_new (e4.gh.free hl)) hs)))⟩
    have e : cutD ds lo hi = ds := by
      unfold cutD
      rw [dts_len hs] at z1 z2
      rw [z1, z2]
      simp
    rw [e]
    exact hx4
theorem r2_cat (h : ds.length + es.length ≤ 10000) : R2D K rCat (.list ds) (.list es) (.list (ds ++ es)) := fun x y G H gh hx hy Q q => by
  obtain ⟨a, xs, rfl, h1, h2⟩ := dt_lst hx gh
  obtain ⟨a', ys, rfl, h3, h4⟩ := dt_lst hy gh
  exact ⟨_, _, _, _, rfl, rfl, h1, h3, by rw [dts_len h2, dts_len h4]; exact Nat.le_trans h (by decide), fun p hp => q _ _ _ (Ext.new gh hp) (.lst upd_same (dts_app (same_dts (same_new (gh.free hp)) h2) (same_dts (same_new (gh.free hp)) h4)))⟩
theorem r2_catT (h : ds.length + es.length ≤ 10000) : R2D K (rCatA K) (.tuple ds) (.tuple es) (.tuple (ds ++ es)) := fun x y G H gh hx hy Q q => by
  obtain ⟨a, xs, rfl, h1, h2⟩ := dt_tuple hx gh
  obtain ⟨a', ys, rfl, h3, h4⟩ := dt_tuple hy gh
  refine ⟨_, _, _, _, rfl, rfl, h1, h3, by rw [dts_len h2, dts_len h4]; exact Nat.le_trans h (by decide), fun e => q _ _ _ (Ext.refl gh) ?_, fun _ e => q _ _ _ (Ext.refl gh) ?_, fun _ _ p hp => q _ _ _ (Ext.new gh hp) (.tup (SqT.of upd_same) (dts_app (same_dts (same_new (gh.free hp)) h2) (same_dts (same_new (gh.free hp)) h4)))⟩
  · subst e
    cases h2
    exact hy
  · subst e
    cases h4
    rw [List.append_nil]
    exact hx
/-- list(xs), list(t), tuple(xs) -/
theorem cb_listL : CBD K (fun xs H Q => ∃ p ys, xs = [.ref p] ∧ (SqL K H p ys ∨ SqT K H p ys) ∧ ∀ l, H l = none → Q (.ref l) (upd H l (.lst ys))) [.list ds] (.list ds) := fun vs G H gh h Q q => by
  obtain ⟨v, rfl, hv⟩ := dts1 h
  obtain ⟨a, xs, rfl, hl, hs⟩ := dt_list hv gh
  exact ⟨a, xs, rfl, .inl hl, fun l hl => q _ _ _ (Ext.new gh hl) (.lst upd_same (same_dts (same_new (gh.free hl)) hs))⟩
theorem cb_listT : CBD K (fun xs H Q => ∃ p ys, xs = [.ref p] ∧ (SqL K H p ys ∨ SqT K H p ys) ∧ ∀ l, H l = none → Q (.ref l) (upd H l (.lst ys))) [.tuple ds] (.list ds) := fun vs G H gh h Q q => by
  obtain ⟨v, rfl, hv⟩ := dts1 h
  obtain ⟨a, xs, rfl, hl, hs⟩ := dt_tuple hv gh
  exact ⟨a, xs, rfl, .inr hl, fun l hl => q _ _ _ (Ext.new gh hl) (.lst upd_same (same_dts (same_new (gh.free hl)) hs))⟩
theorem ed_dict0 : ED K G tDNewK σ (.dict []) := fun G1 H a gh Q q p hp => q _ _ _ (Ext.new gh hp) (.dct upd_same .nil)
end
end S

set_option autoImplicit false
namespace S
open PySem L2
local macro_rules | `(tactic| walk_at "dt") => `(tactic| first | assumption | (refine same_dt (by assumption) ?_; walk_at "dt"))
local macro_rules | `(tactic| walk_at "if") => `(tactic| first | refine ite_pos (by decide +kernel) ?_ | refine ite_neg (by decide +kernel) ?_)
def top (i : Nat) : Stmt := PySem.Challenge.pw_sheetland_k02_names_places_cells_sizes.main.body.getD i (.Pass ⟨0, 0, 0, 0⟩)
abbrev s_is_among : Stmt := top 9
abbrev s_are_among : Stmt := top 10
abbrev s_is_name : Stmt := top 11
abbrev s_is_place : Stmt := top 12
abbrev s_is_cell : Stmt := top 13
abbrev s_is_size : Stmt := top 14
abbrev s_cost_of : Stmt := top 15
abbrev s__law_mixed : Stmt := top 17
abbrev s__law_state : Stmt := top 18
abbrev s__law_take : Stmt := top 19
abbrev s__law_whole : Stmt := top 20
abbrev s__law_name : Stmt := top 21
abbrev s__law_odd : Stmt := top 22
abbrev s__law_bound : Stmt := top 23
abbrev s__law_pair : Stmt := top 24
abbrev s__law_is_pair : Stmt := top 25
abbrev s__law_is_name : Stmt := top 26
abbrev s__law_is_size : Stmt := top 27
abbrev s__law_things : Stmt := top 28
abbrev s_law : Stmt := top 29
theorem sc_is_among : FnScope ["thing", "least", "most"] ["thing", "least", "most"] (defScope s_is_among) := ⟨rfl, rfl, rfl, by decide +kernel, rfl, by decide +kernel, by decide +kernel⟩
theorem sc_are_among : FnScope ["thing", "least", "most"] ["thing", "least", "most"] (defScope s_are_among) := ⟨rfl, rfl, rfl, by decide +kernel, rfl, by decide +kernel, by decide +kernel⟩
theorem sc_is_name : FnScope ["thing", "sign"] ["thing"] (defScope s_is_name) := ⟨rfl, rfl, rfl, by decide +kernel, rfl, by decide +kernel, by decide +kernel⟩
theorem sc_is_place : FnScope ["thing"] ["thing"] (defScope s_is_place) := ⟨rfl, rfl, rfl, by decide +kernel, rfl, by decide +kernel, by decide +kernel⟩
theorem sc_is_cell : FnScope ["thing"] ["thing"] (defScope s_is_cell) := ⟨rfl, rfl, rfl, by decide +kernel, rfl, by decide +kernel, by decide +kernel⟩
theorem sc_is_size : FnScope ["thing"] ["thing"] (defScope s_is_size) := ⟨rfl, rfl, rfl, by decide +kernel, rfl, by decide +kernel, by decide +kernel⟩
theorem sc_cost_of : FnScope ["sign"] ["sign"] (defScope s_cost_of) := ⟨rfl, rfl, rfl, by decide +kernel, rfl, by decide +kernel, by decide +kernel⟩
theorem sc__law_mixed : FnScope ["_law_cell", "_law_k", "_law_more"] ["_law_cell", "_law_k"] (defScope s__law_mixed) := ⟨rfl, rfl, rfl, by decide +kernel, rfl, by decide +kernel, by decide +kernel⟩
theorem sc__law_state : FnScope ["_law_cells", "_law_k"] ["_law_cells", "_law_k"] (defScope s__law_state) := ⟨rfl, rfl, rfl, by decide +kernel, rfl, by decide +kernel, by decide +kernel⟩
theorem sc__law_take : FnScope ["_law_state_here", "_law_many", "_law_at", "_law_cell", "_law_found", "_law_k"] ["_law_state_here", "_law_many"] (defScope s__law_take) := ⟨rfl, rfl, rfl, by decide +kernel, rfl, by decide +kernel, by decide +kernel⟩
theorem sc__law_whole : FnScope ["_law_found"] ["_law_found"] (defScope s__law_whole) := ⟨rfl, rfl, rfl, by decide +kernel, rfl, by decide +kernel, by decide +kernel⟩
theorem sc__law_name : FnScope ["_law_state_here", "_law_others", "_law_size", "_law_text", "_law_at", "_law_k"] ["_law_state_here"] (defScope s__law_name) := ⟨rfl, rfl, rfl, by decide +kernel, rfl, by decide +kernel, by decide +kernel⟩
theorem sc__law_odd : FnScope ["_law_state_here"] ["_law_state_here"] (defScope s__law_odd) := ⟨rfl, rfl, rfl, by decide +kernel, rfl, by decide +kernel, by decide +kernel⟩
theorem sc__law_bound : FnScope ["_law_state_here", "_law_least", "_law_most", "_law_any_one", "_law_some"] ["_law_state_here", "_law_least", "_law_most"] (defScope s__law_bound) := ⟨rfl, rfl, rfl, by decide +kernel, rfl, by decide +kernel, by decide +kernel⟩
theorem sc__law_pair : FnScope ["_law_state_here", "_law_least", "_law_most", "_law_pair_here", "_law_odd_here", "_law_bent"] ["_law_state_here", "_law_least", "_law_most"] (defScope s__law_pair) := ⟨rfl, rfl, rfl, by decide +kernel, rfl, by decide +kernel, by decide +kernel⟩
theorem sc__law_is_pair : FnScope ["_law_thing", "_law_least", "_law_most", "_law_one"] ["_law_thing", "_law_least", "_law_most"] (defScope s__law_is_pair) := ⟨rfl, rfl, rfl, by decide +kernel, rfl, by decide +kernel, by decide +kernel⟩
theorem sc__law_is_name : FnScope ["_law_thing", "_law_sign"] ["_law_thing"] (defScope s__law_is_name) := ⟨rfl, rfl, rfl, by decide +kernel, rfl, by decide +kernel, by decide +kernel⟩
theorem sc__law_is_size : FnScope ["_law_thing"] ["_law_thing"] (defScope s__law_is_size) := ⟨rfl, rfl, rfl, by decide +kernel, rfl, by decide +kernel, by decide +kernel⟩
theorem sc__law_things : FnScope ["_law_state_here", "_law_size", "_law_found"] ["_law_state_here"] (defScope s__law_things) := ⟨rfl, rfl, rfl, by decide +kernel, rfl, by decide +kernel, by decide +kernel⟩
theorem sc_law : FnScope ["_law_script", "_law_k", "_law_cell", "_law_thing", "_law_found", "_law_due", "_law_costs", "_law_one", "_law_sign"] ["_law_script"] (defScope s_law) := ⟨rfl, rfl, rfl, by decide +kernel, rfl, by decide +kernel, by decide +kernel⟩
/-- what the walk asks of the module's names -/
structure Txt (mg : Str → Option Value) : Prop where
  b_all : mg "all" = none
  b_bool : mg "bool" = none
  b_enumerate : mg "enumerate" = none
  b_int : mg "int" = none
  b_isinstance : mg "isinstance" = none
  b_len : mg "len" = none
  b_list : mg "list" = none
  b_range : mg "range" = none
  b_str : mg "str" = none
  b_tuple : mg "tuple" = none
  g_FAR : GV mg "FAR" (.int (1000))
  g_GROUNDS : GV mg "GROUNDS" (.str ".t~^")
  g_LEAST_CELL : GV mg "LEAST_CELL" (.int (-12000))
  g_LEAST_SIZE : GV mg "LEAST_SIZE" (.int (2))
  g_LETTERS : GV mg "LETTERS" (.str "abcdefghijklmnopqrstuvwxyz")
  g_MOST_CELL : GV mg "MOST_CELL" (.int (12011))
  g_MOST_SIGNS : GV mg "MOST_SIGNS" (.int (12))
  g_MOST_SIZE : GV mg "MOST_SIZE" (.int (12))
/-! ### what things are, by data -/
def isAmong (x : PyData) (lo hi : Int) : Bool := match x with
  | .int i => decide (lo ≤ i) && decide (i ≤ hi)
  | _ => false
def areAmong (x : PyData) (lo hi : Int) : Bool := match x with
  | .tuple [a, b] => isAmong a lo hi && isAmong b lo hi
  | _ => false
abbrev LETTERS : Str := "abcdefghijklmnopqrstuvwxyz"
def isNameL (l : List Nat) : Bool := (decide (1 ≤ l.length) && decide (l.length ≤ 12)) && l.all fun c => decide (c ∈ LETTERS.cps.toList)
def isName : PyData → Bool
  | .str z => isNameL z.cps.toList
  | _ => false
def smallD : PyData → Prop
  | .str z => z.length ≤ 10000
  | _ => True
def R_is_among (ds : List PyData) (d : PyData) : Prop := ∃ (x : PyData) (lo hi : Int), ds = [x, .int lo, .int hi] ∧ d = .bool (isAmong x lo hi)
def R_are_among (ds : List PyData) (d : PyData) : Prop := ∃ (x : PyData) (lo hi : Int), ds = [x, .int lo, .int hi] ∧ d = .bool (areAmong x lo hi)
def R_is_name (ds : List PyData) (d : PyData) : Prop := ∃ x, ds = [x] ∧ smallD x ∧ d = .bool (isName x)
def R_is_place (ds : List PyData) (d : PyData) : Prop := ∃ x, ds = [x] ∧ d = .bool (areAmong x (-1000) 1000)
def R_is_cell (ds : List PyData) (d : PyData) : Prop := ∃ x, ds = [x] ∧ d = .bool (areAmong x (-12000) 12011)
def R_is_size (ds : List PyData) (d : PyData) : Prop := ∃ x, ds = [x] ∧ d = .bool (isAmong x 2 12)
theorem str_sz {z : Str} (h : z.length ≤ 10000) : z.length ≤ sizeLine := Nat.le_trans h (by decide)
theorem all_outs {n : Nat} {f : Nat → Bool} : outs n (fun _ => true) (fun i => .bool (f i)) = ((List.range n).map f).map PyData.bool := by
  unfold outs
  rw [List.filter_eq_self.mpr (by simp), List.map_map]
  rfl
theorem range_all {l : List Nat} {p : Nat → Bool} : (((List.range l.length).map fun i => p (l.getD i 0)).all id) = l.all p := by
  have e : ((List.range l.length).map fun i => p (l.getD i 0)) = l.map p := by
    apply List.ext_getElem?
    intro i
    simp only [List.getElem?_map]
    by_cases h : i < l.length
    · simp [h]
    · simp [h]
  rw [e]
  simp [List.all_map, Function.comp_def]
section
variable {P : Program} {w : World} {K : PySem.W.Frag} {mg : Str → Option Value} {base : Heap}
theorem ok_is_among (F : FnIn K mg "is_among" s_is_among) (T : Txt mg) : Has P w K mg base CX0 1 "is_among" ["thing", "least", "most"] (PFn K R_is_among) := by
  refine F.pure sc_is_among (fun ds d ⟨x, lo, hi, h, _⟩ => by rw [h]; rfl) (fun _ _ _ _ _ _ us hl => match us, hl with | [_, _, _], _ => rfl) (fun f cdv A outer s H E hr => ?_)
  refine ⟨_, (pss_one (ps_ret (pe_and (pe_callB (call_isiK' K) (by rfl) T.b_isinstance (by decide +kernel) (pa_cons (pv 0) (pa_cons (pe_bltn (v := .ty "int") (by rfl) T.b_int (by decide +kernel) rfl) pa_nil))) (pe_and (pe_not (pe_callB (call_isiK' K) (by rfl) T.b_isinstance (by decide +kernel) (pa_cons (pv 0) (pa_cons (pe_bltn (v := .ty "bool") (by rfl) T.b_bool (by decide +kernel) rfl) pa_nil)))) (pe_one (pe_chain op_le op_le (pv 1) (pv 0) (pv 2))))))), ?_⟩
  rintro G vs ds d hv ⟨x, lo, hi, rfl, rfl⟩
  obtain ⟨v0, v1, v2, rfl, h0, h1, h2⟩ := dts3 hv
  cases x with
  | int i =>
    exact es_ret (ed_and (b := true) (ed_isi (ed_var rfl h0) (by kernel_rfl)) fun hb => (ed_and (ed_not (b := false) (ed_isi (ed_var rfl h0) (by kernel_rfl))) fun hb => (ed_chain (ed_var rfl h1) (ed_var rfl h0) r2_b (ed_var rfl h2) r2_b))) rfl
  | bool i => exact es_ret (ed_and (b := true) (c := false) (ed_isi (ed_var rfl h0) (by kernel_rfl)) fun hb => (ed_and (c := false) (ed_not (b := true) (ed_isi (ed_var rfl h0) (by kernel_rfl))) fun hb => Bool.noConfusion hb)) rfl
  | _ => exact es_ret (ed_and (b := false) (c := false) (ed_isi (ed_var rfl h0) (by kernel_rfl)) fun hb => Bool.noConfusion hb) rfl
theorem ok_are_among (F : FnIn K mg "are_among" s_are_among) (T : Txt mg) (F_is_among : Has P w K mg base CX0 1 "is_among" ["thing", "least", "most"] (PFn K R_is_among)) : Has P w K mg base CX0 2 "are_among" ["thing", "least", "most"] (PFn K R_are_among) := by
  refine F.pure sc_are_among (fun ds d ⟨x, lo, hi, h, _⟩ => by rw [h]; rfl) (fun _ _ _ _ _ _ us hl => match us, hl with | [_, _, _], _ => rfl) (fun f cdv A outer s H E hr => ?_)
  refine ⟨_, (pss_cons (ps_if (PW.pt (pw_or (pt_not (pt_val (pe_callB (call_isiK' K) (by rfl) T.b_isinstance (by decide +kernel) (pa_cons (pv 0) (pa_cons (pe_bltn (v := .ty "tuple") (by rfl) T.b_tuple (by decide +kernel) rfl) pa_nil))))) (pw_or1 (pt_cmpR op_ne (pe_callB (call_lenK K) (by rfl) T.b_len (by decide +kernel) (pa_cons (pv 0) pa_nil)) pe_int (nomark _))))) (pss_one (ps_ret pe_bl)) pss_nil)
    (pss_one (ps_ret (pe_and (pe_fn F_is_among hr (by decide) rfl (pa_cons (pe_ix (ix_tupK K) (pv 0) pe_int (fun _ _ => rfl)) (pa_cons (pv 1) (pa_cons (pv 2) pa_nil)))) (pe_one (pe_fn F_is_among hr (by decide) rfl (pa_cons (pe_ix (ix_tupK K) (pv 0) pe_int (fun _ _ => rfl)) (pa_cons (pv 1) (pa_cons (pv 2) pa_nil))))))))), ?_⟩
  rintro G vs ds d hv ⟨x, lo, hi, rfl, rfl⟩
  obtain ⟨v0, v1, v2, rfl, h0, h1, h2⟩ := dts3 hv
  cases x with
  | tuple xs =>
    match xs with
    | [a, b] =>
      refine es_when (b := false) (ET.to (et_or (et_not (b := true) (et_B (ed_isi (ed_var rfl h0) (by kernel_rfl)))) fun hb => (et_test (ed_op (ed_cb (ea_cons (ed_var rfl h0) ea_nil) cb_lenT) ed_int r2_neI))) rfl) (fun hb => Bool.noConfusion hb) (fun hb => ?_)
      exact es_ret (ed_and (ed_fn (ea_cons (ed_op (ed_var rfl h0) ed_int (r2_ixT atI0)) (ea_cons (ed_var rfl h1) (ea_cons (ed_var rfl h2) ea_nil))) ⟨a, lo, hi, rfl, rfl⟩) fun hb => (ed_fn (ea_cons (ed_op (ed_var rfl h0) ed_int (r2_ixT atI1)) (ea_cons (ed_var rfl h1) (ea_cons (ed_var rfl h2) ea_nil))) ⟨b, lo, hi, rfl, rfl⟩)) rfl
    | [] =>
      refine es_when (b := true) (ET.to (et_or (et_not (b := true) (et_B (ed_isi (ed_var rfl h0) (by kernel_rfl)))) fun hb => (et_test (ed_op (ed_cb (ea_cons (ed_var rfl h0) ea_nil) cb_lenT) ed_int r2_neI))) rfl) (fun hb => es_retSeq ed_bl rfl) (fun hb => Bool.noConfusion hb)
    | [a] =>
      refine es_when (b := true) (ET.to (et_or (et_not (b := true) (et_B (ed_isi (ed_var rfl h0) (by kernel_rfl)))) fun hb => (et_test (ed_op (ed_cb (ea_cons (ed_var rfl h0) ea_nil) cb_lenT) ed_int r2_neI))) rfl) (fun hb => es_retSeq ed_bl rfl) (fun hb => Bool.noConfusion hb)
    | a :: b :: c :: l =>
      refine es_when (b := true) (ET.to (et_or (et_not (b := true) (et_B (ed_isi (ed_var rfl h0) (by kernel_rfl)))) fun hb => (et_test (ed_op (ed_cb (ea_cons (ed_var rfl h0) ea_nil) cb_lenT) ed_int r2_neI))) ?_) (fun hb => es_retSeq ed_bl rfl) (fun hb => Bool.noConfusion hb)
      have q : ¬ (((a :: b :: c :: l).length : Nat) : Int) = 2 := by simp only [List.length_cons]; omega
      simp only [decide_eq_false q]
      rfl
  | _ =>
    exact es_when (b := true) (ET.to (et_or (c := true) (et_not (b := false) (et_B (ed_isi (ed_var rfl h0) (by kernel_rfl)))) fun hb => Bool.noConfusion hb) rfl) (fun hb => es_retSeq ed_bl rfl) (fun hb => Bool.noConfusion hb)
theorem ok_is_name (F : FnIn K mg "is_name" s_is_name) (T : Txt mg) : Has P w K mg base CX0 1 "is_name" ["thing"] (PFn K R_is_name) := by
  refine F.pure sc_is_name (fun ds d ⟨x, h, _⟩ => by rw [h]; rfl) (fun _ _ _ _ _ _ us hl => match us, hl with | [_], _ => rfl) (fun f cdv A outer s H E hr => ?_)
  have nd := sc_is_name.nd
  refine ⟨_, (pss_cons (ps_if (PW.pt (pw_or (pt_not (pt_val (pe_callB (call_isiK' K) (by rfl) T.b_isinstance (by decide +kernel) (pa_cons (pv 0) (pa_cons (pe_bltn (v := .ty "str") (by rfl) T.b_str (by decide +kernel) rfl) pa_nil))))) (pw_or1 (pt_not (pt_chain op_le op_le pe_int (pe_callB (call_lenK K) (by rfl) T.b_len (by decide +kernel) (pa_cons (pv 0) pa_nil)) (pe_gl rfl T.g_MOST_SIGNS)))))) (pss_one (ps_ret pe_bl)) pss_nil)
    (pss_one (ps_ret (pe_callB (cr_allK K rfl) (by rfl) T.b_all (by decide +kernel) (pa_cons (pe_lc (own := [("sign", 1)]) (by rfl) nd (pi_str (pv 0)) (blkOk_by (own := [("sign", 1)]) (N := ["thing", "sign"]) (sc := (defScope s_is_name)) (by decide +kernel)) (fun _ _ _ _ _ => (pg_name (i := 1) nd rfl (Or.inl rfl))) (fun _ _ _ _ _ => pts_nil) (fun _ _ _ _ _ => (pe_cmpR op_in_sign (pv 1) (pe_gl rfl T.g_LETTERS) (by rfl)))) pa_nil))))), ?_⟩
  rintro G vs ds d hv ⟨x, rfl, hz, rfl⟩
  obtain ⟨v0, rfl, h0⟩ := dts1 hv
  cases x with
  | str z =>
    have hz : z.length ≤ 10000 := hz
    rw [mkS_of z] at h0 hz ⊢
    generalize z.cps.toList = l at h0 hz ⊢
    show ES _ _ _ _ (fun d' => d' = .bool (isNameL l)) _
    refine es_when (et_or (et_not (b := true) (et_B (ed_isi (ed_var rfl h0) (by kernel_rfl)))) fun hb => (et_not (et_test (ed_chain ed_int (ed_cb (ea_cons (ed_var rfl h0) ea_nil) (cb_lenS (str_sz hz))) r2_b ed_int r2_b)))) (fun hb => es_retSeq ed_bl ?_) (fun hb => ?_)
    · rw [mkS_len] at hb
      have e : (decide (1 ≤ l.length) && decide (l.length ≤ 12)) = false := by
        simp at hb ⊢
        omega
      unfold isNameL
      rw [e]
      rfl
    · rw [mkS_len] at hb hz
      have e : (decide (1 ≤ l.length) && decide (l.length ≤ 12)) = true := by
        simp at hb ⊢
        omega
      refine es_ret (ed_cb (ea_cons (ED.to (ed_lc (p := fun _ => true) (h := fun i => .bool (decide (l.getD i 0 ∈ LETTERS.cps.toList))) (ei_str (ed_var rfl h0)) (by rw [mkS_size]; omega) (fun _ _ => eg_name) (fun i G1 σ2 hi hB => by obtain ⟨x0, hx0, rfl⟩ := hB; rfl) (fun i G1 σ2 hi a1 hB => et_yes) (fun i G1 σ2 hi a1 hB hp => by
        obtain ⟨x0, hx0, rfl⟩ := hB
        rw [mkS_getD] at hx0
        exact (ed_op (ed_var rfl hx0) ed_str r2_inS))) (congrArg PyData.list all_outs)) ea_nil) cb_all) ?_
      rw [mkS_size, range_all (p := fun c => decide (c ∈ LETTERS.cps.toList))]
      unfold isNameL
      rw [e]
      rfl
  | _ =>
    exact es_when (b := true) (ET.to (et_or (c := true) (et_not (b := false) (et_B (ed_isi (ed_var rfl h0) (by kernel_rfl)))) fun hb => Bool.noConfusion hb) rfl) (fun hb => es_retSeq ed_bl rfl) (fun hb => Bool.noConfusion hb)
theorem ok_is_place (F : FnIn K mg "is_place" s_is_place) (T : Txt mg) (F_are_among : Has P w K mg base CX0 2 "are_among" ["thing", "least", "most"] (PFn K R_are_among)) : Has P w K mg base CX0 3 "is_place" ["thing"] (PFn K R_is_place) := by
  refine F.pure sc_is_place (fun ds d ⟨x, h, _⟩ => by rw [h]; rfl) (fun _ _ _ _ _ _ us hl => match us, hl with | [_], _ => rfl) (fun f cdv A outer s H E hr => ?_)
  refine ⟨_, (pss_one (ps_ret (pe_fn F_are_among hr (by decide) rfl (pa_cons (pv 0) (pa_cons (pe_op op_sub pe_int (pe_gl rfl T.g_FAR)) (pa_cons (pe_gl rfl T.g_FAR) pa_nil)))))), ?_⟩
  rintro G vs ds d hv ⟨x, rfl, rfl⟩
  obtain ⟨v0, rfl, h0⟩ := dts1 hv
  exact es_ret (ed_fn (ea_cons (ed_var rfl h0) (ea_cons (ed_op ed_int ed_int r2_i) (ea_cons ed_int ea_nil))) ⟨x, _, _, rfl, rfl⟩) rfl
end

section
variable {P : Program} {w : World} {K : PySem.W.Frag} {mg : Str → Option Value} {base : Heap}
theorem ok_is_cell (F : FnIn K mg "is_cell" s_is_cell) (T : Txt mg) (F_are_among : Has P w K mg base CX0 2 "are_among" ["thing", "least", "most"] (PFn K R_are_among)) : Has P w K mg base CX0 3 "is_cell" ["thing"] (PFn K R_is_cell) := by
  refine F.pure sc_is_cell (fun ds d ⟨x, h, _⟩ => by rw [h]; rfl) (fun _ _ _ _ _ _ us hl => match us, hl with | [_], _ => rfl) (fun f cdv A outer s H E hr => ?_)
  refine ⟨_, (pss_one (ps_ret (pe_fn F_are_among hr (by decide) rfl (pa_cons (pv 0) (pa_cons (pe_gl rfl T.g_LEAST_CELL) (pa_cons (pe_gl rfl T.g_MOST_CELL) pa_nil)))))), ?_⟩
  rintro G vs ds d hv ⟨x, rfl, rfl⟩
  obtain ⟨v0, rfl, h0⟩ := dts1 hv
  exact es_ret (ed_fn (ea_cons (ed_var rfl h0) (ea_cons ed_int (ea_cons ed_int ea_nil))) ⟨x, _, _, rfl, rfl⟩) rfl
end

section
variable {P : Program} {w : World} {K : PySem.W.Frag} {mg : Str → Option Value} {base : Heap}
theorem ok_is_size (F : FnIn K mg "is_size" s_is_size) (T : Txt mg) (F_is_among : Has P w K mg base CX0 1 "is_among" ["thing", "least", "most"] (PFn K R_is_among)) : Has P w K mg base CX0 2 "is_size" ["thing"] (PFn K R_is_size) := by
  refine F.pure sc_is_size (fun ds d ⟨x, h, _⟩ => by rw [h]; rfl) (fun _ _ _ _ _ _ us hl => match us, hl with | [_], _ => rfl) (fun f cdv A outer s H E hr => ?_)
  refine ⟨_, (pss_one (ps_ret (pe_fn F_is_among hr (by decide) rfl (pa_cons (pv 0) (pa_cons (pe_gl rfl T.g_LEAST_SIZE) (pa_cons (pe_gl rfl T.g_MOST_SIZE) pa_nil)))))), ?_⟩
  rintro G vs ds d hv ⟨x, rfl, rfl⟩
  obtain ⟨v0, rfl, h0⟩ := dts1 hv
  exact es_ret (ed_fn (ea_cons (ed_var rfl h0) (ea_cons ed_int (ea_cons ed_int ea_nil))) ⟨x, _, _, rfl, rfl⟩) rfl
end

/-! ### draws -/
/-- the state by which draws are made -/
def stD (c : V) (at_ rest k : Int) : List (Key × V) := [(ks "cells", c), (ks "at", .int at_), (ks "rest", .int rest), (ks "k", .int k)]
theorem st_cells {c : V} {a r k : Int} : valV (stD c a r k) (ks "cells") = some c := by kernel_rfl
theorem st_at {c : V} {a r k : Int} : valV (stD c a r k) (ks "at") = some (.int a) := by kernel_rfl
theorem st_rest {c : V} {a r k : Int} : valV (stD c a r k) (ks "rest") = some (.int r) := by kernel_rfl
theorem st_k {c : V} {a r k : Int} : valV (stD c a r k) (ks "k") = some (.int k) := by kernel_rfl
theorem put_at {c : V} {a r k z : Int} : putK (stD c a r k) (ks "at") (.int z) = stD c z r k := by kernel_rfl
theorem put_rest {c : V} {a r k z : Int} : putK (stD c a r k) (ks "rest") (.int z) = stD c a z k := by kernel_rfl
theorem put_new {c : V} {k : Int} : mergeK [] [(ks "cells", c), (ks "at", .int 0), (ks "rest", .int 0), (ks "k", .int k)] = stD c 0 0 k := by kernel_rfl
theorem st_sz {c : V} {a r k : Int} : (stD c a r k).length < sizeLine := by show 4 < sizeLine; decide
/-- a state stands at p: its cells are known, at most n draws were made -/
structure St (K : PySem.W.Frag) (G H : Hp) (p : Addr) (n : Nat) : Prop where
  ex : ∃ (c : V) (ns : List Int) (at_ rest k : Int), H p = some (.dK (stD c at_ rest k)) ∧ Dt K G c (.list (ns.map PyData.int)) ∧ 0 < ns.length ∧ 0 ≤ at_ ∧ at_ ≤ n ∧ 0 ≤ k ∧ k ≤ 1000
  un : G p = none
def stE (K : PySem.W.Frag) (p : Addr) : Eff where
  M := [p]
  I := fun n G H => St K G H p n
  keep := fun {n G H G' H' M'} s e hm => by
    obtain ⟨⟨c, ns, a, r, k, h, hc, q⟩, u⟩ := s
    exact ⟨⟨c, ns, a, r, k, e.keep h (hm p (by simp)), same_dt e.gg hc, q⟩, e.free u h⟩
  up := fun {n m G H} h s => by
    obtain ⟨⟨c, ns, a, r, k, h, hc, q1, q2, q3, q⟩, u⟩ := s
    exact ⟨⟨c, ns, a, r, k, h, hc, q1, q2, by omega, q⟩, u⟩
  trk := fun {n G H} s a ha => by
    obtain ⟨⟨c, ns, a', r, k, h, hc, q⟩, u⟩ := s
    rw [List.mem_singleton] at ha
    rw [ha]
    exact ⟨_, h⟩
  unk := fun {n G H} s a ha => by
    rw [List.mem_singleton] at ha
    rw [ha]
    exact s.un
  know := fun {n G H G'} s e hm => by
    obtain ⟨⟨c, ns, a, r, k, h, hc, q⟩, u⟩ := s
    exact ⟨⟨c, ns, a, r, k, h, same_dt e hc, q⟩, hm p (by simp)⟩
theorem st_new {K : PySem.W.Frag} {G H : Hp} {p : Addr} {c : V} {ns : List Int} {k : Int} (gh : Same G H) (hp : H p = none) (hc : Dt K G c (.list (ns.map PyData.int))) (hn : 0 < ns.length) (k0 : 0 ≤ k) (k1 : k ≤ 1000) : St K G (upd H p (.dK (stD c 0 0 k))) p 0 :=
  ⟨⟨c, ns, 0, 0, k, upd_same, hc, hn, by omega, by omega, k0, k1⟩, gh.free hp⟩

section
variable {P : Program} {w : World} {K : PySem.W.Frag} {mg : Str → Option Value} {base : Heap}
/-! ### _law_mixed -/
def sp_mixed : Sp := fun vs H Q _ => ∃ c k : Int, vs = [.int c, .int k] ∧ 0 ≤ k ∧ k < 2 ^ 60 ∧ ∀ r : Int, 0 ≤ r → r < 2147483629 → Q (.int r) H
theorem ok_mixed (F : FnIn K mg "_law_mixed" s__law_mixed) : Has P w K mg base CX0 1 "_law_mixed" ["_law_cell", "_law_k"] sp_mixed := by
  refine F.ok sc__law_mixed (fun vs H Q E h => ?_) (fun _ _ _ _ _ _ us hl => match us, hl with | [_, _], _ => rfl) (fun f cdv A outer s H vs Q E hr h => ?_)
  · obtain ⟨c, k, rfl, _⟩ := h
    rfl
  · obtain ⟨c, k, rfl, k0, k1, q⟩ := h
    have nd := sc__law_mixed.nd
    refine ⟨_, (pss_cons (ps_set (i := 2) nd rfl (Or.inl rfl) (pe_op op_mod (pe_op op_mul (pe_op op_add (pe_op op_add (pe_op op_add (pe_op op_mod (pv 0) pe_int) (pe_op op_mul (pe_op op_mul pe_int (pv 1)) (pv 1))) (pe_op op_mul pe_int (pv 1))) pe_int) pe_int) pe_int))
    (pss_one (ps_ret (pe_op op_mod (pe_op op_mul (pv 2) (pe_op op_add pe_int (pe_op op_mul pe_int (pv 1)))) pe_int)))), ?_⟩
    refine ⟨_, rfl, _, _, rfl, rfl, (by decide : (0 : Int) < 2147483647), _, rfl, _, _, rfl, rfl, .inl ⟨by decide, by decide⟩, _, rfl, _, _, rfl, rfl, .inr ⟨by omega, by omega⟩, _, _, rfl, rfl, _, rfl, _, _, rfl, rfl, .inl ⟨by decide, by decide⟩, _, _, rfl, rfl, _, _, rfl, rfl,
      _, _, rfl, rfl, .inr ⟨by decide, by decide⟩, _, _, rfl, rfl, (by decide : (0 : Int) < 2147483647), ?_⟩
    refine ⟨_, rfl, _, rfl, _, _, rfl, rfl, .inl ⟨by decide, by decide⟩, _, _, rfl, rfl, _, _, rfl, rfl, .inr ⟨by omega, by omega⟩, _, _, rfl, rfl, (by decide : (0 : Int) < 2147483629), ?_⟩
    exact q _ (Int.emod_nonneg _ (by decide)) (Int.emod_lt_of_pos _ (by decide))
/-! ### _law_state -/
def sp_state : Sp := fun vs H Q _ => ∃ (c : V) (k : Int), vs = [c, .int k] ∧ ∀ p, H p = none → Q (.ref p) (upd H p (.dK (stD c 0 0 k)))
theorem ok_state (F : FnIn K mg "_law_state" s__law_state) : Has P w K mg base CX0 1 "_law_state" ["_law_cells", "_law_k"] sp_state := by
  refine F.ok sc__law_state (fun vs H Q E h => ?_) (fun _ _ _ _ _ _ us hl => match us, hl with | [_, _], _ => rfl) (fun f cdv A outer s H vs Q E hr h => ?_)
  · obtain ⟨c, k, rfl, _⟩ := h
    rfl
  · obtain ⟨c, k, rfl, q⟩ := h
    have nd := sc__law_state.nd
    refine ⟨_, (pss_one (ps_ret (pe_disp (pps_cons pe_str (pv 0) (pps_cons pe_str pe_int (pps_cons pe_str pe_int (pps_cons pe_str (pv 1) pps_nil)))) (by rfl) (by rfl) (fun z => by cases z) (by decide)))), ?_⟩
    intro p hp
    refine ⟨_, rfl, _, rfl, upd_same, [(ks "cells", c), (ks "at", .int 0), (ks "rest", .int 0), (ks "k", .int k)], rfl, (by show 4 ≤ 15; decide), ?_⟩
    rw [put_new, upd_upd]
    exact q p hp
/-! ### _law_take -/
def Pre_take (os : List (Option PyData)) : Prop := ∃ m : Int, os = [none, some (.int m)] ∧ 0 < m ∧ m < 1073741824
def R_take (os : List (Option PyData)) (d : PyData) : Prop := ∃ m r : Int, os = [none, some (.int m)] ∧ d = .int r ∧ 0 ≤ r ∧ r < m
abbrev sp_take (K : PySem.W.Frag) : Sp := SFn (stE K) K 1 Pre_take R_take
theorem ok_take (F : FnIn K mg "_law_take" s__law_take) (T : Txt mg) (F__law_mixed : Has P w K mg base CX0 1 "_law_mixed" ["_law_cell", "_law_k"] sp_mixed) : Has P w K mg base CX0 2 "_law_take" ["_law_state_here", "_law_many"] (sp_take K) := by
  refine F.ok sc__law_take (fun vs H Q E h => ?_) (fun _ _ _ _ _ _ us hl => match us, hl with | [_, _], _ => rfl) (fun f cdv A outer s H vs Q E hr h => ?_)
  · obtain ⟨G, p, n, os, gh, _, _, hv, ⟨m, rfl, _⟩, _⟩ := h
    exact (paired_len hv).trans rfl
  · obtain ⟨G, p, n, os, gh, ⟨⟨c, ns, a, r, k, hp, hc, hn, a0, a1, k0, k1⟩, gp⟩, hn2, hv, ⟨m, rfl, m0, m1⟩, q'⟩ := h
    have hn2 : n + 1 ≤ 2 ^ 40 := hn2
    have q : ∀ (r : Int) (H' : Hp), Ext [p] G H G H' → St K G H' p (n + 1) → 0 ≤ r → r < m → Q (.int r) H' := fun r H' e s r0 r1 => q' _ _ G H' e s (.int r) ⟨m, r, rfl, rfl, r0, r1⟩
    cases hv with
    | cons h1 hv =>
    cases hv with
    | cons h2 hv =>
    cases hv
    cases h1
    cases h2 with
    | dt h2 =>
    have h2 := dt_int h2
    subst h2
    have nd := sc__law_take.nd
    refine ⟨_, (pss_cons (ps_set (i := 2) nd rfl (Or.inl rfl) (pe_dget (hu_of hr) (pv 0) pe_str (fun _ _ => rfl)))
    (pss_cons (ps_dput (hu_of hr) (pv 0) pe_str (pe_op op_add (pv 2) pe_int) rfl)
    (pss_cons (ps_set (i := 3) nd rfl (Or.inl rfl) (pe_ix (ix_listK K) (pe_dget (hu_of hr) (pv 0) pe_str (fun _ _ => rfl)) (pe_op op_mod (pe_op op_fdiv (pv 2) pe_int) (pe_callB (call_lenK K) (by rfl) T.b_len (by decide +kernel) (pa_cons (pe_dget (hu_of hr) (pv 0) pe_str (fun _ _ => rfl)) pa_nil))) (fun _ _ => rfl)))
    (pss_cut (ps_if (pt_cmpR op_eq (pe_op op_mod (pv 2) pe_int) pe_int (nomark _)) (pss_one (ps_dput (hu_of hr) (pv 0) pe_str (pe_ifExp (pt_cmpR op_ge (pv 3) (pe_op op_pow pe_int pe_int) (nomark _)) (pv 3) pe_int) rfl)) pss_nil)
    (pss_cons (ps_if (pt_cmpR op_gt (pe_dget (hu_of hr) (pv 0) pe_str (fun _ _ => rfl)) pe_int (nomark _)) (pss_cons (ps_set (i := 4) nd rfl (Or.inl rfl) (pe_op op_mod (pe_dget (hu_of hr) (pv 0) pe_str (fun _ _ => rfl)) (pv 1)))
      (pss_cons (ps_dput (hu_of hr) (pv 0) pe_str (pe_op op_fdiv (pe_dget (hu_of hr) (pv 0) pe_str (fun _ _ => rfl)) (pv 1)) rfl)
      (pss_one (ps_ret (pv 4))))) pss_nil)
    (pss_cons (ps_set (i := 5) nd rfl (Or.inl rfl) (pe_op op_add (pv 2) (pe_op op_mul pe_int (pe_dget (hu_of hr) (pv 0) pe_str (fun _ _ => rfl)))))
    (pss_one (ps_ret (pe_op op_mod (pe_op op_fdiv (pe_op op_add (pe_op op_mul (pe_fn F__law_mixed hr (by decide) rfl (pa_cons (pv 3) (pa_cons (pv 5) pa_nil))) pe_int) (pe_fn F__law_mixed hr (by decide) rfl (pa_cons (pv 3) (pa_cons (pe_op op_add (pv 5) pe_int) pa_nil)))) pe_int) (pv 1)))))))))), ?_⟩
    obtain ⟨l, xs, rfl, hl, hx⟩ := dt_list hc gh
    have ex := dts_ints hx
    subst ex
    -- at; at + 1
    refine ⟨_, rfl, _, _, rfl, dget hp st_at, ?_⟩
    refine ⟨_, rfl, _, _, rfl, rfl, _, rfl, _, _, rfl, dput hp st_sz put_at, ?_⟩
    have e1 : Ext [p] G H G (upd H p (.dK (stD (.ref l) (a + 1) r k))) := Ext.put gh gp hp
    obtain ⟨l', xs', e', hl1, hx1⟩ := dt_list hc e1.gh
    cases e'
    have ex' := dts_ints hx1
    subst ex'
    -- the cell
    have hj : 0 ≤ a / 60 % ((ns.map V.int).length : Int) ∧ a / 60 % ((ns.map V.int).length : Int) < (ns.length : Int) := by
      rw [List.length_map]
      exact ⟨Int.emod_nonneg _ (by omega), Int.emod_lt_of_pos _ (by omega)⟩
    obtain ⟨cell, hcell⟩ : ∃ z : Int, atI (ns.map V.int) (a / 60 % ((ns.map V.int).length : Int)) = some (.int z) := by
      obtain ⟨x, h1, h2⟩ := atI_in (xs := ns.map V.int) hj.1 (by rw [List.length_map] at hj ⊢; exact hj.2)
      rw [List.getElem?_map] at h2
      cases e : ns[(a / 60 % ((ns.map V.int).length : Int)).toNat]? with
      | none => rw [e] at h2; cases h2
      | some z =>
        rw [e] at h2
        exact ⟨z, by rw [h1]; exact h2.symm⟩
    refine ⟨_, rfl, _, _, rfl, dget upd_same st_cells, _, rfl, _, _, rfl, rfl, ⟨by decide, by decide⟩, _, rfl, _, _, rfl, dget upd_same st_cells, _, _, rfl, .inl ⟨_, hl1, rfl⟩, _, _, rfl, rfl, (by rw [List.length_map]; omega), _, _, _, _, rfl, rfl, hl1, hcell, ?_⟩
    -- if at % 60 == 0: whatever is done, a rest stands there
    refine ⟨fun σ H1 => σ = [some (.ref p), some (.int m), some (.int a), some (.int cell), none, none] ∧ Ext [p] G H G H1 ∧ ∃ r, H1 p = some (.dK (stD (.ref l) (a + 1) r k)), ?_, ?_⟩
    · refine ⟨_, rfl, _, _, rfl, rfl, (by decide : (0 : Int) < 60), rfl, _, rfl, ?_⟩
      refine ite_both (fun _ => ?_) (fun _ => ⟨rfl, e1, r, upd_same⟩)
      refine ⟨_, rfl, _, _, rfl, rfl, ⟨by decide, by decide, by decide⟩, _, _, rfl, rfl, _, rfl, ?_⟩
      refine ite_both (fun _ => ?_) (fun _ => ?_)
      · refine ⟨_, rfl, _, rfl, _, _, rfl, dput upd_same st_sz put_rest, rfl, ?_, cell, upd_same⟩
        exact e1.trans (Ext.put e1.gh gp upd_same) fun _ h => .inl h
      · refine ⟨_, rfl, _, _, rfl, dput upd_same st_sz put_rest, rfl, ?_, 0, upd_same⟩
        exact e1.trans (Ext.put e1.gh gp upd_same) fun _ h => .inl h
    · rintro σ H1 ⟨rfl, e2, r2, hp2⟩
      refine ⟨_, rfl, _, _, rfl, dget hp2 st_rest, _, _, rfl, rfl, _, rfl, ?_⟩
      refine ite_both (fun _ => ?_) (fun _ => ?_)
      · refine ⟨_, rfl, _, _, rfl, dget hp2 st_rest, _, rfl, _, _, rfl, rfl, m0, ?_⟩
        refine ⟨_, rfl, _, _, rfl, dget hp2 st_rest, _, rfl, _, _, rfl, rfl, ⟨m0, m1⟩, _, rfl, _, _, rfl, dput hp2 st_sz put_rest, _, rfl, ?_⟩
        have e3 := e2.trans (Ext.put (o := .dK (stD (.ref l) (a + 1) (r2 / m) k)) e2.gh gp hp2) fun _ h => .inl h
        exact q _ _ e3 ⟨⟨_, ns, _, _, _, upd_same, hc, hn, by omega, by omega, k0, k1⟩, gp⟩ (Int.emod_nonneg _ (by omega)) (Int.emod_lt_of_pos _ m0)
      · refine ⟨_, rfl, _, rfl, _, _, rfl, dget hp2 st_k, _, _, rfl, rfl, .inl ⟨by decide, by decide⟩, _, _, rfl, rfl, ?_⟩
        refine ⟨_, rfl, _, rfl, cell, a + 60 * k, rfl, by omega, by omega, fun z z0 z1 => ⟨_, _, rfl, rfl, .inr ⟨by decide, by decide⟩, ?_⟩⟩
        refine ⟨_, rfl, _, rfl, _, _, rfl, rfl, cell, a + 60 * k + 9001, rfl, by omega, by omega, fun y y0 y1 => ⟨_, _, rfl, rfl, _, _, rfl, rfl, ⟨by decide, by decide⟩, ?_⟩⟩
        refine ⟨_, rfl, _, _, rfl, rfl, m0, ?_⟩
        exact q _ _ e2 ⟨⟨_, ns, _, _, _, hp2, hc, hn, by omega, by omega, k0, k1⟩, gp⟩ (Int.emod_nonneg _ (by omega)) (Int.emod_lt_of_pos _ m0)
/-! ### _law_whole -/
def isInt : PyData → Bool
  | .int _ => true
  | _ => false
def R_whole (ds : List PyData) (d : PyData) : Prop := ∃ x, ds = [x] ∧ d = .bool (isInt x)
theorem ok_whole (F : FnIn K mg "_law_whole" s__law_whole) (T : Txt mg) : Has P w K mg base CX0 1 "_law_whole" ["_law_found"] (PFn K R_whole) := by
  refine F.pure sc__law_whole (fun ds d ⟨i, h, _⟩ => by rw [h]; rfl) (fun _ _ _ _ _ _ us hl => match us, hl with | [_], _ => rfl) (fun f cdv A outer s H E hr => ?_)
  refine ⟨_, (pss_one (ps_ret (pe_and (pe_callB (call_isiK' K) (by rfl) T.b_isinstance (by decide +kernel) (pa_cons (pv 0) (pa_cons (pe_bltn (v := .ty "int") (by rfl) T.b_int (by decide +kernel) rfl) pa_nil))) (pe_one (pe_not (pe_callB (call_isiK' K) (by rfl) T.b_isinstance (by decide +kernel) (pa_cons (pv 0) (pa_cons (pe_bltn (v := .ty "bool") (by rfl) T.b_bool (by decide +kernel) rfl) pa_nil)))))))), ?_⟩
  rintro G vs ds d hv ⟨x, rfl, rfl⟩
  obtain ⟨v0, rfl, h0⟩ := dts1 hv
  cases x with
  | int i => exact es_ret (ed_and (b := true) (ed_isi (ed_var rfl h0) (by kernel_rfl)) fun hb => ed_not (b := false) (ed_isi (ed_var rfl h0) (by kernel_rfl))) rfl
  | bool i => exact es_ret (ed_and (b := true) (ed_isi (ed_var rfl h0) (by kernel_rfl)) fun hb => ed_not (b := true) (ed_isi (ed_var rfl h0) (by kernel_rfl))) rfl
  | _ => exact es_ret (ed_and (b := false) (c := false) (ed_isi (ed_var rfl h0) (by kernel_rfl)) fun hb => Bool.noConfusion hb) rfl
end

/-! ### the law's own defs -/
theorem ev_take {K : PySem.W.Frag} {G : Hp} {σ : L2.St} {p : Addr} {i : Nat} {m : Int} {te : TE} {E : XK} (h : σ[i]? = some (some (.ref p))) (hm : ED K G te σ (.int m)) (h0 : 0 < m) (h1 : m < 1073741824) :
    EV (stE K p) K 1 G (tCall (sp_take K) [] E (tCons (tVar i) (tCons te tNil))) σ (fun d => ∃ r : Int, d = .int r ∧ 0 ≤ r ∧ r < m) :=
  EV.up (ev_sfn (ef := stE K) (ao_st h (ao_cons (ev_ed hm) ao_nil)) (fun os ⟨os', e1, d, os'', e2, e3, e4⟩ => by
    subst e1 e2 e3 e4
    exact ⟨⟨m, rfl, h0, h1⟩, fun d ⟨m', r, e, hd, r0, r1⟩ => ⟨r, hd, r0, by
      have : m = m' := by simpa using e
      omega⟩⟩)) (by omega)
def okL (n : Nat) (l : List Nat) : Prop := l.length ≤ n ∧ ∀ c ∈ l, c < 1114112
def okT (n : Nat) (d : PyData) : Prop := ∃ l, d = .str (mkS l) ∧ okL n l
/-- what may be handed in: texts are not too long, of good signs -/
def OkD : PyData → Prop
  | .str z => okL 10000 z.cps.toList
  | _ => True
theorem okT_D {n : Nat} {d : PyData} (h : okT n d) (hn : n ≤ 10000) : OkD d := by
  obtain ⟨l, rfl, h1, h2⟩ := h
  exact ⟨by rw [mkS_list]; omega, h2⟩
theorem OkD.small {d : PyData} (h : OkD d) : smallD d := by
  cases d with
  | str z =>
    have q : z.cps.toList.length ≤ 10000 := h.1
    rw [Array.length_toList] at q
    exact q
  | _ => trivial
theorem okL_lit {z : Str} (h : (decide (z.cps.toList.length ≤ 100) && z.cps.toList.all (fun c => decide (c < 1114112))) = true) : okL 100 z.cps.toList := by
  simp only [Bool.and_eq_true, decide_eq_true_eq, List.all_eq_true] at h
  exact h
/-- signs that were gathered -/
theorem signs_of {L : List Nat} : ∀ {ds : List PyData}, (∀ (i : Nat) (x : PyData), ds[i]? = some x → ∃ c ∈ L, x = .str ⟨#[c]⟩) → ∃ l : List Nat, ds = (l.map fun c => .str (sg c)) ∧ l.length = ds.length ∧ ∀ c ∈ l, c ∈ L
  | [], _ => ⟨[], rfl, rfl, fun _ h => nomatch h⟩
  | d :: ds, h => by
    obtain ⟨c, hc, rfl⟩ := h 0 d rfl
    obtain ⟨l, rfl, hl, hL⟩ := signs_of (ds := ds) fun i x hx => h (i + 1) x (by simpa using hx)
    exact ⟨c :: l, rfl, by rw [List.length_cons, List.length_cons, hl], fun x hx => (List.mem_cons.mp hx).elim (fun e => e ▸ hc) (hL x)⟩
def Pre1 (os : List (Option PyData)) : Prop := os = [none]
def PreB (os : List (Option PyData)) : Prop := ∃ lo hi : Int, os = [none, some (.int lo), some (.int hi)] ∧ lo ≤ hi ∧ hi ≤ lo + 100000
theorem dtos1 {K : PySem.W.Frag} {p : Addr} {G : Hp} {vs : List V} (h : DtOs K p G vs [none]) : vs = [.ref p] := by
  cases h with
  | cons a b => cases b; cases a; rfl
theorem dtos3 {K : PySem.W.Frag} {p : Addr} {G : Hp} {vs : List V} {d1 d2 : PyData} (h : DtOs K p G vs [none, some d1, some d2]) : ∃ v1 v2, vs = [.ref p, v1, v2] ∧ Dt K G v1 d1 ∧ Dt K G v2 d2 := by
  cases h with
  | cons a b =>
  cases a
  cases b with
  | cons a b =>
  cases a with
  | dt h1 =>
  cases b with
  | cons a b =>
  cases a with
  | dt h2 =>
  cases b
  exact ⟨_, _, rfl, h1, h2⟩
section
variable {P : Program} {w : World} {K : PySem.W.Frag} {mg : Str → Option Value} {base : Heap}
/-! ### _law_odd -/
theorem ok_odd (F : FnIn K mg "_law_odd" s__law_odd) (F__law_take : Has P w K mg base CX0 2 "_law_take" ["_law_state_here", "_law_many"] (sp_take K)) : Has P w K mg base CX0 3 "_law_odd" ["_law_state_here"] (SFn (stE K) K 1 Pre1 (fun _ d => OkD d)) := by
  refine F.draw sc__law_odd (fun os h => by rw [h]; rfl) (fun _ _ _ _ _ _ us hl => match us, hl with | [_], _ => rfl) (fun f cdv A outer s H E hr => ?_)
  refine ⟨_, (pss_one (ps_ret (pe_ix (ix_listK K) (pe_lst (pa_cons pe_non (pa_cons pe_bl (pa_cons pe_bl (pa_cons pe_str (pa_cons (pe_lst (pa_cons pe_int pa_nil)) (pa_cons (pe_tup (pa_cons pe_int pa_nil)) (pa_cons pe_dnewK (pa_cons pe_str (pa_cons pe_str (pa_cons pe_int pa_nil))))))))))) (pe_fn F__law_take hr (by decide) rfl (pa_cons (pv 0) (pa_cons pe_int pa_nil))) (fun _ _ => rfl)))), ?_⟩
  rintro G p vs os hv rfl
  have e := dtos1 hv
  subst e
  refine SS.up (ss_ret (ev_ixL0 (avl_cons (ev_d ed_non trivial) (avl_cons (ev_d ed_bl trivial) (avl_cons (ev_d ed_bl trivial) (avl_cons (ev_d ed_str ?s1) (avl_cons (ev_d (ed_lst (ea_cons ed_int ea_nil)) trivial) (avl_cons (ev_d (ed_tup (ea_cons ed_int ea_nil)) trivial) (avl_cons (ev_d ed_dict0 trivial)
    (avl_cons (ev_d ed_str ?s2) (avl_cons (ev_d ed_str ?s3) (avl_cons (ev_d ed_int trivial) avl_nil)))))))))) (by decide) (ev_take rfl ed_int (by decide) (by decide))) fun d h => h) (by decide)
  case s1 => exact (okL_lit (by decide +kernel)).imp (fun h => by omega) id
  case s2 => exact (okL_lit (by decide +kernel)).imp (fun h => by omega) id
  case s3 => exact (okL_lit (by decide +kernel)).imp (fun h => by omega) id
/-! ### _law_bound -/
theorem ok_bound (F : FnIn K mg "_law_bound" s__law_bound) (F__law_take : Has P w K mg base CX0 2 "_law_take" ["_law_state_here", "_law_many"] (sp_take K)) : Has P w K mg base CX0 3 "_law_bound" ["_law_state_here", "_law_least", "_law_most"] (SFn (stE K) K 3 PreB (fun _ d => isI d)) := by
  refine F.draw sc__law_bound (fun os ⟨_, _, h, _⟩ => by rw [h]; rfl) (fun _ _ _ _ _ _ us hl => match us, hl with | [_, _, _], _ => rfl) (fun f cdv A outer s H E hr => ?_)
  have nd := sc__law_bound.nd
  refine ⟨_, (pss_cons (ps_set (i := 3) nd rfl (Or.inl rfl) (pe_op op_sub (pe_op op_add (pe_fn F__law_take hr (by decide) rfl (pa_cons (pv 0) (pa_cons (pe_op op_add (pe_op op_sub (pv 2) (pv 1)) pe_int) pa_nil))) (pv 1)) pe_int))
    (pss_cons (ps_set (i := 4) nd rfl (Or.inl rfl) (pe_lst (pa_cons (pv 1) (pa_cons (pv 2) (pa_cons (pe_op op_sub (pv 1) pe_int) (pa_cons (pe_op op_add (pv 2) pe_int) (pa_cons (pv 3) (pa_cons (pv 3) (pa_cons (pv 3) (pa_cons (pe_op op_add (pe_op op_add (pv 2) pe_int) (pe_fn F__law_take hr (by decide) rfl (pa_cons (pv 0) (pa_cons (pe_op op_pow pe_int pe_int) pa_nil)))) pa_nil))))))))))
    (pss_one (ps_ret (pe_ix (ix_listK K) (pv 4) (pe_fn F__law_take hr (by decide) rfl (pa_cons (pv 0) (pa_cons pe_int pa_nil))) (fun _ _ => rfl)))))), ?_⟩
  rintro G p vs os hv ⟨lo, hi, rfl, h1, h2⟩
  obtain ⟨v1, v2, rfl, hv1, hv2⟩ := dtos3 hv
  have it : ∀ {d : PyData}, (∃ r : Int, d = .int r ∧ 0 ≤ r ∧ r < hi - lo + 201) → isI d := fun ⟨r, h, _⟩ => ⟨r, h⟩
  refine SS.up (ss_set (ev_ints (ev_ints ((ev_take rfl (ed_op (ed_op (ed_var rfl hv2) (ed_var rfl hv1) r2_i) ed_int r2_i) (by show 0 < hi - lo + 201; omega) (by show hi - lo + 201 < 1073741824; omega)).imp fun d ⟨r, h, _⟩ => ⟨r, h⟩) (ev_d (ed_var rfl hv1) ⟨_, rfl⟩)) (ev_d ed_int ⟨_, rfl⟩)) fun G1 x1 d1 a1 hx1 p1 => ?_) (by decide : 1 + 2 ≤ 3)
  refine ss_set (P := fun d => ∃ ds, d = .list ds ∧ ds.length = 8 ∧ ∀ x ∈ ds, isI x) (c1 := 1) (c2 := 1) (EV.up (ev_lst (avl_cons (ev_d (ed_var rfl (by walk_at "dt")) ⟨_, rfl⟩) (avl_cons (ev_d (ed_var rfl (by walk_at "dt")) ⟨_, rfl⟩) (avl_cons (ev_d (ed_op (ed_var rfl (by walk_at "dt")) ed_int r2_i) ⟨_, rfl⟩) (avl_cons (ev_d (ed_op (ed_var rfl (by walk_at "dt")) ed_int r2_i) ⟨_, rfl⟩)
    (avl_cons (ev_d (ed_var rfl hx1) p1) (avl_cons (ev_d (ed_var rfl hx1) p1) (avl_cons (ev_d (ed_var rfl hx1) p1) (avl_cons (ev_ints (ev_d (ed_op (ed_var rfl (by walk_at "dt")) ed_int r2_i) ⟨_, rfl⟩) ((ev_take rfl (ed_op ed_int ed_int (r2_c ⟨by decide, by decide, by decide⟩)) (by decide) (by decide)).imp fun d ⟨r, h, _⟩ => ⟨r, h⟩)) avl_nil)))))))) fun ds h => by omega) (by decide)) fun G2 x2 d2 a2 hx2 p2 => ?_
  obtain ⟨ds, rfl, hl, hp⟩ := p2
  exact SS.up (ss_ret (ev_ixL (ev_d (ed_var rfl hx2) ⟨ds, rfl, hl, hp⟩) (ev_take rfl ed_int (by decide) (by decide))) fun d h => h) (by decide)
/-! ### _law_pair -/
theorem ok_pair (F : FnIn K mg "_law_pair" s__law_pair) (T : Txt mg) (F__law_take : Has P w K mg base CX0 2 "_law_take" ["_law_state_here", "_law_many"] (sp_take K)) (F__law_bound : Has P w K mg base CX0 3 "_law_bound" ["_law_state_here", "_law_least", "_law_most"] (SFn (stE K) K 3 PreB (fun _ d => isI d)))
    (F__law_odd : Has P w K mg base CX0 3 "_law_odd" ["_law_state_here"] (SFn (stE K) K 1 Pre1 (fun _ d => OkD d))) : Has P w K mg base CX0 4 "_law_pair" ["_law_state_here", "_law_least", "_law_most"] (SFn (stE K) K 9 PreB (fun _ d => OkD d)) := by
  refine F.draw sc__law_pair (fun os ⟨_, _, h, _⟩ => by rw [h]; rfl) (fun _ _ _ _ _ _ us hl => match us, hl with | [_, _, _], _ => rfl) (fun f cdv A outer s H E hr => ?_)
  have nd := sc__law_pair.nd
  refine ⟨_, (pss_cons (ps_set (i := 3) nd rfl (Or.inl rfl) (pe_tup (pa_cons (pe_fn F__law_bound hr (by decide) rfl (pa_cons (pv 0) (pa_cons (pv 1) (pa_cons (pv 2) pa_nil)))) (pa_cons (pe_fn F__law_bound hr (by decide) rfl (pa_cons (pv 0) (pa_cons (pv 1) (pa_cons (pv 2) pa_nil)))) pa_nil))))
    (pss_cons (ps_set (i := 4) nd rfl (Or.inl rfl) (pe_fn F__law_odd hr (by decide) rfl (pa_cons (pv 0) pa_nil)))
    (pss_cons (ps_set (i := 5) nd rfl (Or.inl rfl) (pe_lst (pa_cons (pe_callTy (call_list_ofK K) (by rfl) T.b_list (by decide +kernel) (pa_cons (pv 3) pa_nil)) (pa_cons (pe_slice (sl_tupAK K) (pv 3) po_none (po_some pe_int)) (pa_cons (pe_op (op_catAK K) (pv 3) (pe_tup (pa_cons pe_int pa_nil))) (pa_cons (pe_tup (pa_cons (pv 4) (pa_cons (pe_ix (ix_tupK K) (pv 3) pe_int (fun _ _ => rfl)) pa_nil))) (pa_cons (pe_tup (pa_cons (pe_ix (ix_tupK K) (pv 3) pe_int (fun _ _ => rfl)) (pa_cons (pv 4) pa_nil))) (pa_cons (pv 4) pa_nil))))))))
    (pss_one (ps_ret (pe_ix (ix_listK K) (pe_lst (pa_cons (pv 3) (pa_cons (pv 3) (pa_cons (pe_ix (ix_listK K) (pv 5) (pe_fn F__law_take hr (by decide) rfl (pa_cons (pv 0) (pa_cons pe_int pa_nil))) (fun _ _ => rfl)) pa_nil)))) (pe_fn F__law_take hr (by decide) rfl (pa_cons (pv 0) (pa_cons pe_int pa_nil))) (fun _ _ => rfl))))))), ?_⟩
  rintro G p vs os hv ⟨lo, hi, rfl, h1, h2⟩
  obtain ⟨v1, v2, rfl, hv1, hv2⟩ := dtos3 hv
  have hB : ∀ {te1 te2 : TE} {σ : L2.St}, σ[0]? = some (some (.ref p)) → ED K G te1 σ (.int lo) → ED K G te2 σ (.int hi) → EV (stE K p) K 3 G (tCall (SFn (stE K) K 3 PreB (fun _ d => isI d)) [] E0 (tCons (tVar 0) (tCons te1 (tCons te2 tNil)))) σ isI := fun h0 e1 e2 =>
    EV.up (ev_sfn (ef := stE K) (ao_st h0 (ao_cons (ev_ed e1) (ao_cons (ev_ed e2) ao_nil))) fun os ⟨_, q1, _, _, q2, q3, _, _, q4, q5, q6⟩ => by subst q1 q2 q3 q4 q5 q6; exact ⟨⟨lo, hi, rfl, h1, h2⟩, fun d h => h⟩) (by omega)
  refine SS.up (ss_set (ev_tup (av_cons (hB rfl (ed_var rfl hv1) (ed_var rfl hv2)) (av_cons (hB rfl (ed_var rfl hv1) (ed_var rfl hv2)) av_nil)) fun ds ⟨_, _, q1, _, _, _, q2, _, q3⟩ => by rw [q1, q2, q3]; show 2 ≤ 1000; decide) fun G1 x1 d1 a1 hx1 p1 => ?_) (by decide : (3 + (3 + 0)) + 3 ≤ 9)
  obtain ⟨ds, rfl, _, _, q1, ⟨i, rfl⟩, _, _, q2, ⟨j, rfl⟩, q3⟩ := p1
  subst q3 q2 q1
  refine ss_set (c1 := 1) (c2 := 2) (P := OkD) (EV.up (ev_sfn (ef := stE K) (ao_st rfl ao_nil) fun os ⟨_, q1, q2⟩ => by subst q1 q2; exact ⟨rfl, fun d h => h⟩) (by decide)) fun G2 x2 d2 a2 hx2 p2 => ?_
  have c1 : cutD [PyData.int i, .int j] none (some 1) = [.int i] := rfl
  refine ss_set (c1 := 0) (c2 := 2) (P := fun d => ∃ ds, d = .list ds ∧ ds.length = 6 ∧ ∀ x ∈ ds, OkD x) (EV.up (ev_lst (avl_cons (ev_d (ed_cb (ea_cons (ed_var rfl (by walk_at "dt")) ea_nil) cb_listT) trivial) (avl_cons (ev_d (ed_slT (ed_var rfl (by walk_at "dt")) eo_none (eo_some ed_int)) trivial)
    (avl_cons (ev_d (ed_op (ed_var rfl (by walk_at "dt")) (ed_tup (ea_cons ed_int ea_nil)) (r2_catT (by show 2 + 1 ≤ 10000; decide))) trivial) (avl_cons (ev_d (ed_tup (ea_cons (ed_var rfl hx2) (ea_cons (ed_op (ed_var rfl (by walk_at "dt")) ed_int (r2_ixT atI1)) ea_nil))) trivial)
    (avl_cons (ev_d (ed_tup (ea_cons (ed_op (ed_var rfl (by walk_at "dt")) ed_int (r2_ixT atI0)) (ea_cons (ed_var rfl hx2) ea_nil))) trivial) (avl_cons (ev_d (ed_var rfl hx2) p2) avl_nil)))))) fun ds h => by omega) (by decide)) fun G3 x3 d3 a3 hx3 p3 => ?_
  obtain ⟨ds, rfl, hl, hp⟩ := p3
  exact SS.up (ss_ret (ev_ixL0 (P := OkD) (avl_cons (ev_d (ed_var rfl (same_dt (a2.trans a3) hx1)) trivial) (avl_cons (ev_d (ed_var rfl (same_dt (a2.trans a3) hx1)) trivial) (avl_cons (ev_ixL (ev_d (ed_var rfl hx3) ⟨ds, rfl, hl, hp⟩) (ev_take rfl ed_int (by decide) (by decide))) avl_nil))) (by decide) (ev_take rfl ed_int (by decide) (by decide))) fun d h => h) (by decide)
/-! ### _law_name -/
theorem okL_app {n m : Nat} {k l : List Nat} (h1 : okL n k) (h2 : okL m l) : okL (n + m) (k ++ l) := ⟨by rw [List.length_append]; have := h1.1; have := h2.1; omega, fun c hc => (List.mem_append.mp hc).elim (h1.2 c) (h2.2 c)⟩
theorem okL_cut {n : Nat} {l : List Nat} (h : okL n l) (a b : Nat) : okL n ((l.drop a).take b) := ⟨by rw [List.length_take, List.length_drop]; have := h.1; omega, fun c hc => h.2 c (List.mem_of_mem_drop (List.mem_of_mem_take hc))⟩
abbrev OTHERS : Str := " !\"#$&'()*+,-./0123456789:;<=>?@ABCDEFGHIJKLMNOPQRSTUVWXYZ[\\]^_`{|}~\n"
theorem letters_small : ∀ c ∈ LETTERS.cps.toList, c < 1114112 := by decide +kernel
theorem others_small : ∀ c ∈ OTHERS.cps.toList, c < 1114112 := by decide +kernel
theorem ok_name (F : FnIn K mg "_law_name" s__law_name) (T : Txt mg) (F__law_take : Has P w K mg base CX0 2 "_law_take" ["_law_state_here", "_law_many"] (sp_take K)) : Has P w K mg base CX0 3 "_law_name" ["_law_state_here"] (SFn (stE K) K 20 Pre1 (fun _ d => OkD d)) := by
  refine F.draw sc__law_name (fun os h => by rw [h]; rfl) (fun _ _ _ _ _ _ us hl => match us, hl with | [_], _ => rfl) (fun f cdv A outer s H E hr => ?_)
  have nd := sc__law_name.nd
  refine ⟨_, (pss_cons (ps_set (i := 1) nd rfl (Or.inl rfl) pe_str)
    (pss_cons (ps_set (i := 2) nd rfl (Or.inl rfl) (pe_fn F__law_take hr (by decide) rfl (pa_cons (pv 0) (pa_cons pe_int pa_nil))))
    (pss_cons (ps_set (i := 3) nd rfl (Or.inl rfl) (pe_joinK K pe_str (pe_lc (own := [("_law_k", 5)]) (by rfl) nd (pi_range1 (by rfl) T.b_range (pa_cons (pv 2) pa_nil)) (blkOk_by (own := [("_law_k", 5)]) (N := ["_law_state_here", "_law_others", "_law_size", "_law_text", "_law_at", "_law_k"]) (sc := (defScope s__law_name)) (by decide +kernel)) (fun _ _ _ _ _ => (pg_name (i := 5) nd rfl (Or.inl rfl))) (fun _ _ _ _ _ => pts_nil) (fun _ _ _ _ _ => (pe_ix ix_str pe_str (pe_fn F__law_take hr (by decide) rfl (pa_cons (pv 0) (pa_cons pe_int pa_nil))) (fun _ _ => rfl))))))
    (pss_cons (ps_set (i := 4) nd rfl (Or.inl rfl) (pe_fn F__law_take hr (by decide) rfl (pa_cons (pv 0) (pa_cons (pe_op op_add (pv 2) pe_int) pa_nil))))
    (pss_cons (ps_if (pt_cmpR op_eq (pe_fn F__law_take hr (by decide) rfl (pa_cons (pv 0) (pa_cons pe_int pa_nil))) pe_int (nomark _)) (pss_one (ps_set (i := 3) nd rfl (Or.inl rfl) (pe_op op_add_str (pe_op op_add_str (pe_slice sl_str (pv 3) po_none (po_some (pv 4))) (pe_ix ix_str (pv 1) (pe_fn F__law_take hr (by decide) rfl (pa_cons (pv 0) (pa_cons (pe_callB (call_lenK K) (by rfl) T.b_len (by decide +kernel) (pa_cons (pv 1) pa_nil)) pa_nil))) (fun _ _ => rfl))) (pe_slice sl_str (pv 3) (po_some (pe_op op_add (pv 4) pe_int)) po_none)))) pss_nil)
    (pss_one (ps_ret (pv 3)))))))), ?_⟩
  rintro G p vs os hv rfl
  have e := dtos1 hv
  subst e
  have hT : ∀ {σ : L2.St} {te : TE} {G : Hp} {m : Int}, σ[0]? = some (some (.ref p)) → ED K G te σ (.int m) → 0 < m → m < 1073741824 → EV (stE K p) K 1 G (tCall (sp_take K) [] E0 (tCons (tVar 0) (tCons te tNil))) σ (fun d => ∃ r : Int, d = .int r ∧ 0 ≤ r ∧ r < m) := fun h e h0 h1 => ev_take h e h0 h1
  refine SS.up (ss_set (ev_ed ed_str) fun G1 x1 d1 a1 h1 p1 => ?_) (by decide : 0 + 20 ≤ 20)
  subst p1
  refine ss_set (c1 := 1) (c2 := 19) (hT rfl ed_int (by decide) (by decide)) fun G2 x2 d2 a2 h2 p2 => ?_
  obtain ⟨sz, rfl, s0, s1⟩ := p2
  -- the text
  refine ss_set (c1 := 15) (c2 := 4) (P := okT 15) (EV.up (ev_m1 (c := sz.toNat * 1) ed_str (ev_lc (P := fun _ x => ∃ c ∈ LETTERS.cps.toList, x = .str ⟨#[c]⟩) (ei_range1 (ea_cons (ed_var rfl h2) ea_nil) s0 (by omega)) (by omega) (fun _ _ => eg_name) (fun i G1 σ2 hi hB => by obtain ⟨x0, hx0, rfl⟩ := hB; rfl)
      (fun i G1 σ2 hi a1 hB => by
        obtain ⟨x0, hx0, rfl⟩ := hB
        exact ev_ixS ed_str (by decide +kernel) ((hT rfl ed_int (by decide) (by decide)).imp fun d ⟨r, e, r0, r1⟩ => ⟨r, e, r0, by rw [show Str.length "abcdefghijklmnopqrstuvwxyz" = 26 from by decide +kernel]; exact r1⟩)))
    fun d ⟨ds, e1, hl, hp⟩ => by
      obtain ⟨l, e2, hl2, hL⟩ := signs_of hp
      subst e1 e2
      exact ⟨_, md_joinS l (by omega), l, rfl, by omega, fun c hc => letters_small c (hL c hc)⟩) (by omega)) fun G3 x3 d3 a3 h3 p3 => ?_
  obtain ⟨l, rfl, hl, hlc⟩ := p3
  refine ss_set (c1 := 1) (c2 := 3) (hT rfl (ed_op (ed_var rfl (by walk_at "dt")) ed_int r2_i) (by show 0 < sz + 1; omega) (by show sz + 1 < _; omega)) fun G4 x4 d4 a4 h4 p4 => ?_
  obtain ⟨at_, rfl, _, _⟩ := p4
  refine SS.up (ss_when (c1 := 1) (c2 := 2) (Pb := fun _ => True) (tv_test (EV.up (c := 1) (ev_op (hT rfl ed_int (by decide) (by decide)) (ev_ed ed_int) fun d1 d2 ⟨r, e1, _⟩ e2 => by subst e1 e2; exact ⟨_, r2_eqI, _, rfl, trivial⟩) (by decide))) (fun _ => ?_) (fun _ => ?_)) (by decide)
  · have ho : Dt K G4 x1 (.str OTHERS) := same_dt (a2.trans (a3.trans a4)) h1
    refine SS.up (ss_set (c1 := 1) (c2 := 0) (P := okT 50) (EV.up (ev_op (P1 := okT 30) (ev_op (P1 := okT 15) (P2 := okT 1) (ev_d (ed_slS (ed_var rfl (by walk_at "dt")) eo_none (eo_some (ed_var rfl h4)) (by omega)) ⟨_, rfl, okL_cut ⟨hl, hlc⟩ _ _⟩)
      ((ev_ixS (ed_var rfl ho) (by decide +kernel) (hT rfl (ed_cb (ea_cons (ed_var rfl ho) ea_nil) (cb_lenS (by decide +kernel))) (by decide +kernel) (by decide +kernel))).imp fun d ⟨c, hc, e⟩ => ⟨[c], e, Nat.le_refl 1, fun c' h' => by rw [List.mem_singleton] at h'; rw [h']; exact others_small c hc⟩)
      fun d1 d2 ⟨k1, e1, q1⟩ ⟨k2, e2, q2⟩ => by
        subst e1 e2
        refine ⟨_, r2_addS (by rw [mkS_len, mkS_len]; exact szn _ (by have := q1.1; have := q2.1; omega)), k1 ++ k2, mkS_app k1 k2 ▸ rfl, (okL_app q1 q2).imp (fun h => by omega) id⟩)
      (ev_d (P := okT 15) (ed_slS (ed_var rfl (by walk_at "dt")) (eo_some (ed_op (ed_var rfl h4) ed_int r2_i)) eo_none (by omega)) ⟨_, rfl, okL_cut ⟨hl, hlc⟩ _ _⟩)
      fun d1 d2 ⟨k1, e1, q1⟩ ⟨k2, e2, q2⟩ => by
        subst e1 e2
        refine ⟨_, r2_addS (by rw [mkS_len, mkS_len]; exact szn _ (by have := q1.1; have := q2.1; omega)), k1 ++ k2, mkS_app k1 k2 ▸ rfl, (okL_app q1 q2).imp (fun h => by omega) id⟩) (by decide)) fun G5 x5 d5 a5 h5 p5 => ?_) (by decide)
    exact ss_ret (ev_d (ed_var rfl h5) p5) fun d h => okT_D h (by decide)
  · exact SS.up (ss_ret (ev_d (P := okT 15) (ed_var rfl (by walk_at "dt")) ⟨l, rfl, hl, hlc⟩) fun d h => okT_D h (by decide)) (by decide)
/-! ### what the law itself tells -/
theorem atI_two {a b : PyData} : atI [a, b] (0 : Int) = some a ∧ atI [a, b] (1 : Int) = some b := ⟨atI0, atI1⟩
theorem isI_of {x : PyData} (h : isInt x = true) : ∃ i, x = .int i := by
  cases x with
  | int i => exact ⟨i, rfl⟩
  | _ => exact Bool.noConfusion h
theorem isAmong_no {x : PyData} {lo hi : Int} (h : isInt x = false) : isAmong x lo hi = false := by
  cases x with
  | int i => exact Bool.noConfusion h
  | _ => rfl
theorem ok_is_pair (F : FnIn K mg "_law_is_pair" s__law_is_pair) (T : Txt mg) (F__law_whole : Has P w K mg base CX0 1 "_law_whole" ["_law_found"] (PFn K R_whole)) : Has P w K mg base CX0 2 "_law_is_pair" ["_law_thing", "_law_least", "_law_most"] (PFn K R_are_among) := by
  refine F.pure sc__law_is_pair (fun ds d ⟨x, lo, hi, h, _⟩ => by rw [h]; rfl) (fun _ _ _ _ _ _ us hl => match us, hl with | [_, _, _], _ => rfl) (fun f cdv A outer s H E hr => ?_)
  have nd := sc__law_is_pair.nd
  refine ⟨_, (pss_cons (ps_if (PW.pt (pw_or (pt_not (pt_val (pe_callB (call_isiK' K) (by rfl) T.b_isinstance (by decide +kernel) (pa_cons (pv 0) (pa_cons (pe_bltn (v := .ty "tuple") (by rfl) T.b_tuple (by decide +kernel) rfl) pa_nil))))) (pw_or (pt_cmpR op_ne (pe_callB (call_lenK K) (by rfl) T.b_len (by decide +kernel) (pa_cons (pv 0) pa_nil)) pe_int (nomark _)) (pw_or1 (pt_not (pt_val (pe_callB (cr_allK K rfl) (by rfl) T.b_all (by decide +kernel) (pa_cons (pe_lc (own := [("_law_one", 3)]) (by rfl) nd (pi_tupK K (pv 0)) (blkOk_by (own := [("_law_one", 3)]) (N := ["_law_thing", "_law_least", "_law_most", "_law_one"]) (sc := (defScope s__law_is_pair)) (by decide +kernel)) (fun _ _ _ _ _ => (pg_name (i := 3) nd rfl (Or.inl rfl))) (fun _ _ _ _ _ => pts_nil) (fun _ _ _ _ _ => (pe_fn F__law_whole hr (by decide) rfl (pa_cons (pv 3) pa_nil)))) pa_nil)))))))) (pss_one (ps_ret pe_bl)) pss_nil)
    (pss_one (ps_ret (pe_and (pe_chain op_le op_le (pv 1) (pe_ix (ix_tupK K) (pv 0) pe_int (fun _ _ => rfl)) (pv 2)) (pe_one (pe_chain op_le op_le (pv 1) (pe_ix (ix_tupK K) (pv 0) pe_int (fun _ _ => rfl)) (pv 2))))))), ?_⟩
  rintro G vs ds d hv ⟨x, lo, hi, rfl, rfl⟩
  obtain ⟨v0, v1, v2, rfl, h0, h1, h2⟩ := dts3 hv
  cases x with
  | tuple xs =>
    match xs with
    | [a, b] =>
      have eo : outs [a, b].length (fun _ => true) (fun i => .bool (isInt ([a, b].getD i .none))) = [isInt a, isInt b].map PyData.bool := rfl
      refine es_when (b := !(isInt a && isInt b)) (ET.to (et_or (et_not (b := true) (et_B (ed_isi (ed_var rfl h0) (by kernel_rfl)))) fun hb => (et_or (et_test (ed_op (ed_cb (ea_cons (ed_var rfl h0) ea_nil) cb_lenT) ed_int r2_neI)) fun hb =>
        (et_not (et_B (ed_cb (ea_cons (ED.to (ed_lc (p := fun _ => true) (ei_tup (ed_var rfl h0)) (by show 2 < 100000; decide) (fun _ _ => eg_name) (fun i G1 σ2 hi hB => by obtain ⟨x0, hx0, rfl⟩ := hB; rfl) (fun i G1 σ2 hi a1 hB => et_yes) (fun i G1 σ2 hi a1 hB hp => by obtain ⟨x0, hx0, rfl⟩ := hB; exact (ed_fn (ea_cons (ed_var rfl hx0) ea_nil) ⟨_, rfl, rfl⟩))) (congrArg PyData.list eo)) ea_nil) cb_all))))) (by simp)) (fun hb => es_retSeq ed_bl ?_) (fun hb => ?_)
      · show PyData.bool false = .bool (isAmong a lo hi && isAmong b lo hi)
        cases ha : isInt a with
        | false => rw [isAmong_no ha]; rfl
        | true =>
          rw [ha] at hb
          have : isInt b = false := by simpa using hb
          rw [isAmong_no this, Bool.and_false]
      · obtain ⟨i, rfl⟩ := isI_of (x := a) (by simp at hb; exact hb.1)
        obtain ⟨j, rfl⟩ := isI_of (x := b) (by simp at hb; exact hb.2)
        exact es_ret (ed_and (ed_chain (ed_var rfl h1) (ed_op (ed_var rfl h0) ed_int (r2_ixT atI0)) r2_b (ed_var rfl h2) r2_b) fun hb => (ed_chain (ed_var rfl h1) (ed_op (ed_var rfl h0) ed_int (r2_ixT atI1)) r2_b (ed_var rfl h2) r2_b)) rfl
    | [] =>
      exact es_when (b := true) (ET.to (et_or (et_not (b := true) (et_B (ed_isi (ed_var rfl h0) (by kernel_rfl)))) fun hb => (et_or (b := true) (c := true) (et_test (ED.to (ed_op (ed_cb (ea_cons (ed_var rfl h0) ea_nil) cb_lenT) ed_int r2_neI) rfl)) fun hb => Bool.noConfusion hb)) rfl) (fun hb => es_retSeq ed_bl rfl) (fun hb => Bool.noConfusion hb)
    | [a] =>
      exact es_when (b := true) (ET.to (et_or (et_not (b := true) (et_B (ed_isi (ed_var rfl h0) (by kernel_rfl)))) fun hb => (et_or (b := true) (c := true) (et_test (ED.to (ed_op (ed_cb (ea_cons (ed_var rfl h0) ea_nil) cb_lenT) ed_int r2_neI) rfl)) fun hb => Bool.noConfusion hb)) rfl) (fun hb => es_retSeq ed_bl rfl) (fun hb => Bool.noConfusion hb)
    | a :: b :: c :: l =>
      have q : ¬ (((a :: b :: c :: l).length : Nat) : Int) = 2 := by simp only [List.length_cons]; omega
      exact es_when (b := true) (ET.to (et_or (et_not (b := true) (et_B (ed_isi (ed_var rfl h0) (by kernel_rfl)))) fun hb => (et_or (b := true) (c := true) (et_test (ED.to (ed_op (ed_cb (ea_cons (ed_var rfl h0) ea_nil) cb_lenT) ed_int r2_neI) (by rw [decide_eq_false q]; rfl))) fun hb => Bool.noConfusion hb)) rfl) (fun hb => es_retSeq ed_bl rfl) (fun hb => Bool.noConfusion hb)
  | _ =>
    exact es_when (b := true) (ET.to (et_or (c := true) (et_not (b := false) (et_B (ed_isi (ed_var rfl h0) (by kernel_rfl)))) fun hb => Bool.noConfusion hb) rfl) (fun hb => es_retSeq ed_bl rfl) (fun hb => Bool.noConfusion hb)
theorem ok_is_size2 (F : FnIn K mg "_law_is_size" s__law_is_size) (T : Txt mg) (F__law_whole : Has P w K mg base CX0 1 "_law_whole" ["_law_found"] (PFn K R_whole)) : Has P w K mg base CX0 2 "_law_is_size" ["_law_thing"] (PFn K R_is_size) := by
  refine F.pure sc__law_is_size (fun ds d ⟨x, h, _⟩ => by rw [h]; rfl) (fun _ _ _ _ _ _ us hl => match us, hl with | [_], _ => rfl) (fun f cdv A outer s H E hr => ?_)
  refine ⟨_, (pss_one (ps_ret (pe_and (pe_fn F__law_whole hr (by decide) rfl (pa_cons (pv 0) pa_nil)) (pe_one (pe_chain op_le op_le pe_int (pv 0) pe_int))))), ?_⟩
  rintro G vs ds d hv ⟨x, rfl, rfl⟩
  obtain ⟨v0, rfl, h0⟩ := dts1 hv
  cases e : isInt x with
  | false =>
    refine es_ret (ed_and (c := false) (ED.to (ed_fn (ea_cons (ed_var rfl h0) ea_nil) ⟨x, rfl, rfl⟩) (congrArg PyData.bool e)) fun hb => Bool.noConfusion hb) ?_
    rw [isAmong_no e]
    rfl
  | true =>
    obtain ⟨i, rfl⟩ := isI_of e
    exact es_ret (ed_and (ed_fn (ea_cons (ed_var rfl h0) ea_nil) ⟨_, rfl, rfl⟩) fun hb => ed_chain ed_int (ed_var rfl h0) r2_b ed_int r2_b) rfl
theorem outs_empty {n : Nat} {p : Nat → Bool} {h : Nat → PyData} : (outs n p h).isEmpty = (List.range n).all fun i => !p i := by
  unfold outs
  rw [List.isEmpty_map]
  rw [Bool.eq_iff_iff]
  simp [List.filter_eq_nil_iff]
theorem sh_outs {n m : Nat} {p : Nat → Bool} {h : Nat → PyData} (hs : ∀ i, i < n → ShD m (h i)) : ShD (m + 1) (.list (outs n p h)) := by
  refine sh_list fun x hx => ?_
  unfold outs at hx
  obtain ⟨i, hi, rfl⟩ := List.mem_map.mp hx
  exact hs i (List.mem_range.mp (List.mem_filter.mp hi).1)
def R_is_nameO (ds : List PyData) (d : PyData) : Prop := ∃ x, ds = [x] ∧ OkD x ∧ d = .bool (isName x)
theorem ok_is_name2 (F : FnIn K mg "_law_is_name" s__law_is_name) (T : Txt mg) : Has P w K mg base CX0 1 "_law_is_name" ["_law_thing"] (PFn K R_is_nameO) := by
  refine F.pure sc__law_is_name (fun ds d ⟨x, h, _⟩ => by rw [h]; rfl) (fun _ _ _ _ _ _ us hl => match us, hl with | [_], _ => rfl) (fun f cdv A outer s H E hr => ?_)
  have nd := sc__law_is_name.nd
  refine ⟨_, (pss_cons (ps_if (PW.pt (pw_or (pt_not (pt_val (pe_callB (call_isiK' K) (by rfl) T.b_isinstance (by decide +kernel) (pa_cons (pv 0) (pa_cons (pe_bltn (v := .ty "str") (by rfl) T.b_str (by decide +kernel) rfl) pa_nil))))) (pw_or1 (pt_not (pt_chain op_le op_le pe_int (pe_callB (call_lenK K) (by rfl) T.b_len (by decide +kernel) (pa_cons (pv 0) pa_nil)) pe_int))))) (pss_one (ps_ret pe_bl)) pss_nil)
    (pss_one (ps_ret (pe_cmpR (op_eqDK K hr.units) (pe_lc (own := [("_law_sign", 1)]) (by rfl) nd (pi_str (pv 0)) (blkOk_by (own := [("_law_sign", 1)]) (N := ["_law_thing", "_law_sign"]) (sc := (defScope s__law_is_name)) (by decide +kernel)) (fun _ _ _ _ _ => (pg_name (i := 1) nd rfl (Or.inl rfl))) (fun _ _ _ _ _ => (pts_one (pt_cmpR op_notIn_sign (pv 1) pe_str (by rfl)))) (fun _ _ _ _ _ => (pv 1))) (pe_lst pa_nil) (nomark _))))), ?_⟩
  rintro G vs ds d hv ⟨x, rfl, hz, rfl⟩
  obtain ⟨v0, rfl, h0⟩ := dts1 hv
  cases x with
  | str z =>
    have hz : okL 10000 z.cps.toList := hz
    show ES _ _ _ _ (fun d' => d' = .bool (isNameL z.cps.toList)) _
    rw [mkS_of z] at h0
    generalize z.cps.toList = l at h0 hz ⊢
    obtain ⟨hl, hc⟩ := hz
    refine es_when (et_or (et_not (b := true) (et_B (ed_isi (ed_var rfl h0) (by kernel_rfl)))) fun hb => (et_not (et_test (ed_chain ed_int (ed_cb (ea_cons (ed_var rfl h0) ea_nil) (cb_lenS (str_sz (by rw [mkS_len]; exact hl)))) r2_b ed_int r2_b)))) (fun hb => es_retSeq ed_bl ?_) (fun hb => ?_)
    · rw [mkS_len] at hb
      have e : (decide (1 ≤ l.length) && decide (l.length ≤ 12)) = false := by
        simp at hb ⊢
        omega
      unfold isNameL
      rw [e]
      rfl
    · rw [mkS_len] at hb
      have e : (decide (1 ≤ l.length) && decide (l.length ≤ 12)) = true := by
        simp at hb ⊢
        omega
      have hg : ∀ i, i < (mkS l).cps.size → ShD 0 (.str (sg (l.getD i 0))) := fun i hi => sh_txt (l := [l.getD i 0]) fun c h => by
        rw [List.mem_singleton] at h
        rw [mkS_size] at hi
        rw [h, List.getD_eq_getElem?_getD, List.getElem?_eq_getElem hi]
        exact hc _ (List.getElem_mem hi)
      refine es_ret (ed_op (ed_lc (p := fun i => !decide (l.getD i 0 ∈ LETTERS.cps.toList)) (h := fun i => .str (sg (l.getD i 0))) (ei_str (ed_var rfl h0)) (by rw [mkS_size]; omega) (fun _ _ => eg_name) (fun i G1 σ2 hi hB => by obtain ⟨x0, hx0, rfl⟩ := hB; rfl) (fun i G1 σ2 hi a1 hB => by
          obtain ⟨x0, hx0, rfl⟩ := hB
          rw [mkS_getD] at hx0
          exact (et_test (ed_op (ed_var rfl hx0) ed_str r2_inNotS))) (fun i G1 σ2 hi a1 hB hp => by
          obtain ⟨x0, hx0, rfl⟩ := hB
          rw [mkS_getD] at hx0
          exact (ed_var rfl hx0))) (ed_lst ea_nil) (r2_eqD (sh_outs hg).ok (by kernel_rfl))) ?_
      rw [eqv_nil, outs_empty, mkS_size]
      have q := range_all (l := l) (p := fun c => decide (c ∈ LETTERS.cps.toList))
      rw [List.all_map] at q
      unfold isNameL
      rw [e, ← q]
      congr 1
      simp [Function.comp_def]
  | _ =>
    exact es_when (b := true) (ET.to (et_or (c := true) (et_not (b := false) (et_B (ed_isi (ed_var rfl h0) (by kernel_rfl)))) fun hb => Bool.noConfusion hb) rfl) (fun hb => es_retSeq ed_bl rfl) (fun hb => Bool.noConfusion hb)
/-! ### _law_things -/
def R_things (_ : List (Option PyData)) (d : PyData) : Prop := ∃ ds, d = .list ds ∧ ds.length ≤ 100 ∧ ∀ x ∈ ds, OkD x
theorem ok_things (F : FnIn K mg "_law_things" s__law_things) (T : Txt mg) (F__law_take : Has P w K mg base CX0 2 "_law_take" ["_law_state_here", "_law_many"] (sp_take K)) (F__law_name : Has P w K mg base CX0 3 "_law_name" ["_law_state_here"] (SFn (stE K) K 20 Pre1 (fun _ d => OkD d)))
    (F__law_pair : Has P w K mg base CX0 4 "_law_pair" ["_law_state_here", "_law_least", "_law_most"] (SFn (stE K) K 9 PreB (fun _ d => OkD d))) (F__law_odd : Has P w K mg base CX0 3 "_law_odd" ["_law_state_here"] (SFn (stE K) K 1 Pre1 (fun _ d => OkD d))) :
    Has P w K mg base CX0 5 "_law_things" ["_law_state_here"] (SFn (stE K) K 50 Pre1 R_things) := by
  refine F.draw sc__law_things (fun os h => by rw [h]; rfl) (fun _ _ _ _ _ _ us hl => match us, hl with | [_], _ => rfl) (fun f cdv A outer s H E hr => ?_)
  have nd := sc__law_things.nd
  refine ⟨_, (pss_cons (ps_set (i := 1) nd rfl (Or.inl rfl) (pe_ix (ix_listK K) (pe_lst (pa_cons (pe_op op_sub (pe_fn F__law_take hr (by decide) rfl (pa_cons (pv 0) (pa_cons pe_int pa_nil))) pe_int) (pa_cons (pe_op op_add pe_int (pe_fn F__law_take hr (by decide) rfl (pa_cons (pv 0) (pa_cons (pe_op op_pow pe_int pe_int) pa_nil)))) pa_nil))) (pe_op op_fdiv (pe_fn F__law_take hr (by decide) rfl (pa_cons (pv 0) (pa_cons pe_int pa_nil))) pe_int) (fun _ _ => rfl)))
    (pss_cons (ps_set (i := 2) nd rfl (Or.inl rfl) (pe_lst (pa_cons (pe_fn F__law_name hr (by decide) rfl (pa_cons (pv 0) pa_nil)) (pa_cons (pe_fn F__law_pair hr (by decide) rfl (pa_cons (pv 0) (pa_cons (pe_un un_neg pe_int) (pa_cons pe_int pa_nil)))) (pa_cons (pe_fn F__law_pair hr (by decide) rfl (pa_cons (pv 0) (pa_cons (pe_un un_neg pe_int) (pa_cons pe_int pa_nil)))) pa_nil)))))
    (pss_one (ps_ret (pe_op op_cat (pv 2) (pe_lst (pa_cons (pv 1) (pa_cons (pe_fn F__law_odd hr (by decide) rfl (pa_cons (pv 0) pa_nil)) pa_nil)))))))), ?_⟩
  rintro G p vs os hv rfl
  have e := dtos1 hv
  subst e
  refine SS.up (ss_set (c1 := 3) (c2 := 45) (P := OkD) (EV.up (ev_ixL0 (avl_cons ((ev_ints ((ev_take rfl ed_int (by decide) (by decide)).imp fun d ⟨r, h, _⟩ => ⟨r, h⟩) (ev_d ed_int ⟨_, rfl⟩)).imp fun d ⟨i, h⟩ => by subst h; trivial)
    (avl_cons ((ev_ints (ev_d ed_int ⟨_, rfl⟩) ((ev_take rfl (ed_op ed_int ed_int (r2_c ⟨by decide, by decide, by decide⟩)) (by decide) (by decide)).imp fun d ⟨r, h, _⟩ => ⟨r, h⟩)).imp fun d ⟨i, h⟩ => by subst h; trivial) avl_nil)) (by decide)
    (ev_op (ev_take rfl ed_int (by decide) (by decide)) (ev_ed ed_int) fun d1 d2 ⟨r, e1, r0, r1⟩ e2 => by
      subst e1 e2
      exact ⟨_, r2_c (C := CDiv) ⟨by decide, by decide⟩, r / 7, rfl, by omega, by omega⟩)) (by decide)) fun G1 x1 d1 a1 hx1 p1 => ?_) (by decide)
  have hP : ∀ {lo hi : Int} {te1 te2 : TE} {σ : L2.St} {G : Hp}, lo ≤ hi → hi ≤ lo + 100000 → σ[0]? = some (some (.ref p)) → ED K G te1 σ (.int lo) → ED K G te2 σ (.int hi) → EV (stE K p) K 9 G (tCall (SFn (stE K) K 9 PreB (fun _ d => OkD d)) [] E0 (tCons (tVar 0) (tCons te1 (tCons te2 tNil)))) σ OkD := fun {lo hi _ _ _ _} h1 h2 h0 e1 e2 =>
    EV.up (ev_sfn (ef := stE K) (ao_st h0 (ao_cons (ev_ed e1) (ao_cons (ev_ed e2) ao_nil))) fun os ⟨_, q1, _, _, q2, q3, _, _, q4, q5, q6⟩ => by subst q1 q2 q3 q4 q5 q6; exact ⟨⟨lo, hi, rfl, h1, h2⟩, fun d h => h⟩) (by omega)
  refine ss_set (c1 := 38) (c2 := 7) (P := fun d => ∃ ds, d = .list ds ∧ ds.length = 3 ∧ ∀ x ∈ ds, OkD x) (EV.up (ev_lst (avl_cons (EV.up (c := 20) (c2 := 20) (EV.up (ev_sfn (ef := stE K) (ao_st rfl ao_nil) fun os ⟨_, q1, q2⟩ => by subst q1 q2; exact ⟨rfl, fun d h => h⟩) (by decide)) (by decide))
    (avl_cons (hP (by decide) (by decide) rfl (ed_un ed_int) ed_int) (avl_cons (hP (by decide) (by decide) rfl (ed_un ed_int) ed_int) avl_nil))) fun ds h => by omega) (by decide)) fun G2 x2 d2 a2 hx2 p2 => ?_
  obtain ⟨ds, rfl, hl, hp⟩ := p2
  refine SS.up (ss_ret (ev_op (P := R_things [none]) (ev_ed (ed_var rfl hx2)) (ev_lst (avl_cons (ev_d (ed_var rfl (same_dt a2 hx1)) p1) (avl_cons (c1 := 1) (EV.up (ev_sfn (ef := stE K) (P := OkD) (ao_st rfl ao_nil) fun os ⟨_, q1, q2⟩ => by subst q1 q2; exact ⟨rfl, fun d h => h⟩) (by decide)) avl_nil)) fun ds h => by omega)
    fun d1 d2 e1 ⟨es, e2, hl2, hp2⟩ => by
      subst e1 e2
      exact ⟨_, r2_cat (by omega), _, rfl, by rw [List.length_append]; omega, fun x hx => (List.mem_append.mp hx).elim (hp x) (hp2 x)⟩) fun d h => h) (by decide)
end

/-! ### the script and what is walked of it -/
section
variable {K : PySem.W.Frag}
theorem cutV_ints (ns : List Int) (lo hi : Option Int) : ∃ ms : List Int, cutV (ns.map V.int) lo hi = ms.map V.int ∧ ms.length ≤ ns.length := by
  refine ⟨(ns.drop (HT.sIx (ns.map V.int).length 0 lo)).take (HT.sIx (ns.map V.int).length (ns.map V.int).length hi - HT.sIx (ns.map V.int).length 0 lo), ?_, ?_⟩
  · unfold cutV
    rw [List.map_take, List.map_drop]
  · rw [List.length_take, List.length_drop]
    omega
/-- the script's first cells and one more -/
theorem ed_script {H : Hp} {σ : L2.St} {a : Addr} {ns : List Int} {c : Int} (hS : SqL K H a (ns.map V.int)) (hlen : ns.length ≤ 63) (h0 : σ[0]? = some (some (.ref a))) :
    ∃ ms : List Int, 0 < ms.length ∧ ms.length ≤ 64 ∧ ED K H (tOp rCat (tSl (rSlL K) (tVar 0) tNoPart (tPart (tC (.int 63)))) (tLst (tCons (tC (.int c)) tNil))) σ (.list (ms.map PyData.int)) := by
  obtain ⟨ms, ems, hms⟩ := cutV_ints ns none (some 63)
  refine ⟨ms ++ [c], by simp, by rw [List.length_append, List.length_singleton]; omega, fun G1 H1 g gh Q q => ?_⟩
  refine ⟨_, h0, _, rfl, _, _, rfl, (g.trans gh).seq hS, fun p1 h1 => ⟨szn 1, fun p2 h2 => ⟨_, _, _, _, rfl, rfl, Eq.trans (upd_ne (ne_of_none upd_same h2)) upd_same, upd_same, ?_, fun p3 h3 => ?_⟩⟩⟩
  · rw [ems, List.length_map]
    exact szn _ (by show ms.length + 1 ≤ 1000; omega)
  · have e1 := Ext.cell (M := []) (o := .lst (cutV (ns.map V.int) none (some 63))) gh h1
    have e2 := Ext.cell (M := []) (o := .lst [.int c]) e1.gh h2
    have e3 := Ext.new (M := []) (o := .lst (cutV (ns.map V.int) none (some 63) ++ [.int c])) e2.gh h3
    refine q _ _ _ ((e1.same e2).same e3) (.lst upd_same ?_)
    rw [ems]
    have z := ints_dts (K := K) (G := upd G1 p3 (.lst (ms.map V.int ++ [.int c]))) (ms ++ [c])
    rw [List.map_append] at z
    exact z
theorem getD_int {ms : List Int} {i : Nat} (h : i < (ms.map PyData.int).length) : ∃ c : Int, (ms.map PyData.int).getD i .none = .int c := by
  rw [List.length_map] at h
  rw [List.getD_eq_getElem?_getD, List.getElem?_map, List.getElem?_eq_getElem h]
  exact ⟨_, rfl⟩
def spLaw (K : PySem.W.Frag) : Sp := fun vs H Q _ => ∃ (a : Addr) (ns : List Int), vs = [.ref a] ∧ SqL K H a (ns.map V.int) ∧ ns.length ≤ 63 ∧ ∀ H', Q (.bl true) H'
end

/-! ### cost_of, law -/
abbrev GROUNDS : Str := ".t~^"
def grc : _root_.Fin 4 → Nat | 0 => 46 | 1 => 116 | 2 => 126 | 3 => 94
theorem occ_gr : ∀ i : _root_.Fin 4, Builtin.Str.occurrences GROUNDS (sg (grc i)) 0 GROUNDS.length 1 = [i.val] := by decide +kernel
theorem gr_at : ∀ i : _root_.Fin 4, GROUNDS.cps.getD i.val 0 = grc i := by decide +kernel
def R_cost_of (ds : List PyData) (d : PyData) : Prop := ∃ i : _root_.Fin 4, ds = [.str (sg (grc i))] ∧ d = .int (1 + (i.val : Int))
theorem eqv_bools (bs : List Bool) : PyData.eqv (.list (bs.map PyData.bool)) (.list (bs.map PyData.bool)) = true := by
  have h := eqf_list eqf_bool bs bs
  simpa using h
theorem sh_bools (bs : List Bool) : SeqAt.shaped (.list (bs.map PyData.bool)) = true := (sh_list (n := 0) fun x hx => by
  obtain ⟨b, _, rfl⟩ := List.mem_map.mp hx
  exact sh_bool).ok
section
variable {P : Program} {w : World} {K : PySem.W.Frag} {mg : Str → Option Value} {base : Heap}
theorem ok_cost_of (F : FnIn K mg "cost_of" s_cost_of) (T : Txt mg) : Has P w K mg base CX0 1 "cost_of" ["sign"] (PFn K R_cost_of) := by
  refine F.pure sc_cost_of (fun ds d ⟨x, h, _⟩ => by rw [h]; rfl) (fun _ _ _ _ _ _ us hl => match us, hl with | [_], _ => rfl) (fun f cdv A outer s H E hr => ?_)
  refine ⟨_, (pss_one (ps_ret (pe_op op_add pe_int (pe_m1 PySem.F.slot_str_index PySem.F.type_str_index mt_sindex (pe_gl rfl T.g_GROUNDS) (pv 0))))), ?_⟩
  rintro G vs ds d hv ⟨i, rfl, rfl⟩
  obtain ⟨v0, rfl, h0⟩ := dts1 hv
  exact es_ret (ed_op ed_int (ed_m1 ed_str (ed_var rfl h0) (md_sindex (occ_gr i))) r2_i) rfl
theorem ok_law {fa : Addr} {fd : FuncData} (F : Fun K "law" "law" s_law fa fd) (T : Txt mg) (F__law_state : Has P w K mg base CX0 1 "_law_state" ["_law_cells", "_law_k"] sp_state) (F__law_things : Has P w K mg base CX0 5 "_law_things" ["_law_state_here"] (SFn (stE K) K 50 Pre1 R_things))
    (F_is_name : Has P w K mg base CX0 1 "is_name" ["thing"] (PFn K R_is_name)) (F_is_place : Has P w K mg base CX0 3 "is_place" ["thing"] (PFn K R_is_place)) (F_is_cell : Has P w K mg base CX0 3 "is_cell" ["thing"] (PFn K R_is_cell)) (F_is_size : Has P w K mg base CX0 2 "is_size" ["thing"] (PFn K R_is_size))
    (F__law_is_name : Has P w K mg base CX0 1 "_law_is_name" ["_law_thing"] (PFn K R_is_nameO)) (F__law_is_pair : Has P w K mg base CX0 2 "_law_is_pair" ["_law_thing", "_law_least", "_law_most"] (PFn K R_are_among)) (F__law_is_size : Has P w K mg base CX0 2 "_law_is_size" ["_law_thing"] (PFn K R_is_size))
    (F__law_whole : Has P w K mg base CX0 1 "_law_whole" ["_law_found"] (PFn K R_whole)) (F_cost_of : Has P w K mg base CX0 1 "cost_of" ["sign"] (PFn K R_cost_of)) : FnOk P w K mg base CX0 6 fa fd ["_law_script"] (spLaw K) := by
  refine F.ok sc_law (fun vs H Q E h => ?_) (fun cdv A outer s H vs Q E hr h => ?_)
  · obtain ⟨a, ns, rfl, _⟩ := h
    rfl
  · obtain ⟨a, ns, rfl, hS, hlen, k⟩ := h
    have nd := sc_law.nd
    refine ⟨_, (pss_cons (ps_for PassesOwn.never rfl (pi_enumK K (by rfl) T.b_enumerate (pa_cons (pe_op op_cat (pe_slice (sl_listK K) (pv 0) po_none (po_some pe_int)) (pe_lst (pa_cons pe_int pa_nil))) pa_nil)) (pg_tupK K (n := 2) rfl (pgs_cons (pg_name (i := 1) nd rfl (Or.inl rfl)) (pgs_cons (pg_name (i := 2) nd rfl (Or.inl rfl)) pgs_nil)))
      (pss_one (ps_for PassesOwn.never rfl (pi_listK K (pe_fn F__law_things hr (by decide) rfl (pa_cons (pe_fn F__law_state hr (by decide) rfl (pa_cons (pe_lst (pa_cons (pv 2) pa_nil)) (pa_cons (pv 1) pa_nil))) pa_nil))) (pg_name (i := 3) nd rfl (Or.inl rfl))
        (pss_cons (ps_set (i := 4) nd rfl (Or.inl rfl) (pe_lst (pa_cons (pe_fn F_is_name hr (by decide) rfl (pa_cons (pv 3) pa_nil)) (pa_cons (pe_fn F_is_place hr (by decide) rfl (pa_cons (pv 3) pa_nil)) (pa_cons (pe_fn F_is_cell hr (by decide) rfl (pa_cons (pv 3) pa_nil)) (pa_cons (pe_fn F_is_size hr (by decide) rfl (pa_cons (pv 3) pa_nil)) pa_nil))))))
        (pss_cons (ps_set (i := 5) nd rfl (Or.inl rfl) (pe_lst (pa_cons (pe_fn F__law_is_name hr (by decide) rfl (pa_cons (pv 3) pa_nil)) (pa_cons (pe_fn F__law_is_pair hr (by decide) rfl (pa_cons (pv 3) (pa_cons (pe_un un_neg pe_int) (pa_cons pe_int pa_nil)))) (pa_cons (pe_fn F__law_is_pair hr (by decide) rfl (pa_cons (pv 3) (pa_cons (pe_un un_neg pe_int) (pa_cons pe_int pa_nil)))) pa_nil)))))
        (pss_one (ps_if (PW.pt (pw_or (pt_cmpR (op_neDK K hr.units) (pv 4) (pe_op op_cat (pv 5) (pe_lst (pa_cons (pe_fn F__law_is_size hr (by decide) rfl (pa_cons (pv 3) pa_nil)) pa_nil))) (nomark _)) (pw_or1 (pt_not (pt_val (pe_callB (cr_allK K rfl) (by rfl) T.b_all (by decide +kernel) (pa_cons (pe_lc (own := [("_law_one", 7)]) (by rfl) nd (pi_listK K (pv 4)) (blkOk_by (own := [("_law_one", 7)]) (N := ["_law_script", "_law_k", "_law_cell", "_law_thing", "_law_found", "_law_due", "_law_costs", "_law_one", "_law_sign"]) (sc := (defScope s_law)) (by decide +kernel)) (fun _ _ _ _ _ => (pg_name (i := 7) nd rfl (Or.inl rfl))) (fun _ _ _ _ _ => pts_nil) (fun _ _ _ _ _ => (pe_callB (call_isiK' K) (by rfl) T.b_isinstance (by decide +kernel) (pa_cons (pv 7) (pa_cons (pe_bltn (v := .ty "bool") (by rfl) T.b_bool (by decide +kernel) rfl) pa_nil))))) pa_nil))))))) (pss_one (ps_ret pe_bl)) pss_nil)))))))
    (pss_cons (ps_setLc (i := 6) (own := [("_law_sign", 8)]) (by rfl) nd rfl rfl (sw_true rfl rfl rfl (by decide +kernel)) (pi_str pe_str) (blkOk_by (own := [("_law_sign", 8)]) (N := ["_law_script", "_law_k", "_law_cell", "_law_thing", "_law_found", "_law_due", "_law_costs", "_law_one", "_law_sign"]) (sc := (defScope s_law)) (by decide +kernel)) (fun _ _ _ _ _ => (pg_name (i := 8) nd rfl (Or.inl rfl))) (fun _ _ _ _ _ => pts_nil) (fun _ _ _ _ _ => (pe_fn F_cost_of hr (by decide) rfl (pa_cons (pv 8) pa_nil))))
    (pss_one (ps_ret (pe_and (pe_cmpR (op_eqDK K hr.units) (pv 6) (pe_lst (pa_cons pe_int (pa_cons pe_int (pa_cons pe_int (pa_cons pe_int pa_nil))))) (nomark _)) (pe_one (pe_callB (cr_allK K rfl) (by rfl) T.b_all (by decide +kernel) (pa_cons (pe_lc (own := [("_law_one", 7)]) (by rfl) nd (pi_listK K (pv 6)) (blkOk_by (own := [("_law_one", 7)]) (N := ["_law_script", "_law_k", "_law_cell", "_law_thing", "_law_found", "_law_due", "_law_costs", "_law_one", "_law_sign"]) (sc := (defScope s_law)) (by decide +kernel)) (fun _ _ _ _ _ => (pg_name (i := 7) nd rfl (Or.inl rfl))) (fun _ _ _ _ _ => pts_nil) (fun _ _ _ _ _ => (pe_fn F__law_whole hr (by decide) rfl (pa_cons (pv 7) pa_nil)))) pa_nil)))))))), ?_⟩
    obtain ⟨ms, hm0, hm1, hed⟩ := ed_script (K := K) (σ := L2.start ["_law_script", "_law_k", "_law_cell", "_law_thing", "_law_found", "_law_due", "_law_costs", "_law_one", "_law_sign"] [V.ref a]) (c := 4) hS hlen rfl
    refine for_imp (ei_enum (ea_cons hed ea_nil)) (Same.refl H) (Same.refl H) (fun i G1 H1 σ1 => ∃ x1 x2 x3 x4 x5, σ1 = [some (.ref a), x1, x2, x3, x4, x5, none, none, none]) (fun G1 H1 e => ⟨_, _, _, _, _, rfl⟩) ?_ ?_
    · rintro i G1 H1 σ1 x G2 H2 hi ⟨x1, x2, x3, x4, x5, rfl⟩ g1 e hx
      obtain ⟨c, hc⟩ := getD_int hi
      rw [hc] at hx
      rw [List.length_map] at hi
      refine eg_tup2 G2 H2 x e.gh hx _ fun σ2 hB => ?_
      obtain ⟨y1, y2, hy1, hy2, rfl⟩ := hB
      rw [dt_int hy1, dt_int hy2]
      -- the state, the things
      refine ⟨_, rfl, szn 1, fun l hl => ⟨_, rfl, _, _, rfl, fun p hp => ?_⟩⟩
      have e1 := Ext.new (M := []) (o := .lst [.int c]) e.gh hl
      have e2 := Ext.cell (M := []) (o := .dK (stD (.ref l) 0 0 (i : Nat))) e1.gh hp
      have st := st_new (K := K) (c := .ref l) (ns := [c]) (k := (i : Nat)) e1.gh hp (.lst upd_same (ints_dts [c])) (by simp) (by omega) (by omega)
      refine ⟨_, p, 0, [none], e2.gh, st, by decide, .cons .st .nil, rfl, fun v d G3 H3 e3 _ hv hR => ?_⟩
      obtain ⟨ds, rfl, hdl, hok⟩ := hR
      obtain ⟨b, xs, rfl, hbx, hxs⟩ := dt_list hv (Same.refl G3)
      have g13 : Same G1 G3 := e.gg.trans (e1.gg.trans e3.gg)
      refine ⟨b, rfl, ⟨xs, e3.gh.seq hbx⟩, loop_imp (dw_list hbx hxs) e3.gh (fun j G4 H4 σ4 => ∃ x3 x4 x5, σ4 = [some (.ref a), some (.int (i : Nat)), some (.int c), x3, x4, x5, none, none, none]) ⟨_, _, _, rfl⟩ ?_ ?_⟩
      · rintro j G4 H4 σ4 y G5 H5 hj ⟨x3, x4, x5, rfl⟩ g4 e5 hy
        have hokj : OkD (ds.getD j .none) := by
          rw [List.getD_eq_getElem?_getD, List.getElem?_eq_getElem hj]
          exact hok _ (List.getElem_mem hj)
        generalize ds.getD j .none = d at hy hokj
        -- the body is pure
        refine (es_set (R := fun _ => False) (N := fun G' σ' => ∃ x3 x4 x5, σ' = [some (.ref a), some (.int (i : Nat)), some (.int c), x3, x4, x5, none, none, none]) (ed_lst (ea_cons (ed_fn (ea_cons (ed_var rfl hy) ea_nil) ⟨d, rfl, hokj.small, rfl⟩) (ea_cons (ed_fn (ea_cons (ed_var rfl hy) ea_nil) ⟨d, rfl, rfl⟩) (ea_cons (ed_fn (ea_cons (ed_var rfl hy) ea_nil) ⟨d, rfl, rfl⟩) (ea_cons (ed_fn (ea_cons (ed_var rfl hy) ea_nil) ⟨d, rfl, rfl⟩) ea_nil))))) fun G6 x6 a6 h6 => ?_)
          G5 H5 (Same.refl G5) e5.gh _ (fun _ _ _ _ _ _ z => z.elim) fun σ' G7 H7 e7 hN => ⟨G7, e5.gg.trans e7.gg, e7.gh, hN⟩
        have hy6 := same_dt a6 hy
        refine es_set (ed_lst (ea_cons (ed_fn (ea_cons (ed_var rfl hy6) ea_nil) ⟨d, rfl, hokj, rfl⟩) (ea_cons (ed_fn (ea_cons (ed_var rfl hy6) (ea_cons (ed_un ed_int) (ea_cons ed_int ea_nil))) ⟨d, _, _, rfl, rfl⟩) (ea_cons (ed_fn (ea_cons (ed_var rfl hy6) (ea_cons (ed_un ed_int) (ea_cons ed_int ea_nil))) ⟨d, _, _, rfl, rfl⟩) ea_nil)))) fun G7 x7 a7 h7 => ?_
        have hy7 := same_dt a7 hy6
        have ef : [PyData.bool (isName d), .bool (areAmong d (-1000) 1000), .bool (areAmong d (-12000) 12011), .bool (isAmong d 2 12)] = [isName d, areAmong d (-1000) 1000, areAmong d (-12000) 12011, isAmong d 2 12].map PyData.bool := rfl
        have eo : outs 4 (fun _ => true) (fun _ => PyData.bool true) = [true, true, true, true].map PyData.bool := rfl
        refine es_if (b := false) (ET.to (et_or (b := false) (et_test (ED.to (ed_op (ed_var rfl (same_dt a7 h6)) (ed_op (ed_var rfl h7) (ed_lst (ea_cons (ed_fn (ea_cons (ed_var rfl hy7) ea_nil) ⟨d, rfl, rfl⟩) ea_nil)) (r2_cat (by show 3 + 1 ≤ 10000; decide))) (r2_neD (sh_bools [_, _, _, _]) (sh_bools [_, _, _, _]))) (congrArg PyData.bool (congrArg (!·) (eqv_bools [_, _, _, _]))))) fun hb =>
          (et_not (et_B (ed_cb (ea_cons (ED.to (ed_lc (p := fun _ => true) (h := fun _ => .bool true) (ei_list (ed_var rfl (same_dt a7 h6))) (by show 4 < 100000; decide) (fun _ _ => eg_name) (fun i G1 σ2 hi hB => by obtain ⟨x0, hx0, rfl⟩ := hB; rfl) (fun i G1 σ2 hi a1 hB => et_yes) (fun i G1 σ2 hi a1 hB hp => by
            obtain ⟨x0, hx0, rfl⟩ := hB
            have hi4 : i < 4 := hi
            have : ∃ b : Bool, [PyData.bool (isName d), .bool (areAmong d (-1000) 1000), .bool (areAmong d (-12000) 12011), .bool (isAmong d 2 12)].getD i .none = .bool b := by
              match i, hi4 with
              | 0, _ => exact ⟨_, rfl⟩
              | 1, _ => exact ⟨_, rfl⟩
              | 2, _ => exact ⟨_, rfl⟩
              | 3, _ => exact ⟨_, rfl⟩
            obtain ⟨b, hb⟩ := this
            have hx0' : Dt K G1 x0 ([PyData.bool (isName d), .bool (areAmong d (-1000) 1000), .bool (areAmong d (-12000) 12011), .bool (isAmong d 2 12)].getD i .none) := hx0
            rw [hb] at hx0'
            exact (ed_isi (ed_var rfl hx0') (by kernel_rfl)))) (congrArg PyData.list eo)) ea_nil) cb_all)))) rfl) (fun hb => Bool.noConfusion hb) (fun hb => es_next fun G8 a8 => ⟨_, _, _, rfl⟩)
      · rintro G4 H4 σ4 g4 gh4 ⟨x3, x4, x5, rfl⟩
        exact ⟨G4, g13.trans g4, gh4, _, _, _, _, _, rfl⟩
    · rintro G1 H1 σ1 g1 gh ⟨x1, x2, x3, x4, x5, rfl⟩
      have eo : outs GROUNDS.cps.size (fun _ => true) (fun i => PyData.int (1 + (i : Nat))) = [(1 : Int), 2, 3, 4].map PyData.int := by kernel_rfl
      have eb : outs 4 (fun _ => true) (fun i => PyData.bool (isInt (([(1 : Int), 2, 3, 4].map PyData.int).getD i .none))) = [true, true, true, true].map PyData.bool := rfl
      refine (es_set (R := fun d => d = .bool true) (N := fun _ _ => False) (ED.to (ed_lc (p := fun _ => true) (h := fun i => .int (1 + (i : Nat))) (ei_str ed_str) (by decide +kernel) (fun _ _ => eg_name) (fun i G1 σ2 hi hB => by obtain ⟨x0, hx0, rfl⟩ := hB; rfl) (fun i G1 σ2 hi a1 hB => et_yes) (fun i G1 σ2 hi a1 hB hp => by
          obtain ⟨x0, hx0, rfl⟩ := hB
          have hi4 : i < 4 := hi
          have ew := gr_at ⟨i, hi4⟩
          have hx0' : Dt K G1 x0 (.str (sg (grc ⟨i, hi4⟩))) := by rw [← ew]; exact hx0
          exact (ed_fn (ea_cons (ed_var rfl hx0') ea_nil) ⟨⟨i, hi4⟩, rfl, rfl⟩))) (congrArg PyData.list eo)) fun G3 x3 a3 h3 => ?_) G1 H1 (Same.refl G1) gh _ (fun v d G2 H2 e hv hd => ?_) fun _ _ _ _ z => z.elim
      · refine es_ret (ed_and (ed_op (ed_var rfl h3) (ed_lst (ea_cons ed_int (ea_cons ed_int (ea_cons ed_int (ea_cons ed_int ea_nil))))) (r2_eqD (by kernel_rfl) (by kernel_rfl))) fun hb => (ed_cb (ea_cons (ED.to (ed_lc (p := fun _ => true) (ei_list (ed_var rfl h3)) (by decide) (fun _ _ => eg_name) (fun i G1 σ2 hi hB => by obtain ⟨x0, hx0, rfl⟩ := hB; rfl) (fun i G1 σ2 hi a1 hB => et_yes) (fun i G1 σ2 hi a1 hB hp => by obtain ⟨x0, hx0, rfl⟩ := hB; exact (ed_fn (ea_cons (ed_var rfl hx0) ea_nil) ⟨_, rfl, rfl⟩))) (congrArg PyData.list eb)) ea_nil) cb_all)) ?_
        rfl
      · subst hd
        rw [dt_bool hv]
        exact k H2
end

theorem all_mk {l : PySem.W.OpenLaw} {w : World} {K : PySem.W.Frag} {h : Heap} {mg : Str → Option Value} {fa : Addr} {u_FAR u_GROUNDS u_LEAST_CELL u_LEAST_SIZE u_LETTERS u_MOST_CELL u_MOST_SIGNS u_MOST_SIZE : Value} (X : K.In h) (G : h.Ns mainGlobals mg) (hfa : mg "law" = some (.ref fa))
    (d_is_among : DefIn K "is_among" s_is_among)
    (d_are_among : DefIn K "are_among" s_are_among)
    (d_is_name : DefIn K "is_name" s_is_name)
    (d_is_place : DefIn K "is_place" s_is_place)
    (d_is_cell : DefIn K "is_cell" s_is_cell)
    (d_is_size : DefIn K "is_size" s_is_size)
    (d_cost_of : DefIn K "cost_of" s_cost_of)
    (d__law_mixed : DefIn K "_law_mixed" s__law_mixed)
    (d__law_state : DefIn K "_law_state" s__law_state)
    (d__law_take : DefIn K "_law_take" s__law_take)
    (d__law_whole : DefIn K "_law_whole" s__law_whole)
    (d__law_name : DefIn K "_law_name" s__law_name)
    (d__law_odd : DefIn K "_law_odd" s__law_odd)
    (d__law_bound : DefIn K "_law_bound" s__law_bound)
    (d__law_pair : DefIn K "_law_pair" s__law_pair)
    (d__law_is_pair : DefIn K "_law_is_pair" s__law_is_pair)
    (d__law_is_name : DefIn K "_law_is_name" s__law_is_name)
    (d__law_is_size : DefIn K "_law_is_size" s__law_is_size)
    (d__law_things : DefIn K "_law_things" s__law_things)
    (d_law : DefIn K "law" s_law)
    (b_all : PySem.W.nsIn K mainGlobals "all" = some none)
    (b_bool : PySem.W.nsIn K mainGlobals "bool" = some none)
    (b_enumerate : PySem.W.nsIn K mainGlobals "enumerate" = some none)
    (b_int : PySem.W.nsIn K mainGlobals "int" = some none)
    (b_isinstance : PySem.W.nsIn K mainGlobals "isinstance" = some none)
    (b_len : PySem.W.nsIn K mainGlobals "len" = some none)
    (b_list : PySem.W.nsIn K mainGlobals "list" = some none)
    (b_range : PySem.W.nsIn K mainGlobals "range" = some none)
    (b_str : PySem.W.nsIn K mainGlobals "str" = some none)
    (b_tuple : PySem.W.nsIn K mainGlobals "tuple" = some none)
    (g_FAR : PySem.W.nsIn K mainGlobals "FAR" = some (some u_FAR)) (r_FAR : RelV (.int (1000)) u_FAR)
    (g_GROUNDS : PySem.W.nsIn K mainGlobals "GROUNDS" = some (some u_GROUNDS)) (r_GROUNDS : RelV (.str ".t~^") u_GROUNDS)
    (g_LEAST_CELL : PySem.W.nsIn K mainGlobals "LEAST_CELL" = some (some u_LEAST_CELL)) (r_LEAST_CELL : RelV (.int (-12000)) u_LEAST_CELL)
    (g_LEAST_SIZE : PySem.W.nsIn K mainGlobals "LEAST_SIZE" = some (some u_LEAST_SIZE)) (r_LEAST_SIZE : RelV (.int (2)) u_LEAST_SIZE)
    (g_LETTERS : PySem.W.nsIn K mainGlobals "LETTERS" = some (some u_LETTERS)) (r_LETTERS : RelV (.str "abcdefghijklmnopqrstuvwxyz") u_LETTERS)
    (g_MOST_CELL : PySem.W.nsIn K mainGlobals "MOST_CELL" = some (some u_MOST_CELL)) (r_MOST_CELL : RelV (.int (12011)) u_MOST_CELL)
    (g_MOST_SIGNS : PySem.W.nsIn K mainGlobals "MOST_SIGNS" = some (some u_MOST_SIGNS)) (r_MOST_SIGNS : RelV (.int (12)) u_MOST_SIGNS)
    (g_MOST_SIZE : PySem.W.nsIn K mainGlobals "MOST_SIZE" = some (some u_MOST_SIZE)) (r_MOST_SIZE : RelV (.int (12)) u_MOST_SIZE) :
    ∃ fd : FuncData, (∀ (s : Shared) (v : Value), BindsTo s fd ⟨[v], []⟩ [("_law_script", v)]) ∧ ∀ base : Heap, K.In base → base.Ns mainGlobals mg → FnOk l.prog w K mg base CX0 6 fa fd ["_law_script"] (spLaw K) := by
  have T : Txt mg := ⟨PySem.W.mg_none_of X G b_all, PySem.W.mg_none_of X G b_bool, PySem.W.mg_none_of X G b_enumerate, PySem.W.mg_none_of X G b_int, PySem.W.mg_none_of X G b_isinstance, PySem.W.mg_none_of X G b_len, PySem.W.mg_none_of X G b_list, PySem.W.mg_none_of X G b_range, PySem.W.mg_none_of X G b_str, PySem.W.mg_none_of X G b_tuple, gv_mk X G g_FAR r_FAR, gv_mk X G g_GROUNDS r_GROUNDS, gv_mk X G g_LEAST_CELL r_LEAST_CELL, gv_mk X G g_LEAST_SIZE r_LEAST_SIZE, gv_mk X G g_LETTERS r_LETTERS, gv_mk X G g_MOST_CELL r_MOST_CELL, gv_mk X G g_MOST_SIGNS r_MOST_SIGNS, gv_mk X G g_MOST_SIZE r_MOST_SIZE⟩
  have D_is_among := d_is_among.fn X G
  have D_are_among := d_are_among.fn X G
  have D_is_name := d_is_name.fn X G
  have D_is_place := d_is_place.fn X G
  have D_is_cell := d_is_cell.fn X G
  have D_is_size := d_is_size.fn X G
  have D_cost_of := d_cost_of.fn X G
  have D__law_mixed := d__law_mixed.fn X G
  have D__law_state := d__law_state.fn X G
  have D__law_take := d__law_take.fn X G
  have D__law_whole := d__law_whole.fn X G
  have D__law_name := d__law_name.fn X G
  have D__law_odd := d__law_odd.fn X G
  have D__law_bound := d__law_bound.fn X G
  have D__law_pair := d__law_pair.fn X G
  have D__law_is_pair := d__law_is_pair.fn X G
  have D__law_is_name := d__law_is_name.fn X G
  have D__law_is_size := d__law_is_size.fn X G
  have D__law_things := d__law_things.fn X G
  have D_law := d_law.fn X G
  refine end_mk D_law hfa (fun _ _ _ _ _ _ _ => rfl) fun fd F base => ?_
  have h_mixed := ok_mixed (P := l.prog) (w := w) (base := base) D__law_mixed
  have h_state := ok_state (P := l.prog) (w := w) (base := base) D__law_state
  have h_take := ok_take (P := l.prog) (w := w) (base := base) D__law_take T h_mixed
  have h_whole := ok_whole (P := l.prog) (w := w) (base := base) D__law_whole T
  have h_is_among := ok_is_among (P := l.prog) (w := w) (base := base) D_is_among T
  have h_are_among := ok_are_among (P := l.prog) (w := w) (base := base) D_are_among T h_is_among
  have h_is_name := ok_is_name (P := l.prog) (w := w) (base := base) D_is_name T
  have h_is_place := ok_is_place (P := l.prog) (w := w) (base := base) D_is_place T h_are_among
  have h_is_cell := ok_is_cell (P := l.prog) (w := w) (base := base) D_is_cell T h_are_among
  have h_is_size := ok_is_size (P := l.prog) (w := w) (base := base) D_is_size T h_is_among
  have h_odd := ok_odd (P := l.prog) (w := w) (base := base) D__law_odd h_take
  have h_bound := ok_bound (P := l.prog) (w := w) (base := base) D__law_bound h_take
  have h_pair := ok_pair (P := l.prog) (w := w) (base := base) D__law_pair T h_take h_bound h_odd
  have h_name := ok_name (P := l.prog) (w := w) (base := base) D__law_name T h_take
  have h_is_pair := ok_is_pair (P := l.prog) (w := w) (base := base) D__law_is_pair T h_whole
  have h_is_size2 := ok_is_size2 (P := l.prog) (w := w) (base := base) D__law_is_size T h_whole
  have h_is_name2 := ok_is_name2 (P := l.prog) (w := w) (base := base) D__law_is_name T
  have h_things := ok_things (P := l.prog) (w := w) (base := base) D__law_things T h_take h_name h_pair h_odd
  have h_cost := ok_cost_of (P := l.prog) (w := w) (base := base) D_cost_of T
  exact ok_law F T h_state h_things h_is_name h_is_place h_is_cell h_is_size h_is_name2 h_is_pair h_is_size2 h_whole h_cost

theorem walk {l : PySem.W.OpenLaw} {q : Program} {loose : List Str} {XP : (Str → Option Value) → Heap → Prop} {YP : World → Heap → Prop} {d : DefRec} {K : Params → PySem.W.Frag} (hn : l.most = some 63) (hdf : d.params.defaults = [])
    (hY : ∀ (w : World) (h : Heap), YP w h → (K w.params).In h)
    (F : ∀ (w : World) (mg : Str → Option Value) (fa : Addr) (h : Heap), (K w.params).In h → h.Ns mainGlobals mg → mg d.name = some (.ref fa) →
      ∃ fd : FuncData, (∀ (s : Shared) (u : Value), BindsTo s fd ⟨[u], []⟩ [("_law_script", u)]) ∧ ∀ base : Heap, (K w.params).In base → base.Ns mainGlobals mg → FnOk l.prog w (K w.params) mg base CX0 6 fa fd ["_law_script"] (spLaw (K w.params))) :
    PySem.W.WalkO q loose XP YP l.row.toRowW d [] (fun f vs => PySem.call f vs) :=
  L2.walk_of (n := 63) (k := 6) (x := "_law_script") (CX := fun _ => CX0) (sp := fun w => spLaw (K w.params)) hn (by decide) hdf ⟨rfl, by decide, by decide⟩ hY F (fun _ _ a ns hl _ hS => ⟨a, ns, rfl, hS, hl, fun _ => rfl⟩) fun _ _ _ _ _ z => z
end S
open PySem PySem.W PyProof.Rows
set_option maxRecDepth 100000 in
set_option maxHeartbeats 0 in
theorem PySem.Challenge.cw_sheetland_k02_names_places_cells_sizes_holds : PySem.Challenge.rw_sheetland_k02_names_places_cells_sizes.Holds := by
  w_on; o_law; k_head; (case hw => w_witness2)
  k_fill
  refine S.walk (l := PySem.Challenge.rw_sheetland_k02_names_places_cells_sizes) rfl rfl (fun w h Y => PySem.W.kIn_of Y) ?F
  case F =>
    intro w mg fa h KX G hmg
    refine' S.all_mk KX G hmg ?d_is_among ?d_are_among ?d_is_name ?d_is_place ?d_is_cell ?d_is_size ?d_cost_of ?d__law_mixed ?d__law_state ?d__law_take ?d__law_whole ?d__law_name ?d__law_odd ?d__law_bound ?d__law_pair ?d__law_is_pair ?d__law_is_name ?d__law_is_size ?d__law_things ?d_law ?b_all ?b_bool ?b_enumerate ?b_int ?b_isinstance ?b_len ?b_list ?b_range ?b_str ?b_tuple ?g_FAR ?r_FAR ?g_GROUNDS ?r_GROUNDS ?g_LEAST_CELL ?r_LEAST_CELL ?g_LEAST_SIZE ?r_LEAST_SIZE ?g_LETTERS ?r_LETTERS ?g_MOST_CELL ?r_MOST_CELL ?g_MOST_SIGNS ?r_MOST_SIGNS ?g_MOST_SIZE ?r_MOST_SIZE
    (case d_is_among => (refine' S.def_mk ?a ?l ?c ?k; (case a => k_is); (case l => k_is); (case c => k_is); (case k => k_is)))
    (case d_are_among => (refine' S.def_mk ?a ?l ?c ?k; (case a => k_is); (case l => k_is); (case c => k_is); (case k => k_is)))
    (case d_is_name => (refine' S.def_mk ?a ?l ?c ?k; (case a => k_is); (case l => k_is); (case c => k_is); (case k => k_is)))
    (case d_is_place => (refine' S.def_mk ?a ?l ?c ?k; (case a => k_is); (case l => k_is); (case c => k_is); (case k => k_is)))
    (case d_is_cell => (refine' S.def_mk ?a ?l ?c ?k; (case a => k_is); (case l => k_is); (case c => k_is); (case k => k_is)))
    (case d_is_size => (refine' S.def_mk ?a ?l ?c ?k; (case a => k_is); (case l => k_is); (case c => k_is); (case k => k_is)))
    (case d_cost_of => (refine' S.def_mk ?a ?l ?c ?k; (case a => k_is); (case l => k_is); (case c => k_is); (case k => k_is)))
    (case d__law_mixed => (refine' S.def_mk ?a ?l ?c ?k; (case a => k_is); (case l => k_is); (case c => k_is); (case k => k_is)))
    (case d__law_state => (refine' S.def_mk ?a ?l ?c ?k; (case a => k_is); (case l => k_is); (case c => k_is); (case k => k_is)))
    (case d__law_take => (refine' S.def_mk ?a ?l ?c ?k; (case a => k_is); (case l => k_is); (case c => k_is); (case k => k_is)))
    (case d__law_whole => (refine' S.def_mk ?a ?l ?c ?k; (case a => k_is); (case l => k_is); (case c => k_is); (case k => k_is)))
    (case d__law_name => (refine' S.def_mk ?a ?l ?c ?k; (case a => k_is); (case l => k_is); (case c => k_is); (case k => k_is)))
    (case d__law_odd => (refine' S.def_mk ?a ?l ?c ?k; (case a => k_is); (case l => k_is); (case c => k_is); (case k => k_is)))
    (case d__law_bound => (refine' S.def_mk ?a ?l ?c ?k; (case a => k_is); (case l => k_is); (case c => k_is); (case k => k_is)))
    (case d__law_pair => (refine' S.def_mk ?a ?l ?c ?k; (case a => k_is); (case l => k_is); (case c => k_is); (case k => k_is)))
    (case d__law_is_pair => (refine' S.def_mk ?a ?l ?c ?k; (case a => k_is); (case l => k_is); (case c => k_is); (case k => k_is)))
    (case d__law_is_name => (refine' S.def_mk ?a ?l ?c ?k; (case a => k_is); (case l => k_is); (case c => k_is); (case k => k_is)))
    (case d__law_is_size => (refine' S.def_mk ?a ?l ?c ?k; (case a => k_is); (case l => k_is); (case c => k_is); (case k => k_is)))
    (case d__law_things => (refine' S.def_mk ?a ?l ?c ?k; (case a => k_is); (case l => k_is); (case c => k_is); (case k => k_is)))
    (case d_law => (refine' S.def_mk ?a ?l ?c ?k; (case a => k_is); (case l => k_is); (case c => k_is); (case k => k_is)))
    (case b_all => k_is)
    (case b_bool => k_is)
    (case b_enumerate => k_is)
    (case b_int => k_is)
    (case b_isinstance => k_is)
    (case b_len => k_is)
    (case b_list => k_is)
    (case b_range => k_is)
    (case b_str => k_is)
    (case b_tuple => k_is)
    (case g_FAR => k_is)
    (case r_FAR => exact ⟨_, rfl⟩)
    (case g_GROUNDS => k_is)
    (case r_GROUNDS => exact ⟨_, rfl⟩)
    (case g_LEAST_CELL => k_is)
    (case r_LEAST_CELL => exact ⟨_, rfl⟩)
    (case g_LEAST_SIZE => k_is)
    (case r_LEAST_SIZE => exact ⟨_, rfl⟩)
    (case g_LETTERS => k_is)
    (case r_LETTERS => exact ⟨_, rfl⟩)
    (case g_MOST_CELL => k_is)
    (case r_MOST_CELL => exact ⟨_, rfl⟩)
    (case g_MOST_SIGNS => k_is)
    (case r_MOST_SIGNS => exact ⟨_, rfl⟩)
    (case g_MOST_SIZE => k_is)
    (case r_MOST_SIZE => exact ⟨_, rfl⟩)
