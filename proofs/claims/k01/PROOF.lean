import PyProof.Rows.All
import Wide.All
import OpenK.AllK
import Wide.FinOn
import HandS.ForMost
import HandS.ForExc
import HandS.Flow
import HandS.IsInst
import HandS.StrMore
import HandS.Replace
import HandS.FStr
import HandS.TupAny
import HandS.Walk
import PySem.Challenge.RW_sheetland_k01_ways_and_signs
set_option Elab.async false
set_option maxRecDepth 100000
set_option linter.all false
namespace S
open PySem L2

/-! ### names of the module -/
/-- the module's name x holds v -/
def GV (mg : Str → Option Value) (x : Str) (v : V) : Prop := ∃ u, mg x = some u ∧ RelV v u
theorem pe_gl {X : Cx} {x : Str} {v : V} {pos : Pos} (hg : Gl X x) (h : GV X.mg x v) (hd : (x == ("__debug__" : Str)) = false := by decide) : PE X (.Name x pos) (tC v) := by
  obtain ⟨u, hm, r⟩ := h
  exact pe_glob hg hm r hd

/-! ### a def that stands in the text and keeps its promise -/
def Has (P : Program) (w : World) (K : PySem.W.Frag) (mg : Str → Option Value) (base : Heap) (CX : CXT) (k : Nat) (x : Str) (ps : List Str) (sp : Sp) : Prop :=
  ∃ (f : Addr) (fd : FuncData), FnOk P w K mg base CX k f fd ps sp ∧ mg x = some (.ref f) ∧ PySem.W.keepIn K (.ref f) = true ∧ Binds K fd ps []
theorem pe_fn {X : Cx} {j k : Nat} {x : Str} {ps : List Str} {sp : Sp} {e : Expr} {es : List Expr} {t : TA} {p pos : Pos} (h : Has X.prog X.w X.K X.mg X.base CX0 k x ps sp) (hr : Room j X.A) (hk : k ≤ j) (hg : Gl X x) (ha : PA X (e :: es) t)
    (hdb : (x == ("__debug__" : Str)) = false := by decide) (he : starEach (e :: es) X.env = (false, eval e X.env) :: starEach es X.env := by rfl) (hpl : (backTo pos (starEach es X.env)).any (·.1) = false := by rfl) :
    PE X (.Call (.Name x p) (e :: es) [] pos) (tCall sp [] E0 t) := by
  obtain ⟨f, fd, G, hm, kp, b⟩ := h
  exact pe_call G (hr.mono hk) hg hm kp b .nil pass0 ha hdb he hpl
theorem pe_fn0 {X : Cx} {j k : Nat} {x : Str} {ps : List Str} {sp : Sp} {p pos : Pos} (h : Has X.prog X.w X.K X.mg X.base CX0 k x ps sp) (hr : Room j X.A) (hk : k ≤ j) (hg : Gl X x)
    (hdb : (x == ("__debug__" : Str)) = false := by decide) : PE X (.Call (.Name x p) [] [] pos) (tCall sp [] E0 tNil) := by
  obtain ⟨f, fd, G, hm, kp, b⟩ := h
  exact pe_call0 G (hr.mono hk) hg hm kp b .nil pass0 hdb

/-- a def of the text, as the top has left it -/
def DefIn (K : PySem.W.Frag) (x : Str) (st : Stmt) : Prop := ∃ (f : Addr) (fd : FuncData), Fun K x x st f fd ∧ PySem.W.nsIn K mainGlobals x = some (some (.ref f))
theorem def_mk {K : PySem.W.Frag} {x : Str} {st : Stmt} {f : Addr} {oc : Value} {od an : Option Addr} {osl : Array (Option Value)} {kV doc pm cdv ct : Value} (a : PySem.W.nsIn K mainGlobals x = some (some (.ref f)))
    (l : K.lookup f = some ⟨oc, od, .func (PySem.W.fnOf x x (defArgs st) (defBody st) (defScope st) .none kV doc pm an cdv ct), osl⟩) (c : PySem.W.codeIn K cdv x = true) (k : PySem.W.keepIn K (.ref f) = true) : DefIn K x st := ⟨f, _, fun_mk l c k, a⟩
/-- the def as a module's function -/
structure FnIn (K : PySem.W.Frag) (mg : Str → Option Value) (x : Str) (st : Stmt) : Prop where
  ex : ∃ (f : Addr) (fd : FuncData), Fun K x x st f fd ∧ mg x = some (.ref f)
theorem DefIn.fn {K : PySem.W.Frag} {x : Str} {st : Stmt} {h : Heap} {mg : Str → Option Value} (d : DefIn K x st) (X : K.In h) (G : h.Ns mainGlobals mg) : FnIn K mg x st := by
  obtain ⟨f, fd, F, a⟩ := d
  exact ⟨f, fd, F, PySem.W.mg_of X G a⟩
section
variable {P : Program} {w : World} {K : PySem.W.Frag} {mg : Str → Option Value} {base : Heap}
theorem FnIn.ok {x : Str} {st : Stmt} {N ps : List Str} {k : Nat} {sp : Sp} (F : FnIn K mg x st) (S : FnScope N ps (defScope st)) (len : ∀ vs H Q E, sp vs H Q E → vs.length = ps.length)
    (hb : ∀ (kV doc pm : Value) (an : Option Addr) (cdv ct : Value) (us : List Value), us.length = ps.length → bindArgs (PySem.W.fnOf x x (defArgs st) (defBody st) (defScope st) .none kV doc pm an cdv ct) ⟨us, []⟩ = pure (ps.zip us))
    (hbody : ∀ (f : Addr) (cdv : Value) (A : Around) (outer : List Env) (s : Shared) (H : Hp) (vs : List V) (Q : VK) (E : XK), Room k (A.deeper (PyProof.Rows.envOfC x (defScope st) s.heap.objs.size f cdv)) → sp vs H Q E →
      ∃ t, PSs (cxOf CX0 P w K mg base N x (defScope st) f cdv A outer s H E).nox (defBody st) t ∧ t { nx := fun _ H' => Q .non H', rt := Q } (start N vs) H) : Has P w K mg base CX0 (k + 1) x ps sp := by
  obtain ⟨f, fd, F, hm⟩ := F.ex
  exact ⟨f, fd, F.ok S len (hbody f), hm, F.kp, F.binds hb⟩
end

/-! ### the law's end -/
theorem end_mk {P : Program} {w : World} {K : PySem.W.Frag} {mg : Str → Option Value} {x : Str} {st : Stmt} {fa : Addr} {y : Str} {k : Nat} {CX : CXT} {sp : Sp} (F : FnIn K mg x st) (hfa : mg x = some (.ref fa))
    (hb : ∀ (kV doc pm : Value) (an : Option Addr) (cdv ct : Value) (v : Value), bindArgs (PySem.W.fnOf x x (defArgs st) (defBody st) (defScope st) .none kV doc pm an cdv ct) ⟨[v], []⟩ = pure [(y, v)])
    (ok : ∀ (fd : FuncData), Fun K x x st fa fd → ∀ base : Heap, FnOk P w K mg base CX k fa fd [y] sp) :
    ∃ fd : FuncData, (∀ (s : Shared) (v : Value), BindsTo s fd ⟨[v], []⟩ [(y, v)]) ∧ ∀ base : Heap, K.In base → base.Ns mainGlobals mg → FnOk P w K mg base CX k fa fd [y] sp := by
  obtain ⟨f, fd, F, hm⟩ := F.ex
  have e := hfa.symm.trans hm
  cases e
  refine ⟨fd, fun s v => ?_, fun base _ _ => ok fd F base⟩
  obtain ⟨oc, od, kV, doc, pm, an, cdv, ct, osl, rfl, lk, hcd⟩ := F.ex
  exact .of_eq (hb kV doc pm an cdv ct v)
theorem gv_mk {K : PySem.W.Frag} {h : Heap} {mg : Str → Option Value} {x : Str} {v : V} {u : Value} (X : K.In h) (G : h.Ns mainGlobals mg) (a : PySem.W.nsIn K mainGlobals x = some (some u)) (r : RelV v u) : GV mg x v := ⟨u, PySem.W.mg_of X G a, r⟩

/-! ### a statement, then the rest, with a word between them -/
def tCut (t u : TS) : TS := fun D σ H => ∃ Mid : St → Hp → Prop, t { D with nx := Mid } σ H ∧ ∀ σ' H', Mid σ' H' → u D σ' H'
theorem pss_cut {X : Cx} {st : Stmt} {rest : List Stmt} {t u : TS} (h1 : PS X st t) (h2 : PSs X rest u) : PSs X (st :: rest) (tCut t u) := by
  refine ⟨fun pins s σ H D I h => ?_⟩
  obtain ⟨Mid, hm, hu⟩ := h
  refine wpAny_execs_cons (thn (h1.run pins s σ H { D with nx := Mid } I hm) fun f s1 q => ?_)
  cases f with
  | next =>
    obtain ⟨σ', H', I', q⟩ := q
    exact h2.run pins s1 σ' H' D I' (hu σ' H' q)
  | ret v => exact q
  | brk => exact q
  | cont => exact q
abbrev ks (x : Str) : Key := Sum.inr x
theorem dget {H : Hp} {a : Addr} {kvs : List (Key × V)} {x : Str} {v : V} (h : H a = some (.dK kvs)) (e : valV kvs (ks x) = some v) : DGet H a (.str x) (some v) := by
  have q := DGet.k (k := ks x) h
  rw [e] at q
  exact q
theorem dput {H : Hp} {a : Addr} {kvs kvs' : List (Key × V)} {x : Str} {v : V} (h : H a = some (.dK kvs)) (hl : kvs.length < sizeLine) (e : putK kvs (ks x) v = kvs') : DPut H a (.str x) v (upd H a (.dK kvs')) := by
  have q := DPut.k (k := ks x) (v := v) h hl
  rw [e] at q
  exact q
/-- the tests' answer is known -/
theorem ite_pos {c : Bool} {A B : Prop} (e : c = true) (h : A) : if c = true then A else B := by rw [if_pos e]; exact h
theorem ite_neg {c : Bool} {A B : Prop} (e : c = false) (h : B) : if c = true then A else B := by rw [if_neg (by rw [e]; decide)]; exact h
theorem ite_both {c : Bool} {A B : Prop} (h1 : c = true → A) (h2 : c = false → B) : if c = true then A else B := by
  cases c with
  | true => exact iteT (h1 rfl)
  | false => exact iteF (h2 rfl)
theorem szn (n : Nat) (h : n ≤ 1000 := by decide) : n ≤ sizeLine := Nat.le_trans h (by decide)
theorem szt (n : Nat) (h : n < 1000 := by decide) : n < sizeLine := Nat.lt_of_lt_of_le h (by decide)
/-! ### items by place -/
theorem atI_in {α : Type} {xs : List α} {i : Int} (h0 : 0 ≤ i) (h1 : i < (xs.length : Int)) : ∃ x, atI xs i = some x ∧ xs[i.toNat]? = some x := by
  have hl : i.toNat < xs.length := by omega
  refine ⟨xs[i.toNat], ?_, by simp [hl]⟩
  have e : ((i.toNat : Nat) : Int) = i := Int.toNat_of_nonneg h0
  have q := atI_nat (xs := xs) (j := i.toNat) (v := xs[i.toNat]) (by simp [hl])
  rw [e] at q
  exact q

/-- a written list, item by item -/
theorem atI0 {α : Type} {a : α} {l : List α} : atI (a :: l) 0 = some a := atI_nat (j := 0) rfl
theorem atI1 {α : Type} {a b : α} {l : List α} : atI (a :: b :: l) 1 = some b := atI_nat (j := 1) rfl
theorem atI2 {α : Type} {a b c : α} {l : List α} : atI (a :: b :: c :: l) 2 = some c := atI_nat (j := 2) rfl
theorem atI3 {α : Type} {a b c d : α} {l : List α} : atI (a :: b :: c :: d :: l) 3 = some d := atI_nat (j := 3) rfl

/-! ### heaps -/
theorem same_new {H : Hp} {p : Addr} {o : HO} (h : H p = none) : Same H (upd H p o) := fun a u e => by
  rw [upd_ne (ne_of_none e h)]
  exact e
theorem same_tup {K : PySem.W.Frag} {H H' : Hp} {a : Addr} {xs : List V} (e : Same H H') (h : SqT K H a xs) : SqT K H' a xs := by
  rcases h with (h | ⟨o, h⟩) | h
  · exact .inl (.inl (e _ _ h))
  · exact .inl (.inr ⟨o, e _ _ h⟩)
  · exact .inr h
/-! ### data: what stands at a value, by its kind; dicts with int and text keys too -/
def keyD : Key → PyData
  | .inl i => .int i
  | .inr x => .str x
mutual
inductive Dt (K : PySem.W.Frag) (G : Hp) : V → PyData → Prop
  | non : Dt K G .non .none
  | bl (b : Bool) : Dt K G (.bl b) (.bool b)
  | int (i : Int) : Dt K G (.int i) (.int i)
  | str (x : Str) : Dt K G (.str x) (.str x)
  | lst {a : Addr} {xs : List V} {ds : List PyData} : SqL K G a xs → DtAll K G xs ds → Dt K G (.ref a) (.list ds)
  | tup {a : Addr} {xs : List V} {ds : List PyData} : SqT K G a xs → DtAll K G xs ds → Dt K G (.ref a) (.tuple ds)
  | dct {a : Addr} {kvs : List (Key × V)} {ds : List (PyData × PyData)} : G a = some (.dK kvs) → DtKvs K G kvs ds → Dt K G (.ref a) (.dict ds)
inductive DtAll (K : PySem.W.Frag) (G : Hp) : List V → List PyData → Prop
  | nil : DtAll K G [] []
  | cons {v : V} {vs : List V} {d : PyData} {ds : List PyData} : Dt K G v d → DtAll K G vs ds → DtAll K G (v :: vs) (d :: ds)
inductive DtKvs (K : PySem.W.Frag) (G : Hp) : List (Key × V) → List (PyData × PyData) → Prop
  | nil : DtKvs K G [] []
  | cons {k : Key} {v : V} {vs : List (Key × V)} {d : PyData} {ds : List (PyData × PyData)} : Dt K G v d → DtKvs K G vs ds → DtKvs K G ((k, v) :: vs) ((keyD k, d) :: ds)
end
mutual
theorem same_dt {K : PySem.W.Frag} {H H' : Hp} (e : Same H H') : ∀ {v : V} {d : PyData}, Dt K H v d → Dt K H' v d
  | _, _, .non => .non
  | _, _, .bl b => .bl b
  | _, _, .int i => .int i
  | _, _, .str x => .str x
  | _, _, .lst h hs => .lst (e.seq h) (same_dts e hs)
  | _, _, .tup h hs => .tup (same_tup e h) (same_dts e hs)
  | _, _, .dct h hs => .dct (e _ _ h) (same_dtk e hs)
theorem same_dts {K : PySem.W.Frag} {H H' : Hp} (e : Same H H') : ∀ {vs : List V} {ds : List PyData}, DtAll K H vs ds → DtAll K H' vs ds
  | _, _, .nil => .nil
  | _, _, .cons h hs => .cons (same_dt e h) (same_dts e hs)
theorem same_dtk {K : PySem.W.Frag} {H H' : Hp} (e : Same H H') : ∀ {vs : List (Key × V)} {ds : List (PyData × PyData)}, DtKvs K H vs ds → DtKvs K H' vs ds
  | _, _, .nil => .nil
  | _, _, .cons h hs => .cons (same_dt e h) (same_dtk e hs)
end
mutual
/-- without dicts it is the layer's own word -/
theorem dt_dp {K : PySem.W.Frag} {G : Hp} : ∀ {v : V} {d : PyData}, Dt K G v d → d.canLay0 = true → Dp K G v d
  | _, _, .non, _ => .non
  | _, _, .bl b, _ => .bl b
  | _, _, .int i, _ => .int i
  | _, _, .str x, _ => .str x
  | _, _, .lst h hs, c => .lst h (dts_dps hs (by unfold PyData.canLay0 at c; exact c))
  | _, _, .tup h hs, c => .tup h (dts_dps hs (by unfold PyData.canLay0 at c; exact c))
  | _, _, .dct _ _, c => by unfold PyData.canLay0 at c; cases c
theorem dts_dps {K : PySem.W.Frag} {G : Hp} : ∀ {vs : List V} {ds : List PyData}, DtAll K G vs ds → PyData.canLayAll0 ds = true → DpAll K G vs ds
  | _, _, .nil, _ => .nil
  | _, _, .cons h hs, c => by
    unfold PyData.canLayAll0 at c
    simp only [Bool.and_eq_true] at c
    exact .cons (dt_dp h c.1) (dts_dps hs c.2)
end

/-! ### what is known (G, never changed again) within the heap (H); cells that may be written are in H alone -/
/-- from (G, H) to (G', H'): what was known stays known, all that was tracked stands as it was but at M, what is newly known is new -/
structure Ext (M : List Addr) (G H G' H' : Hp) : Prop where
  gg : Same G G'
  gh : Same G' H'
  hh : ∀ a o, H a = some o → a ∉ M → H' a = some o
  nw : ∀ a o, G' a = some o → G a = some o ∨ H a = none
  dm : ∀ a, H' a = none → H a = none
theorem Ext.refl {M : List Addr} {G H : Hp} (gh : Same G H) : Ext M G H G H := ⟨Same.refl G, gh, fun _ _ e _ => e, fun _ _ e => .inl e, fun _ e => e⟩
section
variable {M M' : List Addr} {G H G1 H1 G2 H2 : Hp} {p : Addr} {o o' : HO}
/-- a step: at M' alone things change, each of them in M or new -/
theorem Ext.trans (a : Ext M G H G1 H1) (b : Ext M' G1 H1 G2 H2) (hm : ∀ x ∈ M', x ∈ M ∨ H x = none) : Ext M G H G2 H2 := by
  refine ⟨a.gg.trans b.gg, b.gh, fun x u e n => b.hh x u (a.hh x u e n) fun z => (hm x z).elim n fun q => ?_, fun x u e => ?_, fun x e => a.dm x (b.dm x e)⟩
  · rw [e] at q; cases q
  · rcases b.nw x u e with z | z
    · exact a.nw x u z
    · exact .inr (a.dm x z)
theorem Ext.same (a : Ext M G H G1 H1) (b : Ext [] G1 H1 G2 H2) : Ext M G H G2 H2 := a.trans b fun _ h => nomatch h
theorem Ext.mono (a : Ext M G H G1 H1) (hm : ∀ x ∈ M, x ∈ M' ∨ H x = none) : Ext M' G H G1 H1 := by
  refine ⟨a.gg, a.gh, fun x u e n => a.hh x u e fun z => (hm x z).elim n fun q => ?_, a.nw, a.dm⟩
  rw [e] at q; cases q
/-- a new thing, known from now on -/
theorem Ext.new (gh : Same G H) (h : H p = none) : Ext M G H (upd G p o) (upd H p o) := by
  refine ⟨same_new (gh.free h), fun a u e => ?_, fun a u e _ => same_new h a u e, fun a u e => ?_, fun a e => ?_⟩
  · by_cases q : a = p
    · subst q; rw [upd_same] at e ⊢; exact e
    · rw [upd_ne q] at e ⊢; exact gh a u e
  · by_cases q : a = p
    · subst q; exact .inr h
    · rw [upd_ne q] at e; exact .inl e
  · by_cases q : a = p
    · subst q; exact h
    · rw [upd_ne q] at e; exact e
/-- a new thing that may be written later -/
theorem Ext.cell (gh : Same G H) (h : H p = none) : Ext M G H G (upd H p o) := by
  refine ⟨Same.refl G, fun a u e => same_new h a u (gh a u e), fun a u e _ => same_new h a u e, fun a u e => .inl e, fun a e => ?_⟩
  by_cases q : a = p
  · subst q; exact h
  · rw [upd_ne q] at e; exact e
/-- a cell is written -/
theorem Ext.put (gh : Same G H) (hg : G p = none) (h : H p = some o') : Ext [p] G H G (upd H p o) := by
  refine ⟨Same.refl G, fun a u e => ?_, fun a u e n => ?_, fun a u e => .inl e, fun a e => ?_⟩
  · rw [upd_ne (ne_of_none e hg)]; exact gh a u e
  · have q : a ≠ p := fun z => n (by simp [z])
    rw [upd_ne q]; exact e
  · by_cases q : a = p
    · subst q; rw [upd_same] at e; cases e
    · rw [upd_ne q] at e; exact e
/-- a cell is known from now on -/
theorem Ext.know (gh : Same G H) (h : H p = some o) (hg : G p = none) (e : Ext M G1 H1 G H) (hn : H1 p = none) : Ext M G1 H1 (upd G p o) H := by
  refine ⟨e.gg.trans (same_new hg), fun a u q => ?_, e.hh, fun a u q => ?_, e.dm⟩
  · by_cases z : a = p
    · subst z; rw [upd_same] at q; rw [h, q]
    · rw [upd_ne z] at q; exact gh a u q
  · by_cases z : a = p
    · subst z; exact .inr hn
    · rw [upd_ne z] at q; exact e.nw a u q
/-- nothing that was tracked is changed -/
theorem Ext.quiet (gh : Same G H) (e : Same H H1) : Ext M G H G H1 := ⟨Same.refl G, gh.trans e, fun a u q _ => e a u q, fun _ _ q => .inl q, fun _ q => e.free q⟩
/-- what isn't known and was tracked isn't known later -/
theorem Ext.free (e : Ext M G H G1 H1) (hg : G p = none) (h : H p = some o) : G1 p = none := by
  cases q : G1 p with
  | none => rfl
  | some u =>
    rcases e.nw p u q with z | z
    · rw [hg] at z; cases z
    · rw [h] at z; cases z
theorem Ext.keep (e : Ext M G H G1 H1) (h : H p = some o) (n : p ∉ M) : H1 p = some o := e.hh p o h n
end

/-! ### data -/
section
variable {K : PySem.W.Frag} {G H : Hp} {v : V} {ds : List PyData} {d : PyData}
theorem dt_list (h : Dt K G v (.list ds)) (gh : Same G H) : ∃ a xs, v = .ref a ∧ SqL K H a xs ∧ DtAll K G xs ds := by
  cases h with
  | lst h hs => exact ⟨_, _, rfl, gh.seq h, hs⟩
theorem dt_tuple (h : Dt K G v (.tuple ds)) (gh : Same G H) : ∃ a xs, v = .ref a ∧ SqT K H a xs ∧ DtAll K G xs ds := by
  cases h with
  | tup h hs => exact ⟨_, _, rfl, same_tup gh h, hs⟩
theorem dt_int {i : Int} (h : Dt K G v (.int i)) : v = .int i := by cases h; rfl
theorem dt_str {x : Str} (h : Dt K G v (.str x)) : v = .str x := by cases h; rfl
theorem dt_bool {b : Bool} (h : Dt K G v (.bool b)) : v = .bl b := by cases h; rfl
theorem dt_none (h : Dt K G v .none) : v = .non := by cases h; rfl
theorem dts_len : ∀ {xs : List V} {ds : List PyData}, DtAll K G xs ds → xs.length = ds.length
  | _, _, .nil => rfl
  | _, _, .cons _ h => by simp [dts_len h]
theorem dts_at : ∀ {xs : List V} {ds : List PyData} {i : Nat}, DtAll K G xs ds → ds[i]? = some d → ∃ x, xs[i]? = some x ∧ Dt K G x d
  | _, _, _, .nil, e => by simp at e
  | _, _, 0, .cons h _, e => by
    simp only [List.getElem?_cons_zero, Option.some.injEq] at e
    subst e
    exact ⟨_, rfl, h⟩
  | _, _, i + 1, .cons _ h, e => by
    obtain ⟨x, e1, e2⟩ := dts_at (i := i) h (by simpa using e)
    exact ⟨x, by simpa using e1, e2⟩
theorem dts_at' : ∀ {xs : List V} {ds : List PyData} {i : Nat} {x : V}, DtAll K G xs ds → xs[i]? = some x → ∃ d, ds[i]? = some d ∧ Dt K G x d
  | _, _, _, _, .nil, e => by simp at e
  | _, _, 0, _, .cons h _, e => by
    simp only [List.getElem?_cons_zero, Option.some.injEq] at e
    subst e
    exact ⟨_, rfl, h⟩
  | _, _, i + 1, x, .cons _ h, e => by
    obtain ⟨d, e1, e2⟩ := dts_at' (i := i) (x := x) h (by simpa using e)
    exact ⟨d, by simpa using e1, e2⟩
theorem dts_app : ∀ {xs ys : List V} {ds es : List PyData}, DtAll K G xs ds → DtAll K G ys es → DtAll K G (xs ++ ys) (ds ++ es)
  | _, _, _, _, .nil, h => h
  | _, _, _, _, .cons a b, h => .cons a (dts_app b h)
theorem dts_take : ∀ {xs : List V} {ds : List PyData} (n : Nat), DtAll K G xs ds → DtAll K G (xs.take n) (ds.take n)
  | _, _, 0, _ => .nil
  | _, _, _ + 1, .nil => .nil
  | _, _, n + 1, .cons a b => .cons a (dts_take n b)
theorem dts_drop : ∀ {xs : List V} {ds : List PyData} (n : Nat), DtAll K G xs ds → DtAll K G (xs.drop n) (ds.drop n)
  | _, _, 0, h => h
  | _, _, _ + 1, .nil => .nil
  | _, _, n + 1, .cons _ b => dts_drop n b
/-- of ints, of texts: the values themselves -/
theorem dts_ints : ∀ {xs : List V} {ns : List Int}, DtAll K G xs (ns.map PyData.int) → xs = ns.map V.int
  | _, [], .nil => rfl
  | _, n :: ns, .cons a b => by rw [dt_int a, dts_ints b]; rfl
theorem dts_strs : ∀ {xs : List V} {ss : List Str}, DtAll K G xs (ss.map PyData.str) → xs = ss.map V.str
  | _, [], .nil => rfl
  | _, n :: ns, .cons a b => by rw [dt_str a, dts_strs b]; rfl
theorem ints_dts : ∀ (ns : List Int), DtAll K G (ns.map V.int) (ns.map PyData.int)
  | [] => .nil
  | n :: ns => .cons (.int n) (ints_dts ns)
theorem strs_dts : ∀ (ns : List Str), DtAll K G (ns.map V.str) (ns.map PyData.str)
  | [] => .nil
  | n :: ns => .cons (.str n) (strs_dts ns)
theorem dt_pair {r c : Int} (h : Dt K G v (.tuple [.int r, .int c])) (gh : Same G H) : ∃ a, v = .ref a ∧ SqT K H a [.int r, .int c] := by
  obtain ⟨a, xs, rfl, h1, h2⟩ := dt_tuple h gh
  have e := dts_ints (ns := [r, c]) h2
  subst e
  exact ⟨a, rfl, h1⟩
theorem pair_dt {r c : Int} {a : Addr} (h : G a = some (.tup [.int r, .int c])) : Dt K G (.ref a) (.tuple [.int r, .int c]) := .tup (SqT.of h) (ints_dts [r, c])
end
/-- one of some written ints -/
theorem at_menu {xs : List Int} {i : Int} (h0 : 0 ≤ i) (h1 : i < (xs.length : Int)) : ∃ z, atI (xs.map V.int) i = some (.int z) ∧ xs[i.toNat]? = some z ∧ z ∈ xs := by
  obtain ⟨x, e1, e2⟩ := atI_in (xs := xs.map V.int) h0 (by rw [List.length_map]; exact h1)
  rw [List.getElem?_map] at e2
  cases e : xs[i.toNat]? with
  | none => rw [e] at e2; cases e2
  | some z =>
    rw [e] at e2
    cases e2
    exact ⟨z, e1, rfl, List.mem_of_getElem? e⟩
/-! ### what things are -/
def tyD : PyData → String
  | .none => "NoneType"
  | .bool _ => "bool"
  | .int _ => "int"
  | .str _ => "str"
  | .list _ => "list"
  | .tuple _ => "tuple"
  | .dict _ => "dict"
theorem ty_of {K : PySem.W.Frag} {G H : Hp} {v : V} {d : PyData} (h : Dt K G v d) (gh : Same G H) : TyX K H v (.type (tyD d)) := by
  cases h with
  | dct h => exact .base (.dK (gh _ _ h))
  | non => exact .base .non
  | bl b => exact .base (.bl b)
  | int i => exact .base (.int i)
  | str x => exact .base (.str x)
  | lst h _ =>
    rcases gh.seq h with (h | ⟨o, h⟩) | ⟨o, its, n, hk, hc, _⟩
    · exact .base (.lst h)
    · exact .base (.frz h)
    · exact .kList hk hc
  | tup h _ =>
    rcases same_tup gh h with (h | ⟨o, h⟩) | ⟨o, its, n, hk, hc, _⟩
    · exact .base (.tup h)
    · exact .fTuple h
    · exact .kTuple hk hc
/-- what a def tells is data d, all else stays -/
def Gives (K : PySem.W.Frag) (G H : Hp) (d : PyData) (Q : VK) : Prop := ∀ (v : V) (G' H' : Hp), Ext [] G H G' H' → Dt K G' v d → Q v H'
end S

set_option linter.unusedVariables false
namespace S
open PySem L2
/-! ### pure evaluation: in every later state the same data comes out, nothing that was tracked is changed -/
def ED (K : PySem.W.Frag) (G : Hp) (te : TE) (σ : L2.St) (d : PyData) : Prop := ∀ G1 H, Same G G1 → Same G1 H → ∀ Q : VK, (∀ v G2 H2, Ext [] G1 H G2 H2 → Dt K G2 v d → Q v H2) → te σ H Q
def ET (_ : PySem.W.Frag) (G : Hp) (tt : TT) (σ : L2.St) (b : Bool) : Prop := ∀ G1 H, Same G G1 → Same G1 H → ∀ Q : Bool → Hp → Prop, (∀ G2 H2, Ext [] G1 H G2 H2 → Q b H2) → tt σ H Q
def EA (K : PySem.W.Frag) (G : Hp) (ta : TA) (σ : L2.St) (ds : List PyData) : Prop := ∀ G1 H, Same G G1 → Same G1 H → ∀ Q : List V → Hp → Prop, (∀ vs G2 H2, Ext [] G1 H G2 H2 → DtAll K G2 vs ds → Q vs H2) → ta σ H Q
def EO (_ : PySem.W.Frag) (G : Hp) (to : TO) (σ : L2.St) (o : Option Int) : Prop := ∀ G1 H, Same G G1 → Same G1 H → ∀ Q : Option Int → Hp → Prop, (∀ G2 H2, Ext [] G1 H G2 H2 → Q o H2) → to σ H Q
/-- operations by data -/
def R2D (K : PySem.W.Frag) (r : R2) (d1 d2 d : PyData) : Prop := ∀ x y G H, Same G H → Dt K G x d1 → Dt K G y d2 → ∀ Q : VK, (∀ v G2 H2, Ext [] G H G2 H2 → Dt K G2 v d → Q v H2) → r x y H Q
def CBD (K : PySem.W.Frag) (r : List V → Hp → VK → Prop) (ds : List PyData) (d : PyData) : Prop := ∀ vs G H, Same G H → DtAll K G vs ds → ∀ Q : VK, (∀ v G2 H2, Ext [] G H G2 H2 → Dt K G2 v d → Q v H2) → r vs H Q
def MD (K : PySem.W.Frag) (r : V → List V → Hp → VK → Prop) (d0 : PyData) (ds : List PyData) (d : PyData) : Prop := ∀ x vs G H, Same G H → Dt K G x d0 → DtAll K G vs ds → ∀ Q : VK, (∀ v G2 H2, Ext [] G H G2 H2 → Dt K G2 v d → Q v H2) → r x vs H Q
/-- a pure def: of data ds it tells data d -/
def PFn (K : PySem.W.Frag) (R : List PyData → PyData → Prop) : Sp := fun vs H Q _ => ∃ (G : Hp) (ds : List PyData) (d : PyData), Same G H ∧ DtAll K G vs ds ∧ R ds d ∧ ∀ v G' H', Ext [] G H G' H' → Dt K G' v d → Q v H'
section
variable {K : PySem.W.Frag} {G G' : Hp} {σ : L2.St} {ta tb te : TE} {t u : TT} {tas : TA} {d d1 d2 : PyData} {ds : List PyData} {v : V} {r : R2} {b c : Bool}
theorem ED.mono (h : ED K G te σ d) (e : Same G G') : ED K G' te σ d := fun G1 H a => h G1 H (e.trans a)
theorem ET.mono (h : ET K G t σ b) (e : Same G G') : ET K G' t σ b := fun G1 H a => h G1 H (e.trans a)
theorem EA.mono (h : EA K G tas σ ds) (e : Same G G') : EA K G' tas σ ds := fun G1 H a => h G1 H (e.trans a)
theorem ED.to {d' : PyData} (h : ED K G te σ d) (e : d = d') : ED K G te σ d' := e ▸ h
theorem ET.to (h : ET K G t σ b) (e : b = c) : ET K G t σ c := e ▸ h
theorem ed_var {i : Nat} (h : σ[i]? = some (some v)) (hv : Dt K G v d) : ED K G (tVar i) σ d := fun G1 H a gh Q q => ⟨v, h, q v G1 H (Ext.refl gh) (same_dt a hv)⟩
theorem ed_c (hv : ∀ G, Dt K G v d) : ED K G (tC v) σ d := fun G1 H _ gh Q q => q v G1 H (Ext.refl gh) (hv G1)
theorem ed_int {i : Int} : ED K G (tC (.int i)) σ (.int i) := ed_c fun _ => .int i
theorem ed_str {x : Str} : ED K G (tC (.str x)) σ (.str x) := ed_c fun _ => .str x
theorem ed_bl : ED K G (tC (.bl b)) σ (.bool b) := ed_c fun _ => .bl b
theorem ed_non : ED K G (tC .non) σ .none := ed_c fun _ => .non
theorem ed_op (ha : ED K G ta σ d1) (hb : ED K G tb σ d2) (hr : R2D K r d1 d2 d) : ED K G (tOp r ta tb) σ d := fun G1 H a gh Q q =>
  ha G1 H a gh _ fun x G2 H2 e2 hx => hb G2 H2 (a.trans e2.gg) e2.gh _ fun y G3 H3 e3 hy => hr x y G3 H3 e3.gh (same_dt e3.gg hx) hy Q fun v G4 H4 e4 hv => q v G4 H4 ((e2.same e3).same e4) hv
theorem r2_i {g : Int → Int → Int} {i j : Int} : R2D K (rI0 fun i j => .int (g i j)) (.int i) (.int j) (.int (g i j)) := fun x y G H gh hx hy Q q => by
  rw [dt_int hx, dt_int hy]
  exact ⟨i, j, rfl, rfl, q _ G H (Ext.refl gh) (.int _)⟩
theorem r2_b {g : Int → Int → Bool} {i j : Int} : R2D K (rI0 fun i j => .bl (g i j)) (.int i) (.int j) (.bool (g i j)) := fun x y G H gh hx hy Q q => by
  rw [dt_int hx, dt_int hy]
  exact ⟨i, j, rfl, rfl, q _ G H (Ext.refl gh) (.bl _)⟩
theorem r2_c {C : Int → Int → Prop} {g : Int → Int → Int} {i j : Int} (hc : C i j) : R2D K (rI C fun i j => .int (g i j)) (.int i) (.int j) (.int (g i j)) := fun x y G H gh hx hy Q q => by
  rw [dt_int hx, dt_int hy]
  exact ⟨i, j, rfl, rfl, hc, q _ G H (Ext.refl gh) (.int _)⟩
theorem r2_eqS {x y : Str} : R2D K rEq (.str x) (.str y) (.bool (decide (x = y))) := fun v w G H gh hx hy Q q => by
  rw [dt_str hx, dt_str hy]
  refine ⟨rfl, ?_⟩
  rw [show decide (V.str x = V.str y) = decide (x = y) by simp]
  exact q _ G H (Ext.refl gh) (.bl _)
theorem r2_neS {x y : Str} : R2D K rNe (.str x) (.str y) (.bool (!decide (x = y))) := fun v w G H gh hx hy Q q => by
  rw [dt_str hx, dt_str hy]
  refine ⟨rfl, ?_⟩
  rw [show decide (V.str x = V.str y) = decide (x = y) by simp]
  exact q _ G H (Ext.refl gh) (.bl _)
theorem r2_eqI {x y : Int} : R2D K rEq (.int x) (.int y) (.bool (decide (x = y))) := fun v w G H gh hx hy Q q => by
  rw [dt_int hx, dt_int hy]
  refine ⟨rfl, ?_⟩
  rw [show decide (V.int x = V.int y) = decide (x = y) by simp]
  exact q _ G H (Ext.refl gh) (.bl _)
theorem r2_neI {x y : Int} : R2D K rNe (.int x) (.int y) (.bool (!decide (x = y))) := fun v w G H gh hx hy Q q => by
  rw [dt_int hx, dt_int hy]
  refine ⟨rfl, ?_⟩
  rw [show decide (V.int x = V.int y) = decide (x = y) by simp]
  exact q _ G H (Ext.refl gh) (.bl _)
theorem r2_eqD (h1 : SeqAt.shaped d1 = true) (h2 : SeqAt.shaped d2 = true) : R2D K (rEqD K) d1 d2 (.bool (PyData.eqv d1 d2)) := fun v w G H gh hx hy Q q =>
  ⟨d1, d2, dt_dp (same_dt gh hx) (SeqAt.canLay_of_shaped h1), dt_dp (same_dt gh hy) (SeqAt.canLay_of_shaped h2), h1, h2, q _ G H (Ext.refl gh) (.bl _)⟩
theorem r2_neD (h1 : SeqAt.shaped d1 = true) (h2 : SeqAt.shaped d2 = true) : R2D K (rNeD K) d1 d2 (.bool (!PyData.eqv d1 d2)) := fun v w G H gh hx hy Q q =>
  ⟨d1, d2, dt_dp (same_dt gh hx) (SeqAt.canLay_of_shaped h1), dt_dp (same_dt gh hy) (SeqAt.canLay_of_shaped h2), h1, h2, q _ G H (Ext.refl gh) (.bl _)⟩
theorem r2_addS {x y : Str} (h : x.length + y.length ≤ sizeLine) : R2D K (fun x y H Q => ∃ i j, x = .str i ∧ y = .str j ∧ i.length + j.length ≤ sizeLine ∧ Q (.str (i ++ j)) H) (.str x) (.str y) (.str (x ++ y)) := fun v w G H gh hx hy Q q => by
  rw [dt_str hx, dt_str hy]
  exact ⟨x, y, rfl, rfl, h, q _ G H (Ext.refl gh) (.str _)⟩
theorem atI_dts {xs : List V} {i : Int} (hs : DtAll K G xs ds) (h : atI ds i = some d) : ∃ x, atI xs i = some x ∧ Dt K G x d := by
  unfold atI at h ⊢
  rw [dts_len hs]
  cases e : ixN ds.length i with
  | none => rw [e] at h; cases h
  | some j =>
    rw [e] at h
    obtain ⟨x, h1, h2⟩ := dts_at hs (show ds[j]? = some d from h)
    exact ⟨x, h1, h2⟩
theorem r2_ixL {i : Int} (h : atI ds i = some d) : R2D K (rIxL K) (.list ds) (.int i) d := fun v w G H gh hx hy Q q => by
  obtain ⟨a, xs, rfl, hl, hs⟩ := dt_list hx gh
  rw [dt_int hy]
  obtain ⟨x, h1, h2⟩ := atI_dts hs h
  exact ⟨a, xs, i, x, rfl, rfl, hl, h1, q _ G H (Ext.refl gh) h2⟩
theorem r2_ixT {i : Int} (h : atI ds i = some d) : R2D K (rIxT K) (.tuple ds) (.int i) d := fun v w G H gh hx hy Q q => by
  obtain ⟨a, xs, rfl, hl, hs⟩ := dt_tuple hx gh
  rw [dt_int hy]
  obtain ⟨x, h1, h2⟩ := atI_dts hs h
  exact ⟨a, xs, i, x, rfl, rfl, hl, h1, q _ G H (Ext.refl gh) h2⟩
theorem r2_ixS {z : Str} {i : Int} {c : Nat} (hz : z.length ≤ sizeLine) (h : atI z.cps.toList i = some c) : R2D K rIxS (.str z) (.int i) (.str ⟨#[c]⟩) := fun v w G H gh hx hy Q q => by
  rw [dt_str hx, dt_int hy]
  exact ⟨z, i, c, rfl, rfl, hz, h, q _ G H (Ext.refl gh) (.str _)⟩
theorem dts1 {vs : List V} (h : DtAll K G vs [d]) : ∃ v, vs = [v] ∧ Dt K G v d := by
  cases h with
  | cons h hs => cases hs; exact ⟨_, rfl, h⟩
theorem dtsN {vs : List V} (h : DtAll K G vs (d :: ds)) : ∃ v ws, vs = v :: ws ∧ Dt K G v d ∧ DtAll K G ws ds := by
  cases h with
  | cons h hs => exact ⟨_, _, rfl, h, hs⟩
theorem dts2 {vs : List V} (h : DtAll K G vs [d1, d2]) : ∃ v w, vs = [v, w] ∧ Dt K G v d1 ∧ Dt K G w d2 := by
  obtain ⟨v, ws, rfl, h1, hs⟩ := dtsN h
  obtain ⟨w, rfl, h2⟩ := dts1 hs
  exact ⟨v, w, rfl, h1, h2⟩
theorem dts3 {d3 : PyData} {vs : List V} (h : DtAll K G vs [d1, d2, d3]) : ∃ v w x, vs = [v, w, x] ∧ Dt K G v d1 ∧ Dt K G w d2 ∧ Dt K G x d3 := by
  obtain ⟨v, ws, rfl, h1, hs⟩ := dtsN h
  obtain ⟨w, x, rfl, h2, h3⟩ := dts2 hs
  exact ⟨v, w, x, rfl, h1, h2, h3⟩
theorem dts4 {d3 d4 : PyData} {vs : List V} (h : DtAll K G vs [d1, d2, d3, d4]) : ∃ v w x y, vs = [v, w, x, y] ∧ Dt K G v d1 ∧ Dt K G w d2 ∧ Dt K G x d3 ∧ Dt K G y d4 := by
  obtain ⟨v, ws, rfl, h1, hs⟩ := dtsN h
  obtain ⟨w, x, y, rfl, h2, h3, h4⟩ := dts3 hs
  exact ⟨v, w, x, y, rfl, h1, h2, h3, h4⟩
theorem dts5 {d3 d4 d5 : PyData} {vs : List V} (h : DtAll K G vs [d1, d2, d3, d4, d5]) : ∃ v w x y z, vs = [v, w, x, y, z] ∧ Dt K G v d1 ∧ Dt K G w d2 ∧ Dt K G x d3 ∧ Dt K G y d4 ∧ Dt K G z d5 := by
  obtain ⟨v, ws, rfl, h1, hs⟩ := dtsN h
  obtain ⟨w, x, y, z, rfl, h2, h3, h4, h5⟩ := dts4 hs
  exact ⟨v, w, x, y, z, rfl, h1, h2, h3, h4, h5⟩
/-! tests -/
theorem et_test (h : ED K G te σ (.bool b)) : ET K G (tTest te) σ b := fun G1 H a gh Q q => h G1 H a gh _ fun v G2 H2 e hv => ⟨b, dt_bool hv, q G2 H2 e⟩
theorem et_B (h : ED K G te σ (.bool b)) : ET K G (tB te) σ b := fun G1 H a gh Q q => h G1 H a gh _ fun v G2 H2 e hv => ⟨b, dt_bool hv, q G2 H2 e⟩
theorem et_yes : ET K G tYes σ true := fun G1 H a gh Q q => q G1 H (Ext.refl gh)
theorem et_not (h : ET K G t σ b) : ET K G (tNot t) σ (!b) := fun G1 H a gh Q q => h G1 H a gh _ fun G2 H2 e => q G2 H2 e
theorem et_and (h : ET K G t σ b) (h2 : b = true → ET K G u σ c) : ET K G (tAnd t u) σ (b && c) := fun G1 H a gh Q q => h G1 H a gh _ fun G2 H2 e => by
  cases b with
  | true => exact iteT (h2 rfl G2 H2 (a.trans e.gg) e.gh Q fun G3 H3 e3 => q G3 H3 (e.same e3))
  | false => exact iteF (q G2 H2 e)
theorem et_or (h : ET K G t σ b) (h2 : b = false → ET K G u σ c) : ET K G (tOr t u) σ (b || c) := fun G1 H a gh Q q => h G1 H a gh _ fun G2 H2 e => by
  cases b with
  | true => exact iteT (q G2 H2 e)
  | false => exact iteF (h2 rfl G2 H2 (a.trans e.gg) e.gh Q fun G3 H3 e3 => q G3 H3 (e.same e3))
theorem ed_and (h : ED K G ta σ (.bool b)) (h2 : b = true → ED K G tb σ (.bool c)) : ED K G (tAndV ta tb) σ (.bool (b && c)) := fun G1 H a gh Q q => h G1 H a gh _ fun v G2 H2 e hv => ⟨b, dt_bool hv, by
  cases b with
  | true => exact iteT (h2 rfl G2 H2 (a.trans e.gg) e.gh Q fun v G3 H3 e3 hv => q v G3 H3 (e.same e3) hv)
  | false => exact iteF (q _ G2 H2 e (.bl _))⟩
theorem ed_or (h : ED K G ta σ (.bool b)) (h2 : b = false → ED K G tb σ (.bool c)) : ED K G (tOrV ta tb) σ (.bool (b || c)) := fun G1 H a gh Q q => h G1 H a gh _ fun v G2 H2 e hv => ⟨b, dt_bool hv, by
  cases b with
  | true => exact iteT (q _ G2 H2 e (.bl _))
  | false => exact iteF (h2 rfl G2 H2 (a.trans e.gg) e.gh Q fun v G3 H3 e3 hv => q v G3 H3 (e.same e3) hv)⟩
theorem ed_not (h : ED K G ta σ (.bool b)) : ED K G (tNotV ta) σ (.bool (!b)) := fun G1 H a gh Q q => h G1 H a gh _ fun v G2 H2 e hv => ⟨b, dt_bool hv, q _ G2 H2 e (.bl _)⟩
theorem ed_if (h : ET K G t σ b) (h1 : b = true → ED K G ta σ d) (h2 : b = false → ED K G tb σ d) : ED K G (tIf t ta tb) σ d := fun G1 H a gh Q q => h G1 H a gh _ fun G2 H2 e => by
  cases b with
  | true => exact iteT (h1 rfl G2 H2 (a.trans e.gg) e.gh Q fun v G3 H3 e3 hv => q v G3 H3 (e.same e3) hv)
  | false => exact iteF (h2 rfl G2 H2 (a.trans e.gg) e.gh Q fun v G3 H3 e3 hv => q v G3 H3 (e.same e3) hv)
/-! arguments, displays, calls -/
theorem ea_nil : EA K G tNil σ [] := fun G1 H a gh Q q => q [] G1 H (Ext.refl gh) .nil
theorem ea_cons (h : ED K G ta σ d) (hs : EA K G tas σ ds) : EA K G (tCons ta tas) σ (d :: ds) := fun G1 H a gh Q q => h G1 H a gh _ fun v G2 H2 e hv => hs G2 H2 (a.trans e.gg) e.gh _ fun vs G3 H3 e3 hvs => q _ G3 H3 (e.same e3) (.cons (same_dt e3.gg hv) hvs)
theorem ed_tup (h : EA K G tas σ ds) (hl : ds.length ≤ 1000 := by first | decide | simp) : ED K G (tTup tas) σ (.tuple ds) := fun G1 H a gh Q q => h G1 H a gh _ fun vs G2 H2 e hvs =>
  ⟨by rw [dts_len hvs]; exact szn _ hl, fun p hp => q _ _ _ (e.same (Ext.new e.gh hp)) (.tup (SqT.of upd_same) (same_dts (same_new (e.gh.free hp)) hvs))⟩
theorem ed_lst (h : EA K G tas σ ds) (hl : ds.length ≤ 1000 := by first | decide | simp) : ED K G (tLst tas) σ (.list ds) := fun G1 H a gh Q q => h G1 H a gh _ fun vs G2 H2 e hvs =>
  ⟨by rw [dts_len hvs]; exact szn _ hl, fun p hp => q _ _ _ (e.same (Ext.new e.gh hp)) (.lst (SqL.of upd_same) (same_dts (same_new (e.gh.free hp)) hvs))⟩
theorem ed_cb {rr : List V → Hp → VK → Prop} (h : EA K G tas σ ds) (hr : CBD K rr ds d) : ED K G (tCB rr tas) σ d := fun G1 H a gh Q q => h G1 H a gh _ fun vs G2 H2 e hvs => hr vs G2 H2 e.gh hvs Q fun v G3 H3 e3 hv => q v G3 H3 (e.same e3) hv
theorem ed_fn {R : List PyData → PyData → Prop} {E : XK} (h : EA K G tas σ ds) (hr : R ds d) : ED K G (tCall (PFn K R) [] E tas) σ d := fun G1 H a gh Q q => h G1 H a gh _ fun vs G2 H2 e hvs => by
  rw [List.append_nil]
  exact ⟨G2, ds, d, e.gh, hvs, hr, fun v G3 H3 e3 hv => q v G3 H3 (e.same e3) hv⟩
theorem ed_m1 {rr : V → List V → Hp → VK → Prop} {a : Str} (ho : ED K G ta σ (.str a)) (he : ED K G te σ d2) (hr : MD K rr (.str a) [d2] d) : ED K G (tM1 rr ta te) σ d := fun G1 H g gh Q q => ho G1 H g gh _ fun x G2 H2 e2 hx => ⟨⟨a, dt_str hx⟩,
  he G2 H2 (g.trans e2.gg) e2.gh _ fun y G3 H3 e3 hy => hr x [y] G3 H3 e3.gh (same_dt e3.gg hx) (.cons hy .nil) Q fun v G4 H4 e4 hv => q v G4 H4 ((e2.same e3).same e4) hv⟩
theorem ed_un {f : Int → Int} {i : Int} (h : ED K G ta σ (.int i)) : ED K G (tUn (rU fun i => .int (f i)) ta) σ (.int (f i)) := fun G1 H a gh Q q => h G1 H a gh _ fun v G2 H2 e hv => ⟨i, dt_int hv, q _ G2 H2 e (.int _)⟩
/-! built-ins by data -/
theorem cb_isi {b : String} {ans : Bool} (hk : kitB (tyD d) b = some ans) : ∀ {vs : List V} {G H : Hp}, Same G H → (∃ v, vs = [v, .ty b] ∧ Dt K G v d) → ∀ Q : VK, (∀ G2 H2, Ext [] G H G2 H2 → Q (.bl ans) H2) → rIsi K vs H Q := fun {vs G H} gh h Q q => by
  obtain ⟨v, rfl, hv⟩ := h
  exact ⟨v, .ty b, _, _, ans, rfl, .ty b, ty_of hv gh, kit_ty hk, q G H (Ext.refl gh)⟩
/-- isinstance(e, T) -/
theorem ed_isi {T : String} {ans : Bool} (h : ED K G ta σ d) (hk : kitB (tyD d) T = some ans) : ED K G (tCB (rIsi K) (tCons ta (tCons (tC (.ty T)) tNil))) σ (.bool ans) := fun G1 H a gh Q q => h G1 H a gh _ fun v G2 H2 e hv =>
  ⟨v, .ty T, _, _, ans, rfl, .ty T, ty_of hv e.gh, kit_ty hk, q _ G2 H2 e (.bl _)⟩
theorem cb_lenL : CBD K (fun xs H Q => ∃ x n, xs = [x] ∧ LenV K x H n ∧ Q (.int n) H) [.list ds] (.int ds.length) := fun vs G H gh h Q q => by
  cases h with
  | cons h hs =>
    cases hs
    obtain ⟨a, xs, rfl, hl, hx⟩ := dt_list h gh
    exact ⟨_, ds.length, rfl, .inl ⟨xs, hl, (dts_len hx).symm⟩, q _ G H (Ext.refl gh) (.int _)⟩
theorem cb_lenT : CBD K (fun xs H Q => ∃ x n, xs = [x] ∧ LenV K x H n ∧ Q (.int n) H) [.tuple ds] (.int ds.length) := fun vs G H gh h Q q => by
  cases h with
  | cons h hs =>
    cases hs
    obtain ⟨a, xs, rfl, hl, hx⟩ := dt_tuple h gh
    exact ⟨_, ds.length, rfl, .inr ⟨xs, hl, (dts_len hx).symm⟩, q _ G H (Ext.refl gh) (.int _)⟩
theorem cb_lenS {z : Str} (hz : z.length ≤ sizeLine) : CBD K (fun xs H Q => ∃ x n, xs = [x] ∧ LenV K x H n ∧ Q (.int n) H) [.str z] (.int z.length) := fun vs G H gh h Q q => by
  cases h with
  | cons h hs =>
    cases hs
    rw [dt_str h]
    exact ⟨_, z.length, rfl, ⟨hz, rfl⟩, q _ G H (Ext.refl gh) (.int _)⟩
theorem dts_bools : ∀ {xs : List V} {bs : List Bool}, DtAll K G xs (bs.map PyData.bool) → xs = bs.map V.bl
  | _, [], .nil => rfl
  | _, n :: ns, .cons a b => by rw [dt_bool a, dts_bools b]; rfl
theorem bools_dts : ∀ (ns : List Bool), DtAll K G (ns.map V.bl) (ns.map PyData.bool)
  | [] => .nil
  | n :: ns => .cons (.bl n) (bools_dts ns)
theorem cb_all {bs : List Bool} : CBD K (rAll K) [.list (bs.map PyData.bool)] (.bool (bs.all id)) := fun vs G H gh h Q q => by
  cases h with
  | cons h hs =>
    cases hs
    obtain ⟨a, xs, rfl, hl, hx⟩ := dt_list h gh
    rw [dts_bools hx] at hl
    exact ⟨a, bs, rfl, hl, q _ G H (Ext.refl gh) (.bl _)⟩
theorem cb_sum {ns : List Int} : CBD K (rSum K) [.list (ns.map PyData.int)] (.int ns.sum) := fun vs G H gh h Q q => by
  cases h with
  | cons h hs =>
    cases hs
    obtain ⟨a, xs, rfl, hl, hx⟩ := dt_list h gh
    rw [dts_ints hx] at hl
    exact ⟨a, ns, rfl, hl, q _ G H (Ext.refl gh) (.int _)⟩
theorem md_join {a : Str} {ys : List Str} (hz : (ys.map (·.length)).sum + ys.length * a.length ≤ 16777216) : MD K (fun x xs H Q => ∃ a p, ∃ ys : List Str, x = .str a ∧ xs = [.ref p] ∧ (SqL K H p (ys.map V.str) ∨ SqT K H p (ys.map V.str)) ∧ (ys.map (·.length)).sum + ys.length * a.length ≤ 16777216 ∧ Q (.str (Txt.join a ys)) H)
    (.str a) [.list (ys.map PyData.str)] (.str (Txt.join a ys)) := fun x vs G H gh hx h Q q => by
  cases h with
  | cons h hs =>
    cases hs
    obtain ⟨p, xs, rfl, hl, hxs⟩ := dt_list h gh
    rw [dts_strs hxs] at hl
    rw [dt_str hx]
    exact ⟨a, p, ys, rfl, rfl, .inl hl, hz, q _ G H (Ext.refl gh) (.str _)⟩
theorem md_sindex {a b : Str} {i : Nat} {rest : List Nat} (h : Builtin.Str.occurrences a b 0 a.length 1 = i :: rest) : MD K (fun x xs H Q => ∃ a b i rest, x = .str a ∧ xs = [.str b] ∧ Builtin.Str.occurrences a b 0 a.length 1 = i :: rest ∧ Q (.int (i : Nat)) H) (.str a) [.str b] (.int i) := fun x vs G H gh hx hv Q q => by
  cases hv with
  | cons hv hs =>
    cases hs
    rw [dt_str hx, dt_str hv]
    exact ⟨a, b, i, rest, rfl, rfl, h, q _ G H (Ext.refl gh) (.int _)⟩
end
end S

set_option linter.unusedVariables false
namespace S
open PySem L2
/-! ### what is walked, by data -/
structure DW (K : PySem.W.Frag) (G : Hp) (J : It) (n : Nat) (f : Nat → PyData) : Prop where
  goes : ∀ i H, i < n → Same G H → J.go i H
  stops : ∀ H, Same G H → J.stop n H
  yields : ∀ i H x H' G1, i < n → Same G G1 → Same G1 H → J.yld i H x H' → ∃ G2, Ext [] G1 H G2 H' ∧ Dt K G2 x (f i)
/-- the iterable gives n items, f i the i-th -/
def EI (K : PySem.W.Frag) (G : Hp) (wi : TI) (σ : L2.St) (n : Nat) (f : Nat → PyData) : Prop := ∀ G1 H, Same G G1 → Same G1 H → ∀ R : It → Hp → Prop, (∀ J G2 H2, Ext [] G1 H G2 H2 → DW K G2 J n f → R J H2) → wi σ H R
section
variable {K : PySem.W.Frag} {G G' : Hp} {σ : L2.St} {ta tb te : TE} {t u : TT} {tas : TA} {d d1 d2 : PyData} {ds es : List PyData} {v : V} {r : R2} {b c : Bool}
theorem dw_list {a : Addr} {xs : List V} (hl : SqL K G a xs) (hs : DtAll K G xs ds) : DW K G (Itl K a) ds.length (fun i => ds.getD i .none) where
  goes := fun i H hi gh => by
    have e := dts_len hs
    exact ⟨xs, xs[i], gh.seq hl, by simp [e, hi]⟩
  stops := fun H gh => ⟨xs, gh.seq hl, by rw [dts_len hs]; exact Nat.le_refl _⟩
  yields := fun i H x H' G1 hi g1 gh y => by
    obtain ⟨rfl, hx⟩ := y
    obtain ⟨d, h1, h2⟩ := dts_at' hs (hx xs ((g1.trans gh).seq hl))
    refine ⟨G1, Ext.refl gh, ?_⟩
    rw [List.getD_eq_getElem?_getD, h1]
    exact same_dt g1 h2
theorem dw_tup {a : Addr} {xs : List V} (hl : SqT K G a xs) (hs : DtAll K G xs ds) : DW K G (Itt K a) ds.length (fun i => ds.getD i .none) where
  goes := fun i H hi gh => by
    have e := dts_len hs
    exact ⟨xs, xs[i], same_tup gh hl, by simp [e, hi]⟩
  stops := fun H gh => ⟨xs, same_tup gh hl, by rw [dts_len hs]; exact Nat.le_refl _⟩
  yields := fun i H x H' G1 hi g1 gh y => by
    obtain ⟨rfl, hx⟩ := y
    obtain ⟨d, h1, h2⟩ := dts_at' hs (hx xs (same_tup (g1.trans gh) hl))
    refine ⟨G1, Ext.refl gh, ?_⟩
    rw [List.getD_eq_getElem?_getD, h1]
    exact same_dt g1 h2
theorem dw_str {z : Str} : DW K G (Its z) z.cps.size (fun i => .str ⟨#[z.cps.getD i 0]⟩) where
  goes := fun i H hi _ => hi
  stops := fun H _ => Nat.le_refl _
  yields := fun i H x H' G1 hi g1 gh y => by
    obtain ⟨rfl, c, hc, rfl⟩ := y
    refine ⟨G1, Ext.refl gh, ?_⟩
    rw [Array.getD_eq_getD_getElem?, hc]
    exact .str _
theorem dw_range {lo : Int} {n : Nat} : DW K G (Itr lo n) n (fun i => .int (lo + i)) where
  goes := fun i H hi _ => hi
  stops := fun H _ => Nat.le_refl _
  yields := fun i H x H' G1 hi g1 gh y => by
    obtain ⟨rfl, rfl⟩ := y
    exact ⟨G1, Ext.refl gh, .int _⟩
theorem dw_enum {a : Addr} {xs : List V} (hl : SqL K G a xs) (hs : DtAll K G xs ds) : DW K G (Ite K a) ds.length (fun i => .tuple [.int (i : Nat), ds.getD i .none]) where
  goes := fun i H hi gh => by
    have e := dts_len hs
    exact ⟨xs, xs[i], gh.seq hl, by simp [e, hi]⟩
  stops := fun H gh => ⟨xs, gh.seq hl, by rw [dts_len hs]; exact Nat.le_refl _⟩
  yields := fun i H x H' G1 hi g1 gh y => by
    obtain ⟨T, z, rfl, hT, rfl, hx⟩ := y
    obtain ⟨d, h1, h2⟩ := dts_at' hs (hx xs ((g1.trans gh).seq hl))
    refine ⟨_, Ext.new gh hT, ?_⟩
    rw [List.getD_eq_getElem?_getD, h1]
    exact .tup (SqT.of upd_same) (.cons (.int _) (.cons (same_dt (g1.trans (same_new (gh.free hT))) h2) .nil))
theorem dw_zip {a a2 : Addr} {xs ys : List V} (hl : SqL K G a xs) (hs : DtAll K G xs ds) (hl2 : SqL K G a2 ys) (hs2 : DtAll K G ys es) : DW K G (Itz K a a2) (min ds.length es.length) (fun i => .tuple [ds.getD i .none, es.getD i .none]) where
  goes := fun i H hi gh => by
    have e := dts_len hs
    have e2 := dts_len hs2
    exact ⟨xs, ys, xs[i], ys[i], gh.seq hl, gh.seq hl2, by simp [show i < xs.length by omega], by simp [show i < ys.length by omega]⟩
  stops := fun H gh => by
    have e := dts_len hs
    have e2 := dts_len hs2
    exact ⟨xs, ys, gh.seq hl, gh.seq hl2, by omega⟩
  yields := fun i H x H' G1 hi g1 gh y => by
    obtain ⟨T, z, z2, rfl, hT, rfl, hx, hx2⟩ := y
    obtain ⟨d, h1, h2⟩ := dts_at' hs (hx xs ((g1.trans gh).seq hl))
    obtain ⟨d', h3, h4⟩ := dts_at' hs2 (hx2 ys ((g1.trans gh).seq hl2))
    refine ⟨_, Ext.new gh hT, ?_⟩
    rw [List.getD_eq_getElem?_getD, h1, List.getD_eq_getElem?_getD, h3]
    have e := g1.trans (same_new (o := .tup [z, z2]) (gh.free hT))
    exact .tup (SqT.of upd_same) (.cons (same_dt e h2) (.cons (same_dt e h4) .nil))
theorem ei_list (h : ED K G te σ (.list ds)) : EI K G (iList K te) σ ds.length (fun i => ds.getD i .none) := fun G1 H a gh R q => h G1 H a gh _ fun v G2 H2 e hv => by
  obtain ⟨p, xs, rfl, hl, hs⟩ := dt_list hv (Same.refl G2)
  exact ⟨p, rfl, ⟨xs, e.gh.seq hl⟩, q _ G2 H2 e (dw_list hl hs)⟩
theorem ei_tup (h : ED K G te σ (.tuple ds)) : EI K G (iTup K te) σ ds.length (fun i => ds.getD i .none) := fun G1 H a gh R q => h G1 H a gh _ fun v G2 H2 e hv => by
  obtain ⟨p, xs, rfl, hl, hs⟩ := dt_tuple hv (Same.refl G2)
  exact ⟨p, rfl, ⟨xs, same_tup e.gh hl⟩, q _ G2 H2 e (dw_tup hl hs)⟩
theorem ei_str {z : Str} (h : ED K G te σ (.str z)) : EI K G (iStr te) σ z.cps.size (fun i => .str ⟨#[z.cps.getD i 0]⟩) := fun G1 H a gh R q => h G1 H a gh _ fun v G2 H2 e hv => ⟨z, dt_str hv, q _ G2 H2 e dw_str⟩
theorem ei_range1 {j : Int} (h : EA K G tas σ [.int j]) (h0 : 0 ≤ j) (h1 : j < 2 ^ 62) : EI K G (iRng1 tas) σ j.toNat (fun i => .int i) := fun G1 H a gh R q => h G1 H a gh _ fun vs G2 H2 e hvs => by
  cases hvs with
  | cons hv hs =>
    cases hs
    rw [dt_int hv]
    refine ⟨j, rfl, by omega, h1, q _ G2 H2 e ?_⟩
    have w := dw_range (K := K) (G := G2) (lo := 0) (n := j.toNat)
    simp only [Int.zero_add] at w
    exact w
theorem ei_range2 {i j : Int} (h : EA K G tas σ [.int i, .int j]) (hb : -(2 ^ 62) ≤ i ∧ i < 2 ^ 62 ∧ -(2 ^ 62) ≤ j ∧ j < 2 ^ 62) : EI K G (iRng2 tas) σ (j - i).toNat (fun k => .int (i + k)) := fun G1 H a gh R q => h G1 H a gh _ fun vs G2 H2 e hvs => by
  cases hvs with
  | cons hv hs =>
    cases hs with
    | cons hv2 hs =>
      cases hs
      rw [dt_int hv, dt_int hv2]
      exact ⟨i, j, rfl, hb, q _ G2 H2 e dw_range⟩
theorem ei_enum (h : EA K G tas σ [.list ds]) : EI K G (iEnum K tas) σ ds.length (fun i => .tuple [.int (i : Nat), ds.getD i .none]) := fun G1 H a gh R q => h G1 H a gh _ fun vs G2 H2 e hvs => by
  cases hvs with
  | cons hv hs =>
    cases hs
    obtain ⟨p, xs, rfl, hl, hs⟩ := dt_list hv (Same.refl G2)
    exact ⟨p, xs, rfl, e.gh.seq hl, q _ G2 H2 e (dw_enum hl hs)⟩
theorem ei_zip (h : EA K G tas σ [.list ds, .list es]) : EI K G (iZip K tas) σ (min ds.length es.length) (fun i => .tuple [ds.getD i .none, es.getD i .none]) := fun G1 H a gh R q => h G1 H a gh _ fun vs G2 H2 e hvs => by
  cases hvs with
  | cons hv hs =>
    cases hs with
    | cons hv2 hs2 =>
      cases hs2
      obtain ⟨p, xs, rfl, hl, hs⟩ := dt_list hv (Same.refl G2)
      obtain ⟨p2, ys, rfl, hl2, hs2⟩ := dt_list hv2 (Same.refl G2)
      exact ⟨p, p2, xs, ys, rfl, e.gh.seq hl, e.gh.seq hl2, q _ G2 H2 e (dw_zip hl hs hl2 hs2)⟩

/-! ### targets -/
/-- the target takes x, of data d; behind it the slots are as B tells -/
def EG (K : PySem.W.Frag) (g : TG) (σ : L2.St) (d : PyData) (B : Hp → L2.St → Prop) : Prop := ∀ G H x, Same G H → Dt K G x d → ∀ Q : L2.St → Hp → Prop, (∀ σ2, B G σ2 → Q σ2 H) → g x σ H Q
theorem eg_name {j : Nat} : EG K (gName j) σ d (fun G σ2 => ∃ x, Dt K G x d ∧ σ2 = σ.set j (some x)) := fun G H x gh hx Q q => q _ ⟨x, hx, rfl⟩
theorem eg_tup2 {i j : Nat} : EG K (gTup K 2 (gCons (gName i) (gCons (gName j) gNil))) σ (.tuple [d1, d2]) (fun G σ2 => ∃ x y, Dt K G x d1 ∧ Dt K G y d2 ∧ σ2 = (σ.set i (some x)).set j (some y)) := fun G H x gh hx Q q => by
  obtain ⟨a, xs, rfl, hl, hs⟩ := dt_tuple hx gh
  cases hs with
  | cons h1 hs =>
    cases hs with
    | cons h2 hs =>
      cases hs
      exact ⟨a, _, rfl, hl, rfl, _, _, rfl, _, _, rfl, rfl, q _ ⟨_, _, h1, h2, rfl⟩⟩
theorem eg_tup3 {i j k : Nat} {d3 : PyData} : EG K (gTup K 3 (gCons (gName i) (gCons (gName j) (gCons (gName k) gNil)))) σ (.tuple [d1, d2, d3]) (fun G σ2 => ∃ x y z, Dt K G x d1 ∧ Dt K G y d2 ∧ Dt K G z d3 ∧ σ2 = ((σ.set i (some x)).set j (some y)).set k (some z)) := fun G H x gh hx Q q => by
  obtain ⟨a, xs, rfl, hl, hs⟩ := dt_tuple hx gh
  cases hs with
  | cons h1 hs =>
    cases hs with
    | cons h2 hs =>
      cases hs with
      | cons h3 hs =>
        cases hs
        exact ⟨a, _, rfl, hl, rfl, _, _, rfl, _, _, rfl, _, _, rfl, rfl, q _ ⟨_, _, _, h1, h2, h3, rfl⟩⟩

/-! ### comprehensions -/
/-- what n turns give: p tells which, h what -/
def outs (n : Nat) (p : Nat → Bool) (h : Nat → PyData) : List PyData := ((List.range n).filter p).map h
theorem outs_yes {n : Nat} {p : Nat → Bool} {h : Nat → PyData} (e : p n = true) : outs (n + 1) p h = outs n p h ++ [h n] := by
  unfold outs
  rw [List.range_succ, List.filter_append, List.map_append, List.filter_cons, if_pos e] <;> rfl
theorem outs_no {n : Nat} {p : Nat → Bool} {h : Nat → PyData} (e : p n = false) : outs (n + 1) p h = outs n p h := by
  unfold outs
  rw [List.range_succ, List.filter_append, List.map_append, List.filter_cons, if_neg (by rw [e]; decide)]
  show _ ++ [] = _
  rw [List.append_nil]
theorem outs_len (n : Nat) (p : Nat → Bool) (h : Nat → PyData) : (outs n p h).length ≤ n := by
  unfold outs
  rw [List.length_map]
  have q := List.length_filter_le p (List.range n)
  rw [List.length_range] at q
  exact q
theorem outs_map {α : Type} {xs : List α} {f : α → PyData} {h : Nat → PyData} (e : ∀ i x, xs[i]? = some x → h i = f x) : outs xs.length (fun _ => true) h = xs.map f := by
  unfold outs
  rw [List.filter_eq_self.mpr (by simp)]
  apply List.ext_getElem?
  intro i
  simp only [List.getElem?_map]
  by_cases hi : i < xs.length
  · simp [hi, e i xs[i] (by simp [hi])]
  · simp [hi]
theorem sz_list {n : Nat} (h : n < 100000) : n < sizeLine := Nat.lt_of_lt_of_le h (by decide)
theorem ed_lc {wi : TI} {g : TG} {tt : TT} {te : TE} {vs : List Nat} {n : Nat} {f h : Nat → PyData} {p : Nat → Bool} {B : Nat → Hp → L2.St → Prop} (hi : EI K G wi σ n f) (hn : n < 100000) (hb : ∀ i, i < n → EG K g (wipe σ vs) (f i) (B i))
    (hw : ∀ i G1 σ2, i < n → B i G1 σ2 → wipe σ2 vs = wipe σ vs) (ht : ∀ i G1 σ2, i < n → Same G G1 → B i G1 σ2 → ET K G1 tt σ2 (p i)) (he : ∀ i G1 σ2, i < n → Same G G1 → B i G1 σ2 → p i = true → ED K G1 te σ2 (h i)) :
    ED K G (tLc wi g tt te vs) σ (.list (outs n p h)) := fun G1 H a gh Q q => hi G1 H a gh _ fun J G2 H2 e2 W D hD => by
  refine ⟨fun i m H' => m = n - i ∧ i ≤ n ∧ ∃ G' acc, Ext [] G2 H2 G' H' ∧ G' D = none ∧ H' D = some (.lst acc) ∧ DtAll K G' acc (outs i p h), ⟨n, by simp, Nat.zero_le _, G2, [], Ext.cell e2.gh hD, e2.gh.free hD, upd_same, .nil⟩, ?_⟩
  rintro i m H' ⟨rfl, hin, G', acc, e, gD, hacc, hds⟩
  have gsame : Same G2 H' := e.gg.trans e.gh
  by_cases hlt : i < n
  · refine .inr ⟨W.goes i H' hlt gsame, fun H'' => i + 1 ≤ n ∧ ∃ G' acc, Ext [] G2 H2 G' H'' ∧ G' D = none ∧ H'' D = some (.lst acc) ∧ DtAll K G' acc (outs (i + 1) p h), fun H'' ⟨h1, h2⟩ => ⟨n - (i + 1), by omega, rfl, h1, h2⟩, fun x H3 y => ?_⟩
    obtain ⟨G3, e3, hx⟩ := W.yields i H' x H3 G' hlt e.gg e.gh y
    refine hb i hlt G3 H3 x e3.gh hx _ fun σ2 hσ => ⟨hw i G3 σ2 hlt hσ, ?_⟩
    have eG : Same G G3 := ((a.trans e2.gg).trans e.gg).trans e3.gg
    refine ht i G3 σ2 hlt eG hσ G3 H3 (Same.refl G3) e3.gh _ fun G4 H4 e4 => ?_
    have e24 : Ext [] G2 H2 G4 H4 := (e.same e3).same e4
    have gD4 : G4 D = none := (e3.same e4).free gD hacc
    have hacc4 : H4 D = some (.lst acc) := (e3.same e4).keep hacc (by simp)
    have hds4 : DtAll K G4 acc (outs i p h) := same_dts (e3.same e4).gg hds
    cases hp : p i with
    | false => exact iteF ⟨hlt, G4, acc, e24, gD4, hacc4, by rw [outs_no hp]; exact hds4⟩
    | true =>
      refine iteT ?_
      refine (he i G3 σ2 hlt eG hσ hp).mono e4.gg G4 H4 (Same.refl G4) e4.gh _ fun w G5 H5 e5 hwd => ?_
      have l := outs_len i p h
      have l2 := dts_len hds4
      refine ⟨acc, e5.keep hacc4 (by simp), sz_list (by omega), hlt, G5, acc ++ [w], (e24.same e5).trans (Ext.put e5.gh (e5.free gD4 hacc4) (e5.keep hacc4 (by simp))) fun z hz => .inr (by rw [List.mem_singleton] at hz; rw [hz]; exact hD), e5.free gD4 hacc4, upd_same, ?_⟩
      rw [outs_yes hp]
      exact dts_app (same_dts e5.gg hds4) (.cons hwd .nil)
  · have ei : i = n := by omega
    subst ei
    refine .inl ⟨W.stops H' gsame, ?_⟩
    have ek := Ext.know e.gh hacc gD e hD
    exact q _ _ H' (e2.same ek) (.lst (SqL.of upd_same) (same_dts (same_new gD) hds))

/-! ### statements that return data, or go on -/
def ES (K : PySem.W.Frag) (G : Hp) (ts : TS) (σ : L2.St) (R : PyData → Prop) (N : Hp → L2.St → Prop) : Prop := ∀ G1 H, Same G G1 → Same G1 H → ∀ D : Ends, (∀ v d G2 H2, Ext [] G1 H G2 H2 → Dt K G2 v d → R d → D.rt v H2) → (∀ σ' G2 H2, Ext [] G1 H G2 H2 → N G2 σ' → D.nx σ' H2) → ts D σ H
variable {R : PyData → Prop} {N M : Hp → L2.St → Prop} {ts tz tw : TS}
theorem ES.mono (h : ES K G ts σ R N) (e : Same G G') : ES K G' ts σ R N := fun G1 H a => h G1 H (e.trans a)
theorem es_ret (h : ED K G te σ d) (hr : R d) : ES K G (tRet te) σ R N := fun G1 H a gh D hrt hnx => h G1 H a gh _ fun v G2 H2 e hv => hrt v d G2 H2 e hv hr
theorem es_next (h : ∀ G1, Same G G1 → N G1 σ) : ES K G tNext σ R N := fun G1 H a gh D hrt hnx => hnx σ G1 H (Ext.refl gh) (h G1 a)
theorem es_seq (h : ES K G ts σ R M) (k : ∀ G1 σ1, Same G G1 → M G1 σ1 → ES K G1 tz σ1 R N) : ES K G (tSeq ts tz) σ R N := fun G1 H a gh D hrt hnx =>
  h G1 H a gh { D with nx := tz D } hrt fun σ1 G2 H2 e hm => k G2 σ1 (a.trans e.gg) hm G2 H2 (Same.refl G2) e.gh D (fun v d G3 H3 e3 => hrt v d G3 H3 (e.same e3)) (fun σ' G3 H3 e3 => hnx σ' G3 H3 (e.same e3))
theorem es_cut (h : ES K G ts σ R M) (k : ∀ G1 σ1, Same G G1 → M G1 σ1 → ES K G1 tz σ1 R N) : ES K G (tCut ts tz) σ R N := fun G1 H a gh D hrt hnx =>
  ⟨tz D, h G1 H a gh { D with nx := tz D } hrt fun σ1 G2 H2 e hm => k G2 σ1 (a.trans e.gg) hm G2 H2 (Same.refl G2) e.gh D (fun v d G3 H3 e3 => hrt v d G3 H3 (e.same e3)) (fun σ' G3 H3 e3 => hnx σ' G3 H3 (e.same e3)), fun _ _ z => z⟩
theorem es_asg {i : Nat} (h : ED K G te σ d) (k : ∀ G1 x, Same G G1 → Dt K G1 x d → N G1 (σ.set i (some x))) : ES K G (tAsg te (gName i)) σ R N := fun G1 H a gh D hrt hnx => h G1 H a gh _ fun v G2 H2 e hv => hnx _ G2 H2 e (k G2 v (a.trans e.gg) hv)
/-- x = e, then the rest -/
theorem es_set {i : Nat} (h : ED K G te σ d) (k : ∀ G1 x, Same G G1 → Dt K G1 x d → ES K G1 tz (σ.set i (some x)) R N) : ES K G (tSeq (tAsg te (gName i)) tz) σ R N :=
  es_seq (M := fun G1 σ1 => ∃ x, Dt K G1 x d ∧ σ1 = σ.set i (some x)) (es_asg h fun G1 x a hx => ⟨x, hx, rfl⟩) fun G1 σ1 a ⟨x, hx, e⟩ => by rw [e]; exact k G1 x a hx
/-- a target of any kind -/
theorem es_asgG {g : TG} {B : Hp → L2.St → Prop} (h : ED K G te σ d) (hb : EG K g σ d B) (k : ∀ G1 σ1, Same G G1 → B G1 σ1 → ES K G1 tz σ1 R N) : ES K G (tSeq (tAsg te g) tz) σ R N :=
  es_seq (M := B) (fun G1 H a gh D hrt hnx => h G1 H a gh _ fun v G2 H2 e hv => hb G2 H2 v e.gh hv _ fun σ2 hσ => hnx σ2 G2 H2 e hσ) k
theorem es_if (h : ET K G t σ b) (h1 : b = true → ES K G ts σ R N) (h2 : b = false → ES K G tz σ R N) : ES K G (tIfS t ts tz) σ R N := fun G1 H a gh D hrt hnx => h G1 H a gh _ fun G2 H2 e => by
  cases b with
  | true => exact iteT ((h1 rfl).mono (a.trans e.gg) G2 H2 (Same.refl G2) e.gh D (fun v d G3 H3 e3 => hrt v d G3 H3 (e.same e3)) (fun σ' G3 H3 e3 => hnx σ' G3 H3 (e.same e3)))
  | false => exact iteF ((h2 rfl).mono (a.trans e.gg) G2 H2 (Same.refl G2) e.gh D (fun v d G3 H3 e3 => hrt v d G3 H3 (e.same e3)) (fun σ' G3 H3 e3 => hnx σ' G3 H3 (e.same e3)))
/-- if t: .. (and nothing else), then the rest -/
theorem es_when (h : ET K G t σ b) (h1 : b = true → ES K G (tSeq ts tz) σ R N) (h2 : b = false → ES K G tz σ R N) : ES K G (tSeq (tIfS t ts tNext) tz) σ R N := fun G1 H a gh D hrt hnx => h G1 H a gh _ fun G2 H2 e => by
  cases b with
  | true => exact iteT ((h1 rfl).mono (a.trans e.gg) G2 H2 (Same.refl G2) e.gh D (fun v d G3 H3 e3 => hrt v d G3 H3 (e.same e3)) (fun σ' G3 H3 e3 => hnx σ' G3 H3 (e.same e3)))
  | false => exact iteF ((h2 rfl).mono (a.trans e.gg) G2 H2 (Same.refl G2) e.gh D (fun v d G3 H3 e3 => hrt v d G3 H3 (e.same e3)) (fun σ' G3 H3 e3 => hnx σ' G3 H3 (e.same e3)))
theorem es_retSeq (h : ED K G te σ d) (hr : R d) : ES K G (tSeq (tRet te) tz) σ R N := es_seq (M := fun _ _ => False) (es_ret h hr) fun _ _ _ z => z.elim
theorem es_drop (h : ED K G te σ d) (k : ∀ G1, Same G G1 → N G1 σ) : ES K G (tDrop te) σ R N := fun G1 H a gh D hrt hnx => h G1 H a gh _ fun v G2 H2 e hv => hnx _ G2 H2 e (k G2 (a.trans e.gg))
theorem es_for {wi : TI} {g : TG} {n : Nat} {f : Nat → PyData} {B : Nat → L2.St → Hp → L2.St → Prop} (hi : EI K G wi σ n f) (I : Nat → Hp → L2.St → Prop) (h0 : ∀ G1, Same G G1 → I 0 G1 σ) (mono : ∀ i G1 G2 σ1, Same G1 G2 → I i G1 σ1 → I i G2 σ1)
    (hb : ∀ i G1 σ1, i < n → Same G G1 → I i G1 σ1 → EG K g σ1 (f i) (B i σ1)) (hs : ∀ i G1 σ1 σ2, i < n → Same G G1 → I i G1 σ1 → B i σ1 G1 σ2 → ES K G1 ts σ2 R (I (i + 1))) (hd : ∀ G1 σ1, Same G G1 → I n G1 σ1 → N G1 σ1) :
    ES K G (tFor wi g ts) σ R N := fun G1 H a gh D hrt hnx => hi G1 H a gh _ fun J G2 H2 e2 W => by
  refine ⟨fun i m σ' H' => m = n - i ∧ i ≤ n ∧ ∃ G', Ext [] G2 H2 G' H' ∧ I i G' σ', ⟨n, by simp, Nat.zero_le _, G2, Ext.refl e2.gh, h0 G2 (a.trans e2.gg)⟩, ?_⟩
  rintro i m σ' H' ⟨rfl, hin, G', e, hI⟩
  have gsame : Same G2 H' := e.gg.trans e.gh
  by_cases hlt : i < n
  · refine .inr ⟨W.goes i H' hlt gsame, fun σ'' H'' => i + 1 ≤ n ∧ ∃ G', Ext [] G2 H2 G' H'' ∧ I (i + 1) G' σ'', fun σ'' H'' ⟨h1, h2⟩ => ⟨n - (i + 1), by omega, rfl, h1, h2⟩, fun x H3 y => ?_⟩
    obtain ⟨G3, e3, hx⟩ := W.yields i H' x H3 G' hlt e.gg e.gh y
    have eG : Same G G3 := ((a.trans e2.gg).trans e.gg).trans e3.gg
    have hI3 := mono i _ _ _ e3.gg hI
    refine hb i G3 σ' hlt eG hI3 G3 H3 x e3.gh hx _ fun σ2 hσ => ?_
    exact hs i G3 σ' σ2 hlt eG hI3 hσ G3 H3 (Same.refl G3) e3.gh _ (fun v d G4 H4 e4 => hrt v d G4 H4 (e2.same ((e.same e3).same e4))) fun σ4 G4 H4 e4 hI4 => ⟨hlt, G4, (e.same e3).same e4, hI4⟩
  · have ei : i = n := by omega
    subst ei
    exact .inl ⟨W.stops H' gsame, hnx σ' G' H' (e2.same e) (hd G' σ' (((a.trans e2.gg)).trans e.gg) hI)⟩
end

/-! ### loops that draw: I tells of what is known, of the heap and of the slots -/
section
variable {K : PySem.W.Frag} {G G0 H : Hp} {σ : L2.St} {D : Ends}
theorem for_imp {wi : TI} {g : TG} {tb : TS} {n : Nat} {f : Nat → PyData} (hi : EI K G wi σ n f) (g0 : Same G G0) (gh : Same G0 H) (I : Nat → Hp → Hp → L2.St → Prop) (h0 : ∀ G1 H1, Ext [] G0 H G1 H1 → I 0 G1 H1 σ)
    (hs : ∀ i G1 H1 σ1 x G2 H2, i < n → I i G1 H1 σ1 → Same G0 G1 → Ext [] G1 H1 G2 H2 → Dt K G2 x (f i) → g x σ1 H2 fun σ2 H3 => tb { D with nx := fun σ' H' => ∃ G', Same G1 G' ∧ Same G' H' ∧ I (i + 1) G' H' σ', ct := fun σ' H' => ∃ G', Same G1 G' ∧ Same G' H' ∧ I (i + 1) G' H' σ', bk := D.nx } σ2 H3)
    (hd : ∀ G1 H1 σ1, Same G0 G1 → Same G1 H1 → I n G1 H1 σ1 → D.nx σ1 H1) : tFor wi g tb D σ H := hi G0 H g0 gh _ fun J G2 H2 e2 W => by
  refine ⟨fun i m σ' H' => m = n - i ∧ i ≤ n ∧ ∃ G', Same G2 G' ∧ Same G' H' ∧ I i G' H' σ', ⟨n, by simp, Nat.zero_le _, G2, Same.refl G2, e2.gh, h0 G2 H2 e2⟩, ?_⟩
  rintro i m σ' H' ⟨rfl, hin, G', e, gh', hI⟩
  by_cases hlt : i < n
  · refine .inr ⟨W.goes i H' hlt (e.trans gh'), fun σ'' H'' => ∃ G'', Same G' G'' ∧ Same G'' H'' ∧ I (i + 1) G'' H'' σ'', fun σ'' H'' ⟨G'', h1, h2, h3⟩ => ⟨n - (i + 1), by omega, rfl, hlt, G'', e.trans h1, h2, h3⟩, fun x H3 y => ?_⟩
    obtain ⟨G3, e3, hx⟩ := W.yields i H' x H3 G' hlt e gh' y
    exact hs i G' H' σ' x G3 H3 hlt hI (e2.gg.trans e) e3 hx
  · have ei : i = n := by omega
    subst ei
    exact .inl ⟨W.stops H' (e.trans gh'), hd G' H' σ' (e2.gg.trans e) gh' hI⟩
end

/-! ### a pure def by its body -/
section
variable {P : Program} {w : World} {K : PySem.W.Frag} {mg : Str → Option Value} {base : Heap}
theorem FnIn.pure {x : Str} {st : Stmt} {N ps : List Str} {k : Nat} {R : List PyData → PyData → Prop} (F : FnIn K mg x st) (S : FnScope N ps (defScope st)) (len : ∀ ds d, R ds d → ds.length = ps.length)
    (hb : ∀ (kV doc pm : Value) (an : Option Addr) (cdv ct : Value) (us : List Value), us.length = ps.length → bindArgs (PySem.W.fnOf x x (defArgs st) (defBody st) (defScope st) .none kV doc pm an cdv ct) ⟨us, []⟩ = pure (ps.zip us))
    (body : ∀ (f : Addr) (cdv : Value) (A : Around) (outer : List Env) (s : Shared) (H : Hp) (E : XK), Room k (A.deeper (PyProof.Rows.envOfC x (defScope st) s.heap.objs.size f cdv)) →
      ∃ t, PSs (cxOf CX0 P w K mg base N x (defScope st) f cdv A outer s H E).nox (defBody st) t ∧ ∀ G vs ds d, DtAll K G vs ds → R ds d → ES K G t (start N vs) (fun d' => d' = d) (fun _ _ => d = .none)) : Has P w K mg base CX0 (k + 1) x ps (PFn K R) := by
  refine F.ok S (fun vs H Q E ⟨G, ds, d, gh, hv, hr, q⟩ => (dts_len hv).trans (len ds d hr)) hb (fun f cdv A outer s H vs Q E hr ⟨G, ds, d, gh, hv, hR, q⟩ => ?_)
  obtain ⟨t, ht, hs⟩ := body f cdv A outer s H E hr
  refine ⟨t, ht, hs G vs ds d hv hR G H (Same.refl G) gh _ (fun v d' G2 H2 e hv' e' => ?_) (fun σ' G2 H2 e e' => ?_)⟩
  · subst e'
    exact q v G2 H2 e hv'
  · exact q .non G2 H2 e (by rw [e']; exact .non)
end
end S

set_option autoImplicit false
namespace S
open PySem L2
local macro_rules | `(tactic| walk_at "dt") => `(tactic| first | assumption | (refine same_dt (by assumption) ?_; walk_at "dt"))
local macro_rules | `(tactic| walk_at "if") => `(tactic| first | refine ite_pos (by decide +kernel) ?_ | refine ite_neg (by decide +kernel) ?_)
def top (i : Nat) : Stmt := PySem.Challenge.pw_sheetland_k01_ways_and_signs.main.body.getD i (.Pass ⟨0, 0, 0, 0⟩)
abbrev s_bit_of : Stmt := top 3
abbrev s_against : Stmt := top 4
abbrev s_neighbour : Stmt := top 5
abbrev s_ways_in : Stmt := top 6
abbrev s_bits_of : Stmt := top 7
abbrev s_sign_of : Stmt := top 8
abbrev s__law_mixed : Stmt := top 10
abbrev s__law_state : Stmt := top 11
abbrev s__law_take : Stmt := top 12
abbrev s__law_whole : Stmt := top 13
abbrev s__law_spot : Stmt := top 14
abbrev s__law_beside : Stmt := top 15
abbrev s__law_ways_good : Stmt := top 16
abbrev s__law_bits_good : Stmt := top 17
abbrev s_law : Stmt := top 18
theorem sc_bit_of : FnScope ["way"] ["way"] (defScope s_bit_of) := ⟨rfl, rfl, rfl, by decide +kernel, rfl, by decide +kernel, by decide +kernel⟩
theorem sc_against : FnScope ["way"] ["way"] (defScope s_against) := ⟨rfl, rfl, rfl, by decide +kernel, rfl, by decide +kernel, by decide +kernel⟩
theorem sc_neighbour : FnScope ["cell", "way", "row", "column"] ["cell", "way"] (defScope s_neighbour) := ⟨rfl, rfl, rfl, by decide +kernel, rfl, by decide +kernel, by decide +kernel⟩
theorem sc_ways_in : FnScope ["bits", "way"] ["bits"] (defScope s_ways_in) := ⟨rfl, rfl, rfl, by decide +kernel, rfl, by decide +kernel, by decide +kernel⟩
theorem sc_bits_of : FnScope ["sign"] ["sign"] (defScope s_bits_of) := ⟨rfl, rfl, rfl, by decide +kernel, rfl, by decide +kernel, by decide +kernel⟩
theorem sc_sign_of : FnScope ["bits"] ["bits"] (defScope s_sign_of) := ⟨rfl, rfl, rfl, by decide +kernel, rfl, by decide +kernel, by decide +kernel⟩
theorem sc__law_mixed : FnScope ["_law_cell", "_law_k", "_law_more"] ["_law_cell", "_law_k"] (defScope s__law_mixed) := ⟨rfl, rfl, rfl, by decide +kernel, rfl, by decide +kernel, by decide +kernel⟩
theorem sc__law_state : FnScope ["_law_cells", "_law_k"] ["_law_cells", "_law_k"] (defScope s__law_state) := ⟨rfl, rfl, rfl, by decide +kernel, rfl, by decide +kernel, by decide +kernel⟩
theorem sc__law_take : FnScope ["_law_state_here", "_law_many", "_law_at", "_law_cell", "_law_found", "_law_k"] ["_law_state_here", "_law_many"] (defScope s__law_take) := ⟨rfl, rfl, rfl, by decide +kernel, rfl, by decide +kernel, by decide +kernel⟩
theorem sc__law_whole : FnScope ["_law_found"] ["_law_found"] (defScope s__law_whole) := ⟨rfl, rfl, rfl, by decide +kernel, rfl, by decide +kernel, by decide +kernel⟩
theorem sc__law_spot : FnScope ["_law_state_here"] ["_law_state_here"] (defScope s__law_spot) := ⟨rfl, rfl, rfl, by decide +kernel, rfl, by decide +kernel, by decide +kernel⟩
theorem sc__law_beside : FnScope ["_law_cell", "_law_way", "_law_row", "_law_column"] ["_law_cell", "_law_way"] (defScope s__law_beside) := ⟨rfl, rfl, rfl, by decide +kernel, rfl, by decide +kernel, by decide +kernel⟩
theorem sc__law_ways_good : FnScope ["_law_cell", "_law_way", "_law_other", "_law_found", "_law_one"] ["_law_cell"] (defScope s__law_ways_good) := ⟨rfl, rfl, rfl, by decide +kernel, rfl, by decide +kernel, by decide +kernel⟩
theorem sc__law_bits_good : FnScope ["_law_bits", "_law_due", "_law_way", "_law_bit", "_law_found", "_law_sign"] ["_law_bits"] (defScope s__law_bits_good) := ⟨rfl, rfl, rfl, by decide +kernel, rfl, by decide +kernel, by decide +kernel⟩
theorem sc_law : FnScope ["_law_script", "_law_k", "_law_cell", "_law_state_here"] ["_law_script"] (defScope s_law) := ⟨rfl, rfl, rfl, by decide +kernel, rfl, by decide +kernel, by decide +kernel⟩
/-- what the walk asks of the module's names -/
structure Txt (mg : Str → Option Value) : Prop where
  b_all : mg "all" = none
  b_bool : mg "bool" = none
  b_enumerate : mg "enumerate" = none
  b_int : mg "int" = none
  b_isinstance : mg "isinstance" = none
  b_len : mg "len" = none
  b_str : mg "str" = none
  b_sum : mg "sum" = none
  b_tuple : mg "tuple" = none
  g_SIXTEENS : GV mg "SIXTEENS" (.str "0123456789abcdef")
  g_WAYS : GV mg "WAYS" (.str "nesw")
/-! ### ways.py: the mathematics -/
def wc : _root_.Fin 4 → Nat | 0 => 110 | 1 => 101 | 2 => 115 | 3 => 119
def wy (i : _root_.Fin 4) : Str := ⟨#[wc i]⟩
abbrev WAYS : Str := "nesw"
abbrev SIXTEENS : Str := "0123456789abcdef"
theorem fin4 (i : _root_.Fin 4) : i = 0 ∨ i = 1 ∨ i = 2 ∨ i = 3 := by revert i; decide
theorem occ_ways : ∀ i : _root_.Fin 4, Builtin.Str.occurrences WAYS (wy i) 0 WAYS.length 1 = [i.val] := by decide +kernel
theorem at_against : ∀ i : _root_.Fin 4, atI WAYS.cps.toList ((((i.val : Nat) : Int) + 2) % 4) = some (wc (i + 2)) := by decide +kernel
def nbR : _root_.Fin 4 → Int | 0 => -1 | 1 => 0 | 2 => 1 | 3 => 0
def nbC : _root_.Fin 4 → Int | 0 => 0 | 1 => 1 | 2 => 0 | 3 => -1
abbrev dCell (r c : Int) : PyData := .tuple [.int r, .int c]
def R_bit_of (ds : List PyData) (d : PyData) : Prop := ∃ i : _root_.Fin 4, ds = [.str (wy i)] ∧ d = .int (2 ^ i.val)
def R_against (ds : List PyData) (d : PyData) : Prop := ∃ i : _root_.Fin 4, ds = [.str (wy i)] ∧ d = .str (wy (i + 2))
def R_neighbour (ds : List PyData) (d : PyData) : Prop := ∃ (r c : Int) (i : _root_.Fin 4), ds = [dCell r c, .str (wy i)] ∧ d = dCell (r + nbR i) (c + nbC i)
/-- the ways of a sum, those below n -/
def wl (b : _root_.Fin 16) (n : Nat) : List Str := ((List.range n).filter (fun i => b.val.testBit i)).map (fun i => ⟨#[WAYS.cps.getD i 0]⟩)
def waysS (b : _root_.Fin 16) : Str := Txt.join Str.empty (wl b 4)
def R_ways_in (ds : List PyData) (d : PyData) : Prop := ∃ b : _root_.Fin 16, ds = [.int (b.val : Int)] ∧ d = .str (waysS b)
def sxc (b : _root_.Fin 16) : Nat := SIXTEENS.cps.getD b.val 0
def sx (b : _root_.Fin 16) : Str := ⟨#[sxc b]⟩
theorem occ_sx : ∀ b : _root_.Fin 16, Builtin.Str.occurrences SIXTEENS (sx b) 0 SIXTEENS.length 1 = [b.val] := by decide +kernel
theorem at_sx : ∀ b : _root_.Fin 16, atI SIXTEENS.cps.toList (b.val : Int) = some (sxc b) := by decide +kernel
def R_bits_of (ds : List PyData) (d : PyData) : Prop := ∃ b : _root_.Fin 16, ds = [.str (sx b)] ∧ d = .int (b.val : Int)
def R_sign_of (ds : List PyData) (d : PyData) : Prop := ∃ b : _root_.Fin 16, ds = [.int (b.val : Int)] ∧ d = .str (sx b)
theorem bit_test : ∀ (b : _root_.Fin 16) (i : _root_.Fin 4), decide (0 < Builtin.bitAnd (b.val : Int) (2 ^ i.val)) = b.val.testBit i.val := by decide +kernel
theorem ways_at : ∀ i : _root_.Fin 4, WAYS.cps.getD i.val 0 = wc i := by decide +kernel
theorem wl_len : ∀ (b : _root_.Fin 16), (wl b 4).length ≤ 4 ∧ ((wl b 4).map (·.length)).sum ≤ 4 := by decide +kernel
section
variable {P : Program} {w : World} {K : PySem.W.Frag} {mg : Str → Option Value} {base : Heap}
/-! ### bit_of -/
theorem ok_bit_of (F : FnIn K mg "bit_of" s_bit_of) (T : Txt mg) : Has P w K mg base CX0 1 "bit_of" ["way"] (PFn K R_bit_of) := by
  refine F.pure sc_bit_of (fun ds d ⟨i, h, _⟩ => by rw [h]; rfl) (fun _ _ _ _ _ _ us hl => match us, hl with | [_], _ => rfl) (fun f cdv A outer s H E hr => ?_)
  have nd := sc_bit_of.nd
  refine ⟨_, (pss_one (ps_ret (pe_op op_shl pe_int (pe_m1 PySem.F.slot_str_index PySem.F.type_str_index mt_sindex (pe_gl rfl T.g_WAYS) (pv 0))))), ?_⟩
  rintro G vs ds d hv ⟨i, rfl, rfl⟩
  obtain ⟨v0, rfl, h0⟩ := dts1 hv
  refine es_ret (ed_op ed_int (ed_m1 ed_str (ed_var rfl (by walk_at "dt")) (md_sindex (occ_ways i))) (r2_c ⟨by omega, by omega, by decide⟩)) ?_
  show PyData.int ((1 : Int) * 2 ^ ((i.val : Nat) : Int).toNat) = _
  rw [Int.one_mul]
  rfl
/-! ### against -/
theorem ok_against (F : FnIn K mg "against" s_against) (T : Txt mg) : Has P w K mg base CX0 1 "against" ["way"] (PFn K R_against) := by
  refine F.pure sc_against (fun ds d ⟨i, h, _⟩ => by rw [h]; rfl) (fun _ _ _ _ _ _ us hl => match us, hl with | [_], _ => rfl) (fun f cdv A outer s H E hr => ?_)
  have nd := sc_against.nd
  refine ⟨_, (pss_one (ps_ret (pe_ix ix_str (pe_gl rfl T.g_WAYS) (pe_op op_mod (pe_op op_add (pe_m1 PySem.F.slot_str_index PySem.F.type_str_index mt_sindex (pe_gl rfl T.g_WAYS) (pv 0)) pe_int) pe_int) (fun _ _ => rfl)))), ?_⟩
  rintro G vs ds d hv ⟨i, rfl, rfl⟩
  obtain ⟨v0, rfl, h0⟩ := dts1 hv
  exact es_ret (ed_op ed_str (ed_op (ed_op (ed_m1 ed_str (ed_var rfl (by walk_at "dt")) (md_sindex (occ_ways i))) ed_int r2_i) ed_int (r2_c (by decide : (0 : Int) < 4))) (r2_ixS (by decide +kernel) (at_against i))) rfl
/-! ### neighbour -/
theorem es_augI {K : PySem.W.Frag} {G : Hp} {σ : L2.St} {te : TE} {i : Nat} {f : Int → Int → Int} {v : V} {a b : Int} {R : PyData → Prop} {N : Hp → L2.St → Prop} (h : σ[i]? = some (some v)) (hv : Dt K G v (.int a)) (he : ED K G te σ (.int b)) (k : ∀ G1, Same G G1 → N G1 (σ.set i (some (.int (f a b))))) :
    ES K G (tAug i te (ipI f)) σ R N := fun G1 H e gh D hrt hnx => ⟨v, h, he G1 H e gh _ fun y G2 H2 e2 hy => ⟨a, b, dt_int hv, dt_int hy, hnx _ G2 H2 e2 (k G2 (e.trans e2.gg))⟩⟩
theorem ok_neighbour (F : FnIn K mg "neighbour" s_neighbour) : Has P w K mg base CX0 1 "neighbour" ["cell", "way"] (PFn K R_neighbour) := by
  refine F.pure sc_neighbour (fun ds d ⟨r, c, i, h, _⟩ => by rw [h]; rfl) (fun _ _ _ _ _ _ us hl => match us, hl with | [_, _], _ => rfl) (fun f cdv A outer s H E hr => ?_)
  have nd := sc_neighbour.nd
  refine ⟨_, (pss_cons (ps_asg (pv 0) (pg_tup rfl (pgs_cons (pg_name (i := 2) nd rfl (Or.inl rfl)) (pgs_cons (pg_name (i := 3) nd rfl (Or.inl rfl)) pgs_nil))))
    (pss_cons (ps_if (pt_cmpR op_eq (pv 1) pe_str (nomark _)) (pss_one (ps_aug (i := 2) nd rfl (Or.inl rfl) pe_int ip_sub)) (pss_one (ps_if (pt_cmpR op_eq (pv 1) pe_str (nomark _)) (pss_one (ps_aug (i := 2) nd rfl (Or.inl rfl) pe_int ip_add)) (pss_one (ps_if (pt_cmpR op_eq (pv 1) pe_str (nomark _)) (pss_one (ps_aug (i := 3) nd rfl (Or.inl rfl) pe_int ip_add)) (pss_one (ps_aug (i := 3) nd rfl (Or.inl rfl) pe_int ip_sub)))))))
    (pss_one (ps_ret (pe_tup (pa_cons (pv 2) (pa_cons (pv 3) pa_nil))))))), ?_⟩
  rintro G vs ds d hv ⟨r, c, i, rfl, rfl⟩
  obtain ⟨v0, v1, rfl, h0, h1⟩ := dts2 hv
  refine es_asgG (ed_var rfl (by walk_at "dt")) eg_tup2 fun G1 σ1 a1 hB => ?_
  obtain ⟨x, y, hx, hy, rfl⟩ := hB
  have hw := same_dt a1 h1
  rw [dt_str hw, dt_int hx, dt_int hy]
  refine es_seq (M := fun _ σ1 => σ1 = [some v0, some (.str (wy i)), some (.int (r + nbR i)), some (.int (c + nbC i))]) ?_ fun G2 σ2 a2 hM => by
    subst hM
    exact es_ret (ed_tup (ea_cons (ed_var rfl (.int _)) (ea_cons (ed_var rfl (.int _)) ea_nil))) rfl
  rcases fin4 i with rfl | rfl | rfl | rfl
  · refine es_if (et_test (ed_op (ed_var rfl (.str _)) ed_str r2_eqS)) (fun hb => ?_) (fun hb => absurd hb (by decide +kernel))
    refine es_augI rfl (.int _) ed_int fun G2 a2 => ?_
    show _ = [some v0, some (V.str (wy 0)), some (V.int (r + nbR 0)), some (V.int (c + nbC 0))]
    rw [show c + nbC 0 = c from Int.add_zero c]
    rfl
  · refine es_if (et_test (ed_op (ed_var rfl (.str _)) ed_str r2_eqS)) (fun hb => absurd hb (by decide +kernel)) (fun hb => ?_)
    refine es_if (et_test (ed_op (ed_var rfl (.str _)) ed_str r2_eqS)) (fun hb => absurd hb (by decide +kernel)) (fun hb => ?_)
    refine es_if (et_test (ed_op (ed_var rfl (.str _)) ed_str r2_eqS)) (fun hb => ?_) (fun hb => absurd hb (by decide +kernel))
    refine es_augI rfl (.int _) ed_int fun G2 a2 => ?_
    show _ = [some v0, some (V.str (wy 1)), some (V.int (r + nbR 1)), some (V.int (c + nbC 1))]
    rw [show r + nbR 1 = r from Int.add_zero r]
    rfl
  · refine es_if (et_test (ed_op (ed_var rfl (.str _)) ed_str r2_eqS)) (fun hb => absurd hb (by decide +kernel)) (fun hb => ?_)
    refine es_if (et_test (ed_op (ed_var rfl (.str _)) ed_str r2_eqS)) (fun hb => ?_) (fun hb => absurd hb (by decide +kernel))
    refine es_augI rfl (.int _) ed_int fun G2 a2 => ?_
    show _ = [some v0, some (V.str (wy 2)), some (V.int (r + nbR 2)), some (V.int (c + nbC 2))]
    rw [show c + nbC 2 = c from Int.add_zero c]
    rfl
  · refine es_if (et_test (ed_op (ed_var rfl (.str _)) ed_str r2_eqS)) (fun hb => absurd hb (by decide +kernel)) (fun hb => ?_)
    refine es_if (et_test (ed_op (ed_var rfl (.str _)) ed_str r2_eqS)) (fun hb => absurd hb (by decide +kernel)) (fun hb => ?_)
    refine es_if (et_test (ed_op (ed_var rfl (.str _)) ed_str r2_eqS)) (fun hb => absurd hb (by decide +kernel)) (fun hb => ?_)
    refine es_augI rfl (.int _) ed_int fun G2 a2 => ?_
    show _ = [some v0, some (V.str (wy 3)), some (V.int (r + nbR 3)), some (V.int (c + nbC 3))]
    rw [show r + nbR 3 = r from Int.add_zero r]
    rfl
/-! ### ways_in -/
theorem ok_ways_in (F : FnIn K mg "ways_in" s_ways_in) (T : Txt mg) (F_bit_of : Has P w K mg base CX0 1 "bit_of" ["way"] (PFn K R_bit_of)) : Has P w K mg base CX0 2 "ways_in" ["bits"] (PFn K R_ways_in) := by
  refine F.pure sc_ways_in (fun ds d ⟨b, h, _⟩ => by rw [h]; rfl) (fun _ _ _ _ _ _ us hl => match us, hl with | [_], _ => rfl) (fun f cdv A outer s H E hr => ?_)
  have nd := sc_ways_in.nd
  refine ⟨_, (pss_one (ps_ret (pe_join pe_str (pe_lc (own := [("way", 1)]) (by rfl) nd (pi_str (pe_gl rfl T.g_WAYS)) (blkOk_by (own := [("way", 1)]) (N := ["bits", "way"]) (sc := (defScope s_ways_in)) (by decide +kernel)) (fun _ _ _ _ _ => (pg_name (i := 1) nd rfl (Or.inl rfl))) (fun _ _ _ _ _ => (pts_one (pt_cmpR op_gt (pe_op op_and (pv 0) (pe_fn F_bit_of hr (by decide) rfl (pa_cons (pv 1) pa_nil))) pe_int (nomark _)))) (fun _ _ _ _ _ => (pv 1)))))), ?_⟩
  rintro G vs ds d hv ⟨b, rfl, rfl⟩
  obtain ⟨v0, rfl, h0⟩ := dts1 hv
  have ln := wl_len b
  have l0 : Str.length "" = 0 := by decide +kernel
  have eo : outs WAYS.cps.size (fun i => b.val.testBit i) (fun i => .str ⟨#[WAYS.cps.getD i 0]⟩) = (wl b 4).map PyData.str := by
    rw [show WAYS.cps.size = 4 from by decide +kernel]
    unfold outs wl
    rw [List.map_map]
    rfl
  refine es_ret (ed_m1 ed_str (ED.to (ed_lc (ei_str ed_str) (h := fun i => .str ⟨#[WAYS.cps.getD i 0]⟩) (p := fun i => b.val.testBit i) (by decide +kernel) (fun _ _ => eg_name) (fun i G1 σ2 hi hB => by obtain ⟨x0, hx0, rfl⟩ := hB; rfl) (fun i G1 σ2 hi a1 hB => by
      obtain ⟨x0, hx0, rfl⟩ := hB
      have hi4 : i < 4 := hi
      have ew := ways_at ⟨i, hi4⟩
      rw [show WAYS.cps.getD i 0 = wc ⟨i, hi4⟩ from ew] at hx0
      exact ET.to (et_test (ed_op (ed_op (ed_var rfl (by walk_at "dt")) (ed_fn (ea_cons (ed_var rfl (by walk_at "dt")) ea_nil) ⟨⟨i, hi4⟩, rfl, rfl⟩) r2_i) ed_int r2_b)) (bit_test b ⟨i, hi4⟩))
    (fun i G1 σ2 hi a1 hB hp => by obtain ⟨x0, hx0, rfl⟩ := hB; exact (ed_var rfl (by walk_at "dt")))) (congrArg PyData.list eo)) (md_join (by rw [l0, Nat.mul_zero]; omega))) rfl
/-! ### bits_of, sign_of -/
theorem ok_bits_of (F : FnIn K mg "bits_of" s_bits_of) (T : Txt mg) : Has P w K mg base CX0 1 "bits_of" ["sign"] (PFn K R_bits_of) := by
  refine F.pure sc_bits_of (fun ds d ⟨i, h, _⟩ => by rw [h]; rfl) (fun _ _ _ _ _ _ us hl => match us, hl with | [_], _ => rfl) (fun f cdv A outer s H E hr => ?_)
  refine ⟨_, (pss_one (ps_ret (pe_m1 PySem.F.slot_str_index PySem.F.type_str_index mt_sindex (pe_gl rfl T.g_SIXTEENS) (pv 0)))), ?_⟩
  rintro G vs ds d hv ⟨b, rfl, rfl⟩
  obtain ⟨v0, rfl, h0⟩ := dts1 hv
  exact es_ret (ed_m1 ed_str (ed_var rfl (by walk_at "dt")) (md_sindex (occ_sx b))) rfl
theorem ok_sign_of (F : FnIn K mg "sign_of" s_sign_of) (T : Txt mg) : Has P w K mg base CX0 1 "sign_of" ["bits"] (PFn K R_sign_of) := by
  refine F.pure sc_sign_of (fun ds d ⟨i, h, _⟩ => by rw [h]; rfl) (fun _ _ _ _ _ _ us hl => match us, hl with | [_], _ => rfl) (fun f cdv A outer s H E hr => ?_)
  refine ⟨_, (pss_one (ps_ret (pe_ix ix_str (pe_gl rfl T.g_SIXTEENS) (pv 0) (fun _ _ => rfl)))), ?_⟩
  rintro G vs ds d hv ⟨b, rfl, rfl⟩
  obtain ⟨v0, rfl, h0⟩ := dts1 hv
  exact es_ret (ed_op ed_str (ed_var rfl (by walk_at "dt")) (r2_ixS (by decide +kernel) (at_sx b))) rfl
end

/-! ### draws -/
/-- the state by which draws are made -/
def stD (c : V) (at_ rest k : Int) : List (Key × V) := [(ks "cells", c), (ks "at", .int at_), (ks "rest", .int rest), (ks "k", .int k)]
theorem st_cells {c : V} {a r k : Int} : valV (stD c a r k) (ks "cells") = some c := by kernel_rfl
theorem st_at {c : V} {a r k : Int} : valV (stD c a r k) (ks "at") = some (.int a) := by kernel_rfl
theorem st_rest {c : V} {a r k : Int} : valV (stD c a r k) (ks "rest") = some (.int r) := by kernel_rfl
theorem st_k {c : V} {a r k : Int} : valV (stD c a r k) (ks "k") = some (.int k) := by kernel_rfl
theorem put_at {c : V} {a r k z : Int} : putK (stD c a r k) (ks "at") (.int z) = stD c z r k := by kernel_rfl
theorem put_rest {c : V} {a r k z : Int} : putK (stD c a r k) (ks "rest") (.int z) = stD c a z k := by kernel_rfl
theorem put_new {c : V} {k : Int} : mergeK [] [(ks "cells", c), (ks "at", .int 0), (ks "rest", .int 0), (ks "k", .int k)] = stD c 0 0 k := by kernel_rfl
theorem st_sz {c : V} {a r k : Int} : (stD c a r k).length < sizeLine := by show 4 < sizeLine; decide
/-- a state stands at p: its cells are known, fewer than n draws were made -/
structure St (K : PySem.W.Frag) (G H : Hp) (p : Addr) (n : Int) : Prop where
  ex : ∃ (c : V) (ns : List Int) (at_ rest k : Int), H p = some (.dK (stD c at_ rest k)) ∧ Dt K G c (.list (ns.map PyData.int)) ∧ 0 < ns.length ∧ 0 ≤ at_ ∧ at_ ≤ n ∧ 0 ≤ k ∧ k ≤ 1000
  un : G p = none
theorem St.keep {K : PySem.W.Frag} {M : List Addr} {G H G' H' : Hp} {p : Addr} {n : Int} (s : St K G H p n) (e : Ext M G H G' H') (hm : p ∉ M) : St K G' H' p n := by
  obtain ⟨⟨c, ns, a, r, k, h, hc, q⟩, u⟩ := s
  exact ⟨⟨c, ns, a, r, k, e.keep h hm, same_dt e.gg hc, q⟩, e.free u h⟩

section
variable {P : Program} {w : World} {K : PySem.W.Frag} {mg : Str → Option Value} {base : Heap}
/-! ### _law_mixed -/
def sp_mixed : Sp := fun vs H Q _ => ∃ c k : Int, vs = [.int c, .int k] ∧ 0 ≤ k ∧ k < 2 ^ 60 ∧ ∀ r : Int, 0 ≤ r → r < 2147483629 → Q (.int r) H
theorem ok_mixed (F : FnIn K mg "_law_mixed" s__law_mixed) : Has P w K mg base CX0 1 "_law_mixed" ["_law_cell", "_law_k"] sp_mixed := by
  refine F.ok sc__law_mixed (fun vs H Q E h => ?_) (fun _ _ _ _ _ _ us hl => match us, hl with | [_, _], _ => rfl) (fun f cdv A outer s H vs Q E hr h => ?_)
  · obtain ⟨c, k, rfl, _⟩ := h
    rfl
  · obtain ⟨c, k, rfl, k0, k1, q⟩ := h
    have nd := sc__law_mixed.nd
    refine ⟨_, (pss_cons (ps_set (i := 2) nd rfl (Or.inl rfl) (pe_op op_mod (pe_op op_mul (pe_op op_add (pe_op op_add (pe_op op_add (pe_op op_mod (pv 0) pe_int) (pe_op op_mul (pe_op op_mul pe_int (pv 1)) (pv 1))) (pe_op op_mul pe_int (pv 1))) pe_int) pe_int) pe_int))
    (pss_one (ps_ret (pe_op op_mod (pe_op op_mul (pv 2) (pe_op op_add pe_int (pe_op op_mul pe_int (pv 1)))) pe_int)))), ?_⟩
    refine ⟨_, rfl, _, _, rfl, rfl, (by decide : (0 : Int) < 2147483647), _, rfl, _, _, rfl, rfl, .inl ⟨by decide, by decide⟩, _, rfl, _, _, rfl, rfl, .inr ⟨by omega, by omega⟩, _, _, rfl, rfl, _, rfl, _, _, rfl, rfl, .inl ⟨by decide, by decide⟩, _, _, rfl, rfl, _, _, rfl, rfl,
      _, _, rfl, rfl, .inr ⟨by decide, by decide⟩, _, _, rfl, rfl, (by decide : (0 : Int) < 2147483647), ?_⟩
    refine ⟨_, rfl, _, rfl, _, _, rfl, rfl, .inl ⟨by decide, by decide⟩, _, _, rfl, rfl, _, _, rfl, rfl, .inr ⟨by omega, by omega⟩, _, _, rfl, rfl, (by decide : (0 : Int) < 2147483629), ?_⟩
    exact q _ (Int.emod_nonneg _ (by decide)) (Int.emod_lt_of_pos _ (by decide))
/-! ### _law_state -/
def sp_state : Sp := fun vs H Q _ => ∃ (c : V) (k : Int), vs = [c, .int k] ∧ ∀ p, H p = none → Q (.ref p) (upd H p (.dK (stD c 0 0 k)))
theorem ok_state (F : FnIn K mg "_law_state" s__law_state) : Has P w K mg base CX0 1 "_law_state" ["_law_cells", "_law_k"] sp_state := by
  refine F.ok sc__law_state (fun vs H Q E h => ?_) (fun _ _ _ _ _ _ us hl => match us, hl with | [_, _], _ => rfl) (fun f cdv A outer s H vs Q E hr h => ?_)
  · obtain ⟨c, k, rfl, _⟩ := h
    rfl
  · obtain ⟨c, k, rfl, q⟩ := h
    have nd := sc__law_state.nd
    refine ⟨_, (pss_one (ps_ret (pe_disp (pps_cons pe_str (pv 0) (pps_cons pe_str pe_int (pps_cons pe_str pe_int (pps_cons pe_str (pv 1) pps_nil)))) (by rfl) (by rfl) (fun z => by cases z) (by decide)))), ?_⟩
    intro p hp
    refine ⟨_, rfl, _, rfl, upd_same, [(ks "cells", c), (ks "at", .int 0), (ks "rest", .int 0), (ks "k", .int k)], rfl, (by show 4 ≤ 15; decide), ?_⟩
    rw [put_new, upd_upd]
    exact q p hp
/-! ### _law_take -/
def sp_take (K : PySem.W.Frag) : Sp := fun vs H Q _ => ∃ (G : Hp) (p : Addr) (n m : Int), vs = [.ref p, .int m] ∧ Same G H ∧ St K G H p n ∧ n < 2 ^ 50 ∧ 0 < m ∧ m < 1073741824 ∧
  ∀ (r : Int) (H' : Hp), Ext [p] G H G H' → St K G H' p (n + 1) → 0 ≤ r → r < m → Q (.int r) H'
theorem ok_take (F : FnIn K mg "_law_take" s__law_take) (T : Txt mg) (F__law_mixed : Has P w K mg base CX0 1 "_law_mixed" ["_law_cell", "_law_k"] sp_mixed) : Has P w K mg base CX0 2 "_law_take" ["_law_state_here", "_law_many"] (sp_take K) := by
  refine F.ok sc__law_take (fun vs H Q E h => ?_) (fun _ _ _ _ _ _ us hl => match us, hl with | [_, _], _ => rfl) (fun f cdv A outer s H vs Q E hr h => ?_)
  · obtain ⟨G, p, n, m, rfl, _⟩ := h
    rfl
  · obtain ⟨G, p, n, m, rfl, gh, ⟨⟨c, ns, a, r, k, hp, hc, hn, a0, a1, k0, k1⟩, gp⟩, hn2, m0, m1, q⟩ := h
    have nd := sc__law_take.nd
    refine ⟨_, (pss_cons (ps_set (i := 2) nd rfl (Or.inl rfl) (pe_dget (hu_of hr) (pv 0) pe_str (fun _ _ => rfl)))
    (pss_cons (ps_dput (hu_of hr) (pv 0) pe_str (pe_op op_add (pv 2) pe_int) rfl)
    (pss_cons (ps_set (i := 3) nd rfl (Or.inl rfl) (pe_ix ix_list (pe_dget (hu_of hr) (pv 0) pe_str (fun _ _ => rfl)) (pe_op op_mod (pe_op op_fdiv (pv 2) pe_int) (pe_callB call_len (by rfl) T.b_len (by decide +kernel) (pa_cons (pe_dget (hu_of hr) (pv 0) pe_str (fun _ _ => rfl)) pa_nil))) (fun _ _ => rfl)))
    (pss_cut (ps_if (pt_cmpR op_eq (pe_op op_mod (pv 2) pe_int) pe_int (nomark _)) (pss_one (ps_dput (hu_of hr) (pv 0) pe_str (pe_ifExp (pt_cmpR op_ge (pv 3) (pe_op op_pow pe_int pe_int) (nomark _)) (pv 3) pe_int) rfl)) pss_nil)
    (pss_cons (ps_if (pt_cmpR op_gt (pe_dget (hu_of hr) (pv 0) pe_str (fun _ _ => rfl)) pe_int (nomark _)) (pss_cons (ps_set (i := 4) nd rfl (Or.inl rfl) (pe_op op_mod (pe_dget (hu_of hr) (pv 0) pe_str (fun _ _ => rfl)) (pv 1)))
      (pss_cons (ps_dput (hu_of hr) (pv 0) pe_str (pe_op op_fdiv (pe_dget (hu_of hr) (pv 0) pe_str (fun _ _ => rfl)) (pv 1)) rfl)
      (pss_one (ps_ret (pv 4))))) pss_nil)
    (pss_cons (ps_set (i := 5) nd rfl (Or.inl rfl) (pe_op op_add (pv 2) (pe_op op_mul pe_int (pe_dget (hu_of hr) (pv 0) pe_str (fun _ _ => rfl)))))
    (pss_one (ps_ret (pe_op op_mod (pe_op op_fdiv (pe_op op_add (pe_op op_mul (pe_fn F__law_mixed hr (by decide) rfl (pa_cons (pv 3) (pa_cons (pv 5) pa_nil))) pe_int) (pe_fn F__law_mixed hr (by decide) rfl (pa_cons (pv 3) (pa_cons (pe_op op_add (pv 5) pe_int) pa_nil)))) pe_int) (pv 1)))))))))), ?_⟩
    obtain ⟨l, xs, rfl, hl, hx⟩ := dt_list hc gh
    have ex := dts_ints hx
    subst ex
    -- at; at + 1
    refine ⟨_, rfl, _, _, rfl, dget hp st_at, ?_⟩
    refine ⟨_, rfl, _, _, rfl, rfl, _, rfl, _, _, rfl, dput hp st_sz put_at, ?_⟩
    have e1 : Ext [p] G H G (upd H p (.dK (stD (.ref l) (a + 1) r k))) := Ext.put gh gp hp
    obtain ⟨l', xs', e', hl1, hx1⟩ := dt_list hc e1.gh
    cases e'
    have ex' := dts_ints hx1
    subst ex'
    -- the cell
    have hj : 0 ≤ a / 60 % ((ns.map V.int).length : Int) ∧ a / 60 % ((ns.map V.int).length : Int) < (ns.length : Int) := by
      rw [List.length_map]
      exact ⟨Int.emod_nonneg _ (by omega), Int.emod_lt_of_pos _ (by omega)⟩
    obtain ⟨cell, hcell⟩ : ∃ z : Int, atI (ns.map V.int) (a / 60 % ((ns.map V.int).length : Int)) = some (.int z) := by
      obtain ⟨x, h1, h2⟩ := atI_in (xs := ns.map V.int) hj.1 (by rw [List.length_map] at hj ⊢; exact hj.2)
      rw [List.getElem?_map] at h2
      cases e : ns[(a / 60 % ((ns.map V.int).length : Int)).toNat]? with
      | none => rw [e] at h2; cases h2
      | some z =>
        rw [e] at h2
        exact ⟨z, by rw [h1]; exact h2.symm⟩
    refine ⟨_, rfl, _, _, rfl, dget upd_same st_cells, _, rfl, _, _, rfl, rfl, ⟨by decide, by decide⟩, _, rfl, _, _, rfl, dget upd_same st_cells, _, _, rfl, .inl ⟨_, hl1, rfl⟩, _, _, rfl, rfl, (by rw [List.length_map]; omega), _, _, _, _, rfl, rfl, hl1, hcell, ?_⟩
    -- if at % 60 == 0: whatever is done, a rest stands there
    refine ⟨fun σ H1 => σ = [some (.ref p), some (.int m), some (.int a), some (.int cell), none, none] ∧ Ext [p] G H G H1 ∧ ∃ r, H1 p = some (.dK (stD (.ref l) (a + 1) r k)), ?_, ?_⟩
    · refine ⟨_, rfl, _, _, rfl, rfl, (by decide : (0 : Int) < 60), rfl, _, rfl, ?_⟩
      refine ite_both (fun _ => ?_) (fun _ => ⟨rfl, e1, r, upd_same⟩)
      refine ⟨_, rfl, _, _, rfl, rfl, ⟨by decide, by decide, by decide⟩, _, _, rfl, rfl, _, rfl, ?_⟩
      refine ite_both (fun _ => ?_) (fun _ => ?_)
      · refine ⟨_, rfl, _, rfl, _, _, rfl, dput upd_same st_sz put_rest, rfl, ?_, cell, upd_same⟩
        exact e1.trans (Ext.put e1.gh gp upd_same) fun _ h => .inl h
      · refine ⟨_, rfl, _, _, rfl, dput upd_same st_sz put_rest, rfl, ?_, 0, upd_same⟩
        exact e1.trans (Ext.put e1.gh gp upd_same) fun _ h => .inl h
    · rintro σ H1 ⟨rfl, e2, r2, hp2⟩
      refine ⟨_, rfl, _, _, rfl, dget hp2 st_rest, _, _, rfl, rfl, _, rfl, ?_⟩
      refine ite_both (fun _ => ?_) (fun _ => ?_)
      · refine ⟨_, rfl, _, _, rfl, dget hp2 st_rest, _, rfl, _, _, rfl, rfl, m0, ?_⟩
        refine ⟨_, rfl, _, _, rfl, dget hp2 st_rest, _, rfl, _, _, rfl, rfl, ⟨m0, m1⟩, _, rfl, _, _, rfl, dput hp2 st_sz put_rest, _, rfl, ?_⟩
        have e3 := e2.trans (Ext.put (o := .dK (stD (.ref l) (a + 1) (r2 / m) k)) e2.gh gp hp2) fun _ h => .inl h
        exact q _ _ e3 ⟨⟨_, ns, _, _, _, upd_same, hc, hn, by omega, by omega, k0, k1⟩, gp⟩ (Int.emod_nonneg _ (by omega)) (Int.emod_lt_of_pos _ m0)
      · refine ⟨_, rfl, _, rfl, _, _, rfl, dget hp2 st_k, _, _, rfl, rfl, .inl ⟨by decide, by decide⟩, _, _, rfl, rfl, ?_⟩
        refine ⟨_, rfl, _, rfl, cell, a + 60 * k, rfl, by omega, by omega, fun z z0 z1 => ⟨_, _, rfl, rfl, .inr ⟨by decide, by decide⟩, ?_⟩⟩
        refine ⟨_, rfl, _, rfl, _, _, rfl, rfl, cell, a + 60 * k + 9001, rfl, by omega, by omega, fun y y0 y1 => ⟨_, _, rfl, rfl, _, _, rfl, rfl, ⟨by decide, by decide⟩, ?_⟩⟩
        refine ⟨_, rfl, _, _, rfl, rfl, m0, ?_⟩
        exact q _ _ e2 ⟨⟨_, ns, _, _, _, hp2, hc, hn, by omega, by omega, k0, k1⟩, gp⟩ (Int.emod_nonneg _ (by omega)) (Int.emod_lt_of_pos _ m0)
/-! ### _law_whole -/
def isInt : PyData → Bool
  | .int _ => true
  | _ => false
def R_whole (ds : List PyData) (d : PyData) : Prop := ∃ x, ds = [x] ∧ d = .bool (isInt x)
theorem ok_whole (F : FnIn K mg "_law_whole" s__law_whole) (T : Txt mg) : Has P w K mg base CX0 1 "_law_whole" ["_law_found"] (PFn K R_whole) := by
  refine F.pure sc__law_whole (fun ds d ⟨i, h, _⟩ => by rw [h]; rfl) (fun _ _ _ _ _ _ us hl => match us, hl with | [_], _ => rfl) (fun f cdv A outer s H E hr => ?_)
  refine ⟨_, (pss_one (ps_ret (pe_and (pe_callB call_isi (by rfl) T.b_isinstance (by decide +kernel) (pa_cons (pv 0) (pa_cons (pe_bltn (v := .ty "int") (by rfl) T.b_int (by decide +kernel) rfl) pa_nil))) (pe_one (pe_not (pe_callB call_isi (by rfl) T.b_isinstance (by decide +kernel) (pa_cons (pv 0) (pa_cons (pe_bltn (v := .ty "bool") (by rfl) T.b_bool (by decide +kernel) rfl) pa_nil)))))))), ?_⟩
  rintro G vs ds d hv ⟨x, rfl, rfl⟩
  obtain ⟨v0, rfl, h0⟩ := dts1 hv
  cases x with
  | int i => exact es_ret (ed_and (b := true) (ed_isi (ed_var rfl h0) (by kernel_rfl)) fun hb => ed_not (b := false) (ed_isi (ed_var rfl h0) (by kernel_rfl))) rfl
  | bool i => exact es_ret (ed_and (b := true) (ed_isi (ed_var rfl h0) (by kernel_rfl)) fun hb => ed_not (b := true) (ed_isi (ed_var rfl h0) (by kernel_rfl))) rfl
  | _ => exact es_ret (ed_and (b := false) (c := false) (ed_isi (ed_var rfl h0) (by kernel_rfl)) fun hb => Bool.noConfusion hb) rfl
end

/-! ### the law's own defs -/
theorem getD_fin {n : Nat} {f : _root_.Fin n → PyData} {i : Nat} (h : i < n) : ((List.finRange n).map f).getD i .none = f ⟨i, h⟩ := by
  rw [List.getD_eq_getElem?_getD, List.getElem?_map, List.getElem?_eq_getElem (by simpa using h)]
  simp
theorem len_fin {n : Nat} {f : _root_.Fin n → PyData} : ((List.finRange n).map f).length = n := by simp
theorem ways_lit : [PyData.tuple [.str "n", .str "s"], .tuple [.str "e", .str "w"], .tuple [.str "s", .str "n"], .tuple [.str "w", .str "e"]] = (List.finRange 4).map (fun i => .tuple [.str (wy i), .str (wy (i + 2))]) := by kernel_rfl
theorem bits_lit : [PyData.tuple [.str "n", .int 1], .tuple [.str "e", .int 2], .tuple [.str "s", .int 4], .tuple [.str "w", .int 8]] = (List.finRange 4).map (fun i => .tuple [.str (wy i), .int (2 ^ i.val)]) := by kernel_rfl
theorem wy22 : ∀ i : _root_.Fin 4, i + 2 + 2 = i := by decide
theorem nb_back : ∀ i : _root_.Fin 4, nbR i + nbR (i + 2) = 0 ∧ nbC i + nbC (i + 2) = 0 := by decide
theorem sh_cell (r c : Int) : SeqAt.shaped (dCell r c) = true := by kernel_rfl
theorem eqv_cell (r c : Int) : PyData.eqv (dCell r c) (dCell r c) = true := by
  simp [PyData.eqv, PyData.eqvAll]
def R_ways_good (ds : List PyData) (d : PyData) : Prop := ∃ r c : Int, ds = [dCell r c] ∧ d = .bool true
def R_bits_good (ds : List PyData) (d : PyData) : Prop := ∃ b : _root_.Fin 16, ds = [.int (b.val : Int)] ∧ d = .bool true
/-- the ways so far, as the law gathers them -/
def due (b : _root_.Fin 16) (n : Nat) : Str := Txt.join Str.empty (wl b n)
theorem due_step : ∀ (b : _root_.Fin 16) (i : _root_.Fin 4), due b (i.val + 1) = if decide ((b.val : Int) / 2 ^ i.val % 2 = 1) = true then due b i.val ++ wy i else due b i.val := by decide +kernel
theorem due_len : ∀ (b : _root_.Fin 16) (i : _root_.Fin 5), (due b i.val).length ≤ 4 := by decide +kernel
theorem due_end : ∀ (b : _root_.Fin 16), due b 4 = waysS b := fun _ => rfl
theorem ways_size : ∀ b : _root_.Fin 16, (waysS b).cps.size ≤ 4 := by decide +kernel
theorem ways_sign : ∀ (b : _root_.Fin 16) (i : _root_.Fin 4), i.val < (waysS b).cps.size → ∃ j : _root_.Fin 4, (waysS b).cps.getD i.val 0 = wc j := by decide +kernel
def bitOf (c : Nat) : Int := if c = 110 then 1 else if c = 101 then 2 else if c = 115 then 4 else if c = 119 then 8 else 0
theorem bitOf_wc : ∀ j : _root_.Fin 4, bitOf (wc j) = 2 ^ j.val := by decide
theorem ways_sum : ∀ b : _root_.Fin 16, (((List.range (waysS b).cps.size).filter fun _ => true).map fun i => bitOf ((waysS b).cps.getD i 0)).sum = (b.val : Int) := by decide +kernel
section
variable {P : Program} {w : World} {K : PySem.W.Frag} {mg : Str → Option Value} {base : Heap}
/-! ### _law_beside -/
theorem ok_beside (F : FnIn K mg "_law_beside" s__law_beside) : Has P w K mg base CX0 1 "_law_beside" ["_law_cell", "_law_way"] (PFn K R_neighbour) := by
  refine F.pure sc__law_beside (fun ds d ⟨r, c, i, h, _⟩ => by rw [h]; rfl) (fun _ _ _ _ _ _ us hl => match us, hl with | [_, _], _ => rfl) (fun f cdv A outer s H E hr => ?_)
  have nd := sc__law_beside.nd
  refine ⟨_, (pss_cons (ps_asg (pv 0) (pg_tup rfl (pgs_cons (pg_name (i := 2) nd rfl (Or.inl rfl)) (pgs_cons (pg_name (i := 3) nd rfl (Or.inl rfl)) pgs_nil))))
    (pss_cons (ps_if (pt_cmpR op_eq (pv 1) pe_str (nomark _)) (pss_one (ps_ret (pe_tup (pa_cons (pe_op op_sub (pv 2) pe_int) (pa_cons (pv 3) pa_nil))))) pss_nil)
    (pss_cons (ps_if (pt_cmpR op_eq (pv 1) pe_str (nomark _)) (pss_one (ps_ret (pe_tup (pa_cons (pe_op op_add (pv 2) pe_int) (pa_cons (pv 3) pa_nil))))) pss_nil)
    (pss_cons (ps_if (pt_cmpR op_eq (pv 1) pe_str (nomark _)) (pss_one (ps_ret (pe_tup (pa_cons (pv 2) (pa_cons (pe_op op_sub (pv 3) pe_int) pa_nil))))) pss_nil)
    (pss_one (ps_ret (pe_tup (pa_cons (pv 2) (pa_cons (pe_op op_add (pv 3) pe_int) pa_nil))))))))), ?_⟩
  rintro G vs ds d hv ⟨r, c, i, rfl, rfl⟩
  obtain ⟨v0, v1, rfl, h0, h1⟩ := dts2 hv
  refine es_asgG (ed_var rfl (by walk_at "dt")) eg_tup2 fun G1 σ1 a1 hB => ?_
  obtain ⟨x, y, hx, hy, rfl⟩ := hB
  have hw := same_dt a1 h1
  rw [dt_str hw, dt_int hx, dt_int hy]
  rcases fin4 i with rfl | rfl | rfl | rfl
  · refine es_when (et_test (ed_op (ed_var rfl (.str _)) ed_str r2_eqS)) (fun hb => ?_) (fun hb => absurd hb (by decide +kernel))
    refine es_retSeq (ed_tup (ea_cons (ed_op (ed_var rfl (.int _)) ed_int r2_i) (ea_cons (ed_var rfl (.int _)) ea_nil))) ?_
    rw [show c + nbC 0 = c from Int.add_zero c]
    rfl
  · refine es_when (et_test (ed_op (ed_var rfl (.str _)) ed_str r2_eqS)) (fun hb => absurd hb (by decide +kernel)) (fun hb => ?_)
    refine es_when (et_test (ed_op (ed_var rfl (.str _)) ed_str r2_eqS)) (fun hb => absurd hb (by decide +kernel)) (fun hb => ?_)
    refine es_when (et_test (ed_op (ed_var rfl (.str _)) ed_str r2_eqS)) (fun hb => absurd hb (by decide +kernel)) (fun hb => ?_)
    refine es_ret (ed_tup (ea_cons (ed_var rfl (.int _)) (ea_cons (ed_op (ed_var rfl (.int _)) ed_int r2_i) ea_nil))) ?_
    rw [show r + nbR 1 = r from Int.add_zero r]
    rfl
  · refine es_when (et_test (ed_op (ed_var rfl (.str _)) ed_str r2_eqS)) (fun hb => absurd hb (by decide +kernel)) (fun hb => ?_)
    refine es_when (et_test (ed_op (ed_var rfl (.str _)) ed_str r2_eqS)) (fun hb => ?_) (fun hb => absurd hb (by decide +kernel))
    refine es_retSeq (ed_tup (ea_cons (ed_op (ed_var rfl (.int _)) ed_int r2_i) (ea_cons (ed_var rfl (.int _)) ea_nil))) ?_
    rw [show c + nbC 2 = c from Int.add_zero c]
    rfl
  · refine es_when (et_test (ed_op (ed_var rfl (.str _)) ed_str r2_eqS)) (fun hb => absurd hb (by decide +kernel)) (fun hb => ?_)
    refine es_when (et_test (ed_op (ed_var rfl (.str _)) ed_str r2_eqS)) (fun hb => absurd hb (by decide +kernel)) (fun hb => ?_)
    refine es_when (et_test (ed_op (ed_var rfl (.str _)) ed_str r2_eqS)) (fun hb => ?_) (fun hb => absurd hb (by decide +kernel))
    refine es_retSeq (ed_tup (ea_cons (ed_var rfl (.int _)) (ea_cons (ed_op (ed_var rfl (.int _)) ed_int r2_i) ea_nil))) ?_
    rw [show r + nbR 3 = r from Int.add_zero r]
    rfl
/-! ### _law_ways_good -/
theorem ok_ways_good (F : FnIn K mg "_law_ways_good" s__law_ways_good) (T : Txt mg) (F__law_beside : Has P w K mg base CX0 1 "_law_beside" ["_law_cell", "_law_way"] (PFn K R_neighbour)) (F__law_whole : Has P w K mg base CX0 1 "_law_whole" ["_law_found"] (PFn K R_whole))
    (F_against : Has P w K mg base CX0 1 "against" ["way"] (PFn K R_against)) (F_neighbour : Has P w K mg base CX0 1 "neighbour" ["cell", "way"] (PFn K R_neighbour)) : Has P w K mg base CX0 2 "_law_ways_good" ["_law_cell"] (PFn K R_ways_good) := by
  refine F.pure sc__law_ways_good (fun ds d ⟨r, c, h, _⟩ => by rw [h]; rfl) (fun _ _ _ _ _ _ us hl => match us, hl with | [_], _ => rfl) (fun f cdv A outer s H E hr => ?_)
  have nd := sc__law_ways_good.nd
  refine ⟨_, (pss_cons (ps_for PassesOwn.never rfl (pi_tup (pe_tup (pa_cons (pe_tup (pa_cons pe_str (pa_cons pe_str pa_nil))) (pa_cons (pe_tup (pa_cons pe_str (pa_cons pe_str pa_nil))) (pa_cons (pe_tup (pa_cons pe_str (pa_cons pe_str pa_nil))) (pa_cons (pe_tup (pa_cons pe_str (pa_cons pe_str pa_nil))) pa_nil)))))) (pg_tup rfl (pgs_cons (pg_name (i := 1) nd rfl (Or.inl rfl)) (pgs_cons (pg_name (i := 2) nd rfl (Or.inl rfl)) pgs_nil)))
      (pss_cons (ps_set (i := 3) nd rfl (Or.inl rfl) (pe_fn F_neighbour hr (by decide) rfl (pa_cons (pv 0) (pa_cons (pv 1) pa_nil))))
      (pss_cons (ps_if (PW.pt (pw_or (pt_cmpR op_ne (pe_fn F_against hr (by decide) rfl (pa_cons (pv 1) pa_nil)) (pv 2) (nomark _)) (pw_or (pt_not (pt_val (pe_callB call_isi (by rfl) T.b_isinstance (by decide +kernel) (pa_cons (pv 3) (pa_cons (pe_bltn (v := .ty "tuple") (by rfl) T.b_tuple (by decide +kernel) rfl) pa_nil))))) (pw_or1 (pt_not (pt_val (pe_callB (cr_all rfl) (by rfl) T.b_all (by decide +kernel) (pa_cons (pe_lc (own := [("_law_one", 4)]) (by rfl) nd (pi_tup (pv 3)) (blkOk_by (own := [("_law_one", 4)]) (N := ["_law_cell", "_law_way", "_law_other", "_law_found", "_law_one"]) (sc := (defScope s__law_ways_good)) (by decide +kernel)) (fun _ _ _ _ _ => (pg_name (i := 4) nd rfl (Or.inl rfl))) (fun _ _ _ _ _ => pts_nil) (fun _ _ _ _ _ => (pe_fn F__law_whole hr (by decide) rfl (pa_cons (pv 4) pa_nil)))) pa_nil)))))))) (pss_one (ps_ret pe_bl)) pss_nil)
      (pss_one (ps_if (PW.pt (pw_or (pt_cmpR (op_neD hr.units) (pv 3) (pe_fn F__law_beside hr (by decide) rfl (pa_cons (pv 0) (pa_cons (pv 1) pa_nil))) (nomark _)) (pw_or1 (pt_cmpR (op_neD hr.units) (pe_fn F_neighbour hr (by decide) rfl (pa_cons (pv 3) (pa_cons (pv 2) pa_nil))) (pv 0) (nomark _))))) (pss_one (ps_ret pe_bl)) pss_nil)))))
    (pss_one (ps_ret pe_bl))), ?_⟩
  rintro G vs ds d hv ⟨r, c, rfl, rfl⟩
  obtain ⟨v0, rfl, h0⟩ := dts1 hv
  refine es_seq (M := fun _ _ => True) (es_for (ei_tup (ED.to (ed_tup (ea_cons (ed_tup (ea_cons ed_str (ea_cons ed_str ea_nil))) (ea_cons (ed_tup (ea_cons ed_str (ea_cons ed_str ea_nil))) (ea_cons (ed_tup (ea_cons ed_str (ea_cons ed_str ea_nil))) (ea_cons (ed_tup (ea_cons ed_str (ea_cons ed_str ea_nil))) ea_nil))))) (congrArg PyData.tuple ways_lit)))
    (fun i G' σ' => ∃ x1 x2 x3 x4, σ' = [some v0, x1, x2, x3, x4]) (fun G1 _ => ⟨_, _, _, _, rfl⟩) (fun _ _ _ _ _ h => h)
    (B := fun i σ1 G σ2 => ∃ (h : i < 4) (x y : V), Dt K G x (.str (wy ⟨i, h⟩)) ∧ Dt K G y (.str (wy (⟨i, h⟩ + 2))) ∧ σ2 = (σ1.set 1 (some x)).set 2 (some y))
    (fun i G1 σ1 hi a1 hI => by
      have h4 : i < 4 := by rw [len_fin] at hi; exact hi
      rw [getD_fin h4]
      intro G H x gh hx Q q
      exact eg_tup2 G H x gh hx Q fun σ2 ⟨x, y, hx, hy, e⟩ => q σ2 ⟨h4, x, y, hx, hy, e⟩)
    (fun i G1 σ1 σ2 hi a1 hI hB => ?hs) (fun _ _ _ _ => trivial)) fun G1 σ1 a1 hM => es_ret ed_bl rfl
  obtain ⟨h4, x, y, hx, hy, rfl⟩ := hB
  obtain ⟨x1, x2, x3, x4, rfl⟩ := hI
  obtain ⟨z1, z2⟩ := nb_back ⟨i, h4⟩
  generalize (⟨i, h4⟩ : _root_.Fin 4) = j at hx hy z1 z2
  have hv0 := same_dt a1 h0
  refine es_set (ed_fn (ea_cons (ed_var rfl hv0) (ea_cons (ed_var rfl hx) ea_nil)) ⟨r, c, j, rfl, rfl⟩) fun G2 x5 a2 h5 => ?_
  have ea : outs [PyData.int (r + nbR j), PyData.int (c + nbC j)].length (fun _ => true) (fun i => .bool (isInt ([PyData.int (r + nbR j), PyData.int (c + nbC j)].getD i .none))) = [true, true].map PyData.bool := rfl
  refine es_when (b := false) (ET.to (et_or (et_test (ed_op (ed_fn (ea_cons (ed_var rfl (by walk_at "dt")) ea_nil) ⟨j, rfl, rfl⟩) (ed_var rfl (by walk_at "dt")) r2_neS)) fun hb => (et_or (et_not (et_B (ed_isi (ans := true) (ed_var rfl (by walk_at "dt")) (by kernel_rfl)))) fun hb =>
    (et_not (et_B (ed_cb (ea_cons (ED.to (ed_lc (p := fun _ => true) (ei_tup (ed_var rfl h5)) (by show 2 < 100000; decide) (fun _ _ => eg_name) (fun i G1 σ2 hi hB => by obtain ⟨x0, hx0, rfl⟩ := hB; rfl) (fun i G1 σ2 hi a1 hB => et_yes) (fun i G1 σ2 hi a1 hB hp => by obtain ⟨x0, hx0, rfl⟩ := hB; exact (ed_fn (ea_cons (ed_var rfl (by walk_at "dt")) ea_nil) ⟨_, rfl, rfl⟩))) (congrArg PyData.list ea)) ea_nil) cb_all))))) (by simp))
    (fun hb => Bool.noConfusion hb) (fun hb => ?_)
  refine es_if (b := false) (ET.to (et_or (et_test (ed_op (ed_var rfl (by walk_at "dt")) (ed_fn (ea_cons (ed_var rfl (by walk_at "dt")) (ea_cons (ed_var rfl (by walk_at "dt")) ea_nil)) ⟨r, c, j, rfl, rfl⟩) (r2_neD (sh_cell _ _) (sh_cell _ _)))) fun hb => (et_test (ed_op (ed_fn (ea_cons (ed_var rfl (by walk_at "dt")) (ea_cons (ed_var rfl (by walk_at "dt")) ea_nil)) ⟨_, _, j + 2, rfl, rfl⟩) (ed_var rfl (by walk_at "dt")) (r2_neD (sh_cell _ _) (sh_cell _ _))))) ?_)
    (fun hb => Bool.noConfusion hb) (fun hb => es_next fun G3 a3 => ⟨_, _, _, _, rfl⟩)
  rw [eqv_cell, show r + nbR j + nbR (j + 2) = r by omega, show c + nbC j + nbC (j + 2) = c by omega, eqv_cell]
  rfl
/-! ### _law_bits_good -/
theorem ok_bits_good (F : FnIn K mg "_law_bits_good" s__law_bits_good) (T : Txt mg) (F__law_whole : Has P w K mg base CX0 1 "_law_whole" ["_law_found"] (PFn K R_whole)) (F_bit_of : Has P w K mg base CX0 1 "bit_of" ["way"] (PFn K R_bit_of))
    (F_bits_of : Has P w K mg base CX0 1 "bits_of" ["sign"] (PFn K R_bits_of)) (F_sign_of : Has P w K mg base CX0 1 "sign_of" ["bits"] (PFn K R_sign_of)) (F_ways_in : Has P w K mg base CX0 2 "ways_in" ["bits"] (PFn K R_ways_in)) : Has P w K mg base CX0 3 "_law_bits_good" ["_law_bits"] (PFn K R_bits_good) := by
  refine F.pure sc__law_bits_good (fun ds d ⟨b, h, _⟩ => by rw [h]; rfl) (fun _ _ _ _ _ _ us hl => match us, hl with | [_], _ => rfl) (fun f cdv A outer s H E hr => ?_)
  have nd := sc__law_bits_good.nd
  refine ⟨_, (pss_cons (ps_set (i := 1) nd rfl (Or.inl rfl) pe_str)
    (pss_cons (ps_for PassesOwn.never rfl (pi_tup (pe_tup (pa_cons (pe_tup (pa_cons pe_str (pa_cons pe_int pa_nil))) (pa_cons (pe_tup (pa_cons pe_str (pa_cons pe_int pa_nil))) (pa_cons (pe_tup (pa_cons pe_str (pa_cons pe_int pa_nil))) (pa_cons (pe_tup (pa_cons pe_str (pa_cons pe_int pa_nil))) pa_nil)))))) (pg_tup rfl (pgs_cons (pg_name (i := 2) nd rfl (Or.inl rfl)) (pgs_cons (pg_name (i := 3) nd rfl (Or.inl rfl)) pgs_nil)))
      (pss_cons (ps_if (PW.pt (pw_or (pt_not (pt_val (pe_fn F__law_whole hr (by decide) rfl (pa_cons (pe_fn F_bit_of hr (by decide) rfl (pa_cons (pv 2) pa_nil)) pa_nil)))) (pw_or1 (pt_cmpR op_ne (pe_fn F_bit_of hr (by decide) rfl (pa_cons (pv 2) pa_nil)) (pv 3) (nomark _))))) (pss_one (ps_ret pe_bl)) pss_nil)
      (pss_one (ps_if (pt_cmpR op_eq (pe_op op_mod (pe_op op_fdiv (pv 0) (pv 3)) pe_int) pe_int (nomark _)) (pss_one (ps_set (i := 1) nd rfl (Or.inl rfl) (pe_op op_add_str (pv 1) (pv 2)))) pss_nil))))
    (pss_cons (ps_set (i := 4) nd rfl (Or.inl rfl) (pe_fn F_ways_in hr (by decide) rfl (pa_cons (pv 0) pa_nil)))
    (pss_cons (ps_if (PW.pt (pw_or (pt_not (pt_val (pe_callB call_isi (by rfl) T.b_isinstance (by decide +kernel) (pa_cons (pv 4) (pa_cons (pe_bltn (v := .ty "str") (by rfl) T.b_str (by decide +kernel) rfl) pa_nil))))) (pw_or (pt_cmpR op_ne (pv 4) (pv 1) (nomark _)) (pw_or1 (pt_cmpR op_ne (pe_callB (cr_sum rfl) (by rfl) T.b_sum (by decide +kernel) (pa_cons (pe_lc (own := [("_law_way", 2)]) (by rfl) nd (pi_str (pv 4)) (blkOk_by (own := [("_law_way", 2)]) (N := ["_law_bits", "_law_due", "_law_way", "_law_bit", "_law_found", "_law_sign"]) (sc := (defScope s__law_bits_good)) (by decide +kernel)) (fun _ _ _ _ _ => (pg_name (i := 2) nd rfl (Or.inl rfl))) (fun _ _ _ _ _ => pts_nil) (fun _ _ _ _ _ => (pe_fn F_bit_of hr (by decide) rfl (pa_cons (pv 2) pa_nil)))) pa_nil)) (pv 0) (nomark _)))))) (pss_one (ps_ret pe_bl)) pss_nil)
    (pss_cons (ps_set (i := 5) nd rfl (Or.inl rfl) (pe_ix ix_str pe_str (pv 0) (fun _ _ => rfl)))
    (pss_one (ps_ret (pe_and (pe_cmpR op_eq (pe_fn F_sign_of hr (by decide) rfl (pa_cons (pv 0) pa_nil)) (pv 5) (nomark _)) (pe_and (pe_fn F__law_whole hr (by decide) rfl (pa_cons (pe_fn F_bits_of hr (by decide) rfl (pa_cons (pv 5) pa_nil)) pa_nil)) (pe_one (pe_cmpR op_eq (pe_fn F_bits_of hr (by decide) rfl (pa_cons (pv 5) pa_nil)) (pv 0) (nomark _)))))))))))), ?_⟩
  rintro G vs ds d hv ⟨b, rfl, rfl⟩
  obtain ⟨v0, rfl, h0⟩ := dts1 hv
  refine es_set ed_str fun G1 x1 a1 h1 => ?_
  refine es_seq (M := fun G' σ' => ∃ x1 x2 x3, Dt K G' x1 (.str (due b 4)) ∧ σ' = [some v0, some x1, x2, x3, none, none]) (es_for (ei_tup (ED.to (ed_tup (ea_cons (ed_tup (ea_cons ed_str (ea_cons ed_int ea_nil))) (ea_cons (ed_tup (ea_cons ed_str (ea_cons ed_int ea_nil))) (ea_cons (ed_tup (ea_cons ed_str (ea_cons ed_int ea_nil))) (ea_cons (ed_tup (ea_cons ed_str (ea_cons ed_int ea_nil))) ea_nil))))) (congrArg PyData.tuple bits_lit)))
    (fun i G' σ' => ∃ x1 x2 x3, Dt K G' x1 (.str (due b i)) ∧ σ' = [some v0, some x1, x2, x3, none, none]) (fun G2 a2 => ⟨x1, _, _, same_dt a2 h1, rfl⟩) (fun _ _ _ _ e ⟨x1, x2, x3, h, q⟩ => ⟨x1, x2, x3, same_dt e h, q⟩)
    (B := fun i σ1 G σ2 => ∃ (h : i < 4) (x y : V), Dt K G x (.str (wy ⟨i, h⟩)) ∧ Dt K G y (.int (2 ^ i)) ∧ σ2 = (σ1.set 2 (some x)).set 3 (some y))
    (fun i G1 σ1 hi a1 hI => by
      have h4 : i < 4 := by rw [len_fin] at hi; exact hi
      rw [getD_fin h4]
      intro G H x gh hx Q q
      exact eg_tup2 G H x gh hx Q fun σ2 ⟨x, y, hx, hy, e⟩ => q σ2 ⟨h4, x, y, hx, hy, e⟩)
    (fun i G1 σ1 σ2 hi a1 hI hB => ?hs) (fun G1 σ1 a1 hI => by rw [len_fin] at hI; exact hI)) fun G2 σ2 a2 hM => ?_
  · obtain ⟨h4, x, y, hx, hy, rfl⟩ := hB
    obtain ⟨x1, x2, x3, h1, rfl⟩ := hI
    have dl := due_len b ⟨i, by omega⟩
    have ds := due_step b ⟨i, h4⟩
    have wl1 : (wy ⟨i, h4⟩).length = 1 := rfl
    refine es_when (b := false) (ET.to (et_or (et_not (et_B (ed_fn (ea_cons (ed_fn (ea_cons (ed_var rfl hx) ea_nil) ⟨⟨i, h4⟩, rfl, rfl⟩) ea_nil) ⟨_, rfl, rfl⟩))) fun hb => (et_test (ed_op (ed_fn (ea_cons (ed_var rfl hx) ea_nil) ⟨⟨i, h4⟩, rfl, rfl⟩) (ed_var rfl hy) r2_neI))) (by simp [isInt])) (fun hb => Bool.noConfusion hb) (fun hb => ?_)
    refine es_if (et_test (ed_op (ed_op (ed_op (ed_var rfl (by walk_at "dt")) (ed_var rfl hy) (r2_c (C := CDiv) ?c1)) ed_int (r2_c (by decide : (0 : Int) < 2))) ed_int r2_eqI)) (fun hb => ?_) (fun hb => ?_)
    · show 0 < (2 : Int) ^ i ∧ (2 : Int) ^ i < 1073741824
      have : ∀ j : _root_.Fin 4, 0 < (2 : Int) ^ j.val ∧ (2 : Int) ^ j.val < 1073741824 := by decide
      exact this ⟨i, h4⟩
    · refine es_asg (ed_op (ed_var rfl h1) (ed_var rfl hx) (r2_addS (by rw [wl1]; exact szn _ (by have : (due b i).length ≤ 4 := dl; omega)))) fun G3 x3 a3 h3 => ⟨x3, _, _, ?_, rfl⟩
      rw [show due b (i + 1) = due b i ++ wy ⟨i, h4⟩ from ds.trans (if_pos hb)]
      exact h3
    · refine es_next fun G3 a3 => ⟨x1, _, _, ?_, rfl⟩
      rw [show due b (i + 1) = due b i from ds.trans (if_neg (by rw [show decide ((b.val : Int) / 2 ^ (⟨i, h4⟩ : _root_.Fin 4).val % 2 = 1) = false from hb]; decide))]
      exact same_dt a3 h1
  · obtain ⟨x1, x2, x3, h1, rfl⟩ := hM
    rw [due_end] at h1
    have sz := ways_size b
    refine es_set (ed_fn (ea_cons (ed_var rfl (by walk_at "dt")) ea_nil) ⟨b, rfl, rfl⟩) fun G3 x3 a3 h3 => ?_
    have ea : outs (waysS b).cps.size (fun _ => true) (fun i => .int (bitOf ((waysS b).cps.getD i 0))) = ((((List.range (waysS b).cps.size).filter fun _ => true).map fun i => bitOf ((waysS b).cps.getD i 0))).map PyData.int := by
      unfold outs
      rw [List.map_map]
      rfl
    refine es_when (b := false) (ET.to (et_or (et_not (et_B (ed_isi (ans := true) (ed_var rfl h3) (by kernel_rfl)))) fun hb => (et_or (et_test (ed_op (ed_var rfl h3) (ed_var rfl (by walk_at "dt")) r2_neS)) fun hb =>
      (et_test (ed_op (ed_cb (ea_cons (ED.to (ed_lc (p := fun _ => true) (h := fun i => .int (bitOf ((waysS b).cps.getD i 0))) (ei_str (ed_var rfl h3)) (by omega) (fun _ _ => eg_name) (fun i G1 σ2 hi hB => by obtain ⟨x0, hx0, rfl⟩ := hB; rfl) (fun i G1 σ2 hi a1 hB => et_yes) (fun i G1 σ2 hi a1 hB hp => by
        obtain ⟨x0, hx0, rfl⟩ := hB
        obtain ⟨j, hj⟩ := ways_sign b ⟨i, by omega⟩ hi
        rw [show (waysS b).cps.getD i 0 = wc j from hj] at hx0 ⊢
        rw [bitOf_wc]
        exact (ed_fn (ea_cons (ed_var rfl hx0) ea_nil) ⟨j, rfl, rfl⟩))) (congrArg PyData.list ea)) ea_nil) cb_sum) (ed_var rfl (by walk_at "dt")) r2_neI)))) (by rw [ways_sum]; simp)) (fun hb => Bool.noConfusion hb) (fun hb => ?_)
    refine es_set (ed_op ed_str (ed_var rfl (by walk_at "dt")) (r2_ixS (by decide +kernel) (at_sx b))) fun G4 x4 a4 h4 => ?_
    refine es_ret (ed_and (ed_op (ed_fn (ea_cons (ed_var rfl (by walk_at "dt")) ea_nil) ⟨b, rfl, rfl⟩) (ed_var rfl h4) r2_eqS) fun hb => (ed_and (ed_fn (ea_cons (ed_fn (ea_cons (ed_var rfl h4) ea_nil) ⟨b, rfl, rfl⟩) ea_nil) ⟨_, rfl, rfl⟩) fun hb => (ed_op (ed_fn (ea_cons (ed_var rfl h4) ea_nil) ⟨b, rfl, rfl⟩) (ed_var rfl (by walk_at "dt")) r2_eqI))) ?_
    show PyData.bool (decide (sx b = sx b) && (isInt (PyData.int (b.val : Int)) && decide ((b.val : Int) = (b.val : Int)))) = _
    simp [isInt]
/-! ### _law_spot -/
def sp_spot (K : PySem.W.Frag) : Sp := fun vs H Q _ => ∃ (G : Hp) (p : Addr) (n : Int), vs = [.ref p] ∧ Same G H ∧ St K G H p n ∧ n < 2 ^ 40 ∧ ∀ (r : Int) (H' : Hp), Ext [p] G H G H' → St K G H' p (n + 3) → Q (.int r) H'
theorem ok_spot (F : FnIn K mg "_law_spot" s__law_spot) (F__law_take : Has P w K mg base CX0 2 "_law_take" ["_law_state_here", "_law_many"] (sp_take K)) : Has P w K mg base CX0 3 "_law_spot" ["_law_state_here"] (sp_spot K) := by
  refine F.ok sc__law_spot (fun vs H Q E h => ?_) (fun _ _ _ _ _ _ us hl => match us, hl with | [_], _ => rfl) (fun f cdv A outer s H vs Q E hr h => ?_)
  · obtain ⟨G, p, n, rfl, _⟩ := h
    rfl
  · obtain ⟨G, p, n, rfl, gh, st, hn, k⟩ := h
    refine ⟨_, (pss_one (ps_ret (pe_ix ix_list (pe_lst (pa_cons (pe_op op_sub (pe_fn F__law_take hr (by decide) rfl (pa_cons (pv 0) (pa_cons pe_int pa_nil))) pe_int) (pa_cons (pe_op op_sub (pe_fn F__law_take hr (by decide) rfl (pa_cons (pv 0) (pa_cons pe_int pa_nil))) pe_int) (pa_cons (pe_un un_neg pe_int) (pa_cons pe_int pa_nil))))) (pe_fn F__law_take hr (by decide) rfl (pa_cons (pv 0) (pa_cons pe_int pa_nil))) (fun _ _ => rfl)))), ?_⟩
    refine ⟨_, rfl, G, p, n, 41, rfl, gh, st, by omega, by decide, by decide, fun r1 H1 e1 st1 _ _ => ⟨_, _, rfl, rfl, ?_⟩⟩
    refine ⟨_, rfl, G, p, _, 24012, rfl, e1.gh, st1, by omega, by decide, by decide, fun r2 H2 e2 st2 _ _ => ⟨_, _, rfl, rfl, _, rfl, szn 4, fun q hq => ?_⟩⟩
    have e3 := Ext.cell (M := []) (o := .lst [.int (r1 - 20), .int (r2 - 12000), .int (-12000), .int 12011]) e2.gh hq
    have st3 := st2.keep e3 (by simp)
    have npq : q ∉ [p] := fun z => by
      obtain ⟨⟨c, ns, a, r, k, h, _⟩, _⟩ := st2
      rw [List.mem_singleton] at z
      rw [z, h] at hq
      cases hq
    refine ⟨_, rfl, G, p, _, 4, rfl, e3.gh, st3, by omega, by decide, by decide, fun r4 H4 e4 st4 h0 h1 => ?_⟩
    obtain ⟨z, hz, _⟩ := at_menu (xs := [r1 - 20, r2 - 12000, -12000, 12011]) h0 h1
    have hl4 := e4.keep upd_same npq
    have e04 : Ext [p] G H G H4 := ((e1.trans e2 fun _ h => .inl h).same e3).trans e4 fun _ h => .inl h
    have e : n + 3 = n + 1 + 1 + 1 := by omega
    rw [← e] at st4
    exact ⟨_, _, _, _, rfl, rfl, SqL.of hl4, hz, k z H4 e04 st4⟩
end
section
variable {P : Program} {w : World} {K : PySem.W.Frag} {mg : Str → Option Value} {base : Heap}
/-! ### law -/
def spLaw (K : PySem.W.Frag) : Sp := fun vs H Q _ => ∃ (a : Addr) (ns : List Int), vs = [.ref a] ∧ SqL K H a (ns.map V.int) ∧ ns.length ≤ 63 ∧ ∀ H', Q (.bl true) H'
/-- the state just made -/
theorem st_new {G H : Hp} {p : Addr} {c : V} {ns : List Int} {k : Int} (gh : Same G H) (hp : H p = none) (hc : Dt K G c (.list (ns.map PyData.int))) (hn : 0 < ns.length) (k0 : 0 ≤ k) (k1 : k ≤ 1000) : St K G (upd H p (.dK (stD c 0 0 k))) p 0 :=
  ⟨⟨c, ns, 0, 0, k, upd_same, hc, hn, by omega, by omega, k0, k1⟩, gh.free hp⟩
theorem cutV_ints (ns : List Int) (lo hi : Option Int) : ∃ ms : List Int, cutV (ns.map V.int) lo hi = ms.map V.int ∧ ms.length ≤ ns.length := by
  refine ⟨(ns.drop (HT.sIx (ns.map V.int).length 0 lo)).take (HT.sIx (ns.map V.int).length (ns.map V.int).length hi - HT.sIx (ns.map V.int).length 0 lo), ?_, ?_⟩
  · unfold cutV
    rw [List.map_take, List.map_drop]
  · rw [List.length_take, List.length_drop]
    omega
theorem ok_law {fa : Addr} {fd : FuncData} (F : Fun K "law" "law" s_law fa fd) (T : Txt mg) (F__law_state : Has P w K mg base CX0 1 "_law_state" ["_law_cells", "_law_k"] sp_state) (F__law_take : Has P w K mg base CX0 2 "_law_take" ["_law_state_here", "_law_many"] (sp_take K))
    (F__law_spot : Has P w K mg base CX0 3 "_law_spot" ["_law_state_here"] (sp_spot K)) (F__law_ways_good : Has P w K mg base CX0 2 "_law_ways_good" ["_law_cell"] (PFn K R_ways_good)) (F__law_bits_good : Has P w K mg base CX0 3 "_law_bits_good" ["_law_bits"] (PFn K R_bits_good)) :
    FnOk P w K mg base CX0 4 fa fd ["_law_script"] (spLaw K) := by
  refine F.ok sc_law (fun vs H Q E h => ?_) (fun cdv A outer s H vs Q E hr h => ?_)
  · obtain ⟨a, ns, rfl, _⟩ := h
    rfl
  · obtain ⟨a, ns, rfl, hS, hlen, k⟩ := h
    have nd := sc_law.nd
    refine ⟨_, (pss_cons (ps_for PassesOwn.never rfl (pi_enum (by rfl) T.b_enumerate (pa_cons (pe_op op_cat (pe_slice sl_list (pv 0) po_none (po_some pe_int)) (pe_lst (pa_cons pe_int pa_nil))) pa_nil)) (pg_tup rfl (pgs_cons (pg_name (i := 1) nd rfl (Or.inl rfl)) (pgs_cons (pg_name (i := 2) nd rfl (Or.inl rfl)) pgs_nil)))
      (pss_cons (ps_set (i := 3) nd rfl (Or.inl rfl) (pe_fn F__law_state hr (by decide) rfl (pa_cons (pe_lst (pa_cons (pv 2) pa_nil)) (pa_cons (pv 1) pa_nil))))
      (pss_one (ps_if (PW.pt (pw_or (pt_not (pt_val (pe_fn F__law_ways_good hr (by decide) rfl (pa_cons (pe_tup (pa_cons (pe_fn F__law_spot hr (by decide) rfl (pa_cons (pv 3) pa_nil)) (pa_cons (pe_fn F__law_spot hr (by decide) rfl (pa_cons (pv 3) pa_nil)) pa_nil))) pa_nil)))) (pw_or1 (pt_not (pt_val (pe_fn F__law_bits_good hr (by decide) rfl (pa_cons (pe_fn F__law_take hr (by decide) rfl (pa_cons (pv 3) (pa_cons pe_int pa_nil))) pa_nil))))))) (pss_one (ps_ret pe_bl)) pss_nil))))
    (pss_one (ps_ret (pe_and (pe_callB call_isi (by rfl) T.b_isinstance (by decide +kernel) (pa_cons (pe_gl rfl T.g_WAYS) (pa_cons (pe_bltn (v := .ty "str") (by rfl) T.b_str (by decide +kernel) rfl) pa_nil))) (pe_one (pe_cmpR op_eq (pe_gl rfl T.g_WAYS) pe_str (nomark _))))))), ?_⟩
    obtain ⟨ms, ems, hms⟩ := cutV_ints ns none (some 63)
    -- what is walked: the script's beginning and one more
    have hi : EI K H _ (L2.start ["_law_script", "_law_k", "_law_cell", "_law_state_here"] [V.ref a]) ((ms ++ [5]).map PyData.int).length (fun i => .tuple [.int (i : Nat), ((ms ++ [5]).map PyData.int).getD i .none]) :=
      ei_enum (tas := tCons (tOp rCat (tSl (rSlL K) (tVar 0) tNoPart (tPart (tC (.int 63)))) (tLst (tCons (tC (.int 5)) tNil))) tNil) fun G1 H1 g gh Q q => by
        refine ⟨_, rfl, _, rfl, _, _, rfl, (g.trans gh).seq hS, fun p1 h1 => ⟨szn 1, fun p2 h2 => ⟨_, _, _, _, rfl, rfl, Eq.trans (upd_ne (ne_of_none upd_same h2)) upd_same, upd_same, ?_, fun p3 h3 => ?_⟩⟩⟩
        · rw [ems, List.length_map]
          exact szn _ (by show ms.length + 1 ≤ 1000; omega)
        · have e1 := Ext.cell (M := []) (o := .lst (cutV (ns.map V.int) none (some 63))) gh h1
          have e2 := Ext.cell (M := []) (o := .lst [.int 5]) e1.gh h2
          have e3 := Ext.new (M := []) (o := .lst (cutV (ns.map V.int) none (some 63) ++ [.int 5])) e2.gh h3
          refine q _ _ _ ((e1.same e2).same e3) (.cons (.lst (SqL.of upd_same) ?_) .nil)
          rw [ems]
          have z := ints_dts (K := K) (G := upd G1 p3 (.lst (ms.map V.int ++ [.int 5]))) (ms ++ [5])
          rw [List.map_append] at z
          exact z
    refine for_imp hi (Same.refl H) (Same.refl H) (fun i G1 H1 σ1 => ∃ x1 x2 x3, σ1 = [some (.ref a), x1, x2, x3]) (fun G1 H1 e => ⟨_, _, _, rfl⟩) ?_ ?_
    · rintro i G1 H1 σ1 x G2 H2 hi ⟨x1, x2, x3, rfl⟩ g1 e hx
      have hil : i < 64 := by simp at hi; omega
      obtain ⟨c, hc⟩ : ∃ c : Int, ((ms ++ [5]).map PyData.int).getD i .none = .int c := by
        rw [List.getD_eq_getElem?_getD, List.getElem?_map]
        have : i < (ms ++ [5]).length := by simpa using hi
        rw [List.getElem?_eq_getElem this]
        exact ⟨_, rfl⟩
      rw [hc] at hx
      refine eg_tup2 G2 H2 x e.gh hx _ fun σ2 hB => ?_
      obtain ⟨y1, y2, hy1, hy2, rfl⟩ := hB
      rw [dt_int hy1, dt_int hy2]
      -- the state
      refine ⟨_, rfl, szn 1, fun l hl => ⟨_, rfl, _, _, rfl, fun p hp => ?_⟩⟩
      have e1 := Ext.new (M := []) (o := .lst [.int c]) e.gh hl
      have e2 := Ext.cell (M := []) (o := .dK (stD (.ref l) 0 0 (i : Nat))) e1.gh hp
      have st := st_new (K := K) (c := .ref l) (ns := [c]) (k := (i : Nat)) e1.gh hp (.lst (SqL.of upd_same) (ints_dts [c])) (by simp) (by omega) (by omega)
      -- the cell
      refine ⟨_, rfl, _, p, _, rfl, e2.gh, st, by decide, fun r1 H3 e3 st3 => ⟨_, rfl, _, p, _, rfl, e3.gh, st3, by decide, fun r2 H4 e4 st4 => ⟨szn 2, fun t ht => ?_⟩⟩⟩
      have e5 := Ext.new (M := []) (o := .tup [.int r1, .int r2]) e4.gh ht
      refine ⟨_, [dCell r1 r2], .bool true, e5.gh, .cons (pair_dt upd_same) .nil, ⟨r1, r2, rfl, rfl⟩, fun v G6 H6 e6 hv => ?_⟩
      rw [dt_bool hv]
      refine ⟨_, rfl, iteF ?_⟩
      have st6 := (st4.keep e5 (by simp)).keep e6 (by simp)
      refine ⟨_, rfl, G6, p, _, 16, rfl, e6.gh, st6, by decide, by decide, by decide, fun r H7 e7 st7 r0 r1' => ?_⟩
      have eb : r = ((⟨r.toNat, by omega⟩ : _root_.Fin 16).val : Int) := by show r = (r.toNat : Int); omega
      rw [eb]
      refine ⟨G6, [.int _], .bool true, e7.gh, .cons (.int _) .nil, ⟨_, rfl, rfl⟩, fun v G8 H8 e8 hv => ?_⟩
      rw [dt_bool hv]
      refine ⟨_, rfl, iteF ?_⟩
      exact ⟨G8, ((((e.gg.trans e1.gg).trans e5.gg).trans e6.gg)).trans e8.gg, e8.gh, _, _, _, rfl⟩
    · rintro G1 H1 σ1 g1 gh ⟨x1, x2, x3, rfl⟩
      refine ⟨_, _, _, _, true, rfl, .ty _, .base (.str _), kit_ty (by kernel_rfl), _, rfl, iteT ⟨rfl, ?_⟩⟩
      show Q (V.bl (decide (V.str "nesw" = V.str "nesw"))) H1
      rw [decide_eq_true rfl]
      exact k H1
end

theorem all_mk {l : PySem.W.OpenLaw} {w : World} {K : PySem.W.Frag} {h : Heap} {mg : Str → Option Value} {fa : Addr} {u_SIXTEENS u_WAYS : Value} (X : K.In h) (G : h.Ns mainGlobals mg) (hfa : mg "law" = some (.ref fa))
    (d_bit_of : DefIn K "bit_of" s_bit_of)
    (d_against : DefIn K "against" s_against)
    (d_neighbour : DefIn K "neighbour" s_neighbour)
    (d_ways_in : DefIn K "ways_in" s_ways_in)
    (d_bits_of : DefIn K "bits_of" s_bits_of)
    (d_sign_of : DefIn K "sign_of" s_sign_of)
    (d__law_mixed : DefIn K "_law_mixed" s__law_mixed)
    (d__law_state : DefIn K "_law_state" s__law_state)
    (d__law_take : DefIn K "_law_take" s__law_take)
    (d__law_whole : DefIn K "_law_whole" s__law_whole)
    (d__law_spot : DefIn K "_law_spot" s__law_spot)
    (d__law_beside : DefIn K "_law_beside" s__law_beside)
    (d__law_ways_good : DefIn K "_law_ways_good" s__law_ways_good)
    (d__law_bits_good : DefIn K "_law_bits_good" s__law_bits_good)
    (d_law : DefIn K "law" s_law)
    (b_all : PySem.W.nsIn K mainGlobals "all" = some none)
    (b_bool : PySem.W.nsIn K mainGlobals "bool" = some none)
    (b_enumerate : PySem.W.nsIn K mainGlobals "enumerate" = some none)
    (b_int : PySem.W.nsIn K mainGlobals "int" = some none)
    (b_isinstance : PySem.W.nsIn K mainGlobals "isinstance" = some none)
    (b_len : PySem.W.nsIn K mainGlobals "len" = some none)
    (b_str : PySem.W.nsIn K mainGlobals "str" = some none)
    (b_sum : PySem.W.nsIn K mainGlobals "sum" = some none)
    (b_tuple : PySem.W.nsIn K mainGlobals "tuple" = some none)
    (g_SIXTEENS : PySem.W.nsIn K mainGlobals "SIXTEENS" = some (some u_SIXTEENS)) (r_SIXTEENS : RelV (.str "0123456789abcdef") u_SIXTEENS)
    (g_WAYS : PySem.W.nsIn K mainGlobals "WAYS" = some (some u_WAYS)) (r_WAYS : RelV (.str "nesw") u_WAYS) :
    ∃ fd : FuncData, (∀ (s : Shared) (v : Value), BindsTo s fd ⟨[v], []⟩ [("_law_script", v)]) ∧ ∀ base : Heap, K.In base → base.Ns mainGlobals mg → FnOk l.prog w K mg base CX0 4 fa fd ["_law_script"] (spLaw K) := by
  have T : Txt mg := ⟨PySem.W.mg_none_of X G b_all, PySem.W.mg_none_of X G b_bool, PySem.W.mg_none_of X G b_enumerate, PySem.W.mg_none_of X G b_int, PySem.W.mg_none_of X G b_isinstance, PySem.W.mg_none_of X G b_len, PySem.W.mg_none_of X G b_str, PySem.W.mg_none_of X G b_sum, PySem.W.mg_none_of X G b_tuple, gv_mk X G g_SIXTEENS r_SIXTEENS, gv_mk X G g_WAYS r_WAYS⟩
  have D_bit_of := d_bit_of.fn X G
  have D_against := d_against.fn X G
  have D_neighbour := d_neighbour.fn X G
  have D_ways_in := d_ways_in.fn X G
  have D_bits_of := d_bits_of.fn X G
  have D_sign_of := d_sign_of.fn X G
  have D__law_mixed := d__law_mixed.fn X G
  have D__law_state := d__law_state.fn X G
  have D__law_take := d__law_take.fn X G
  have D__law_whole := d__law_whole.fn X G
  have D__law_spot := d__law_spot.fn X G
  have D__law_beside := d__law_beside.fn X G
  have D__law_ways_good := d__law_ways_good.fn X G
  have D__law_bits_good := d__law_bits_good.fn X G
  have D_law := d_law.fn X G
  refine end_mk D_law hfa (fun _ _ _ _ _ _ _ => rfl) fun fd F base => ?_
  have h_bit_of := ok_bit_of (P := l.prog) (w := w) (base := base) D_bit_of T
  have h_against := ok_against (P := l.prog) (w := w) (base := base) D_against T
  have h_neighbour := ok_neighbour (P := l.prog) (w := w) (base := base) D_neighbour
  have h_ways_in := ok_ways_in (P := l.prog) (w := w) (base := base) D_ways_in T h_bit_of
  have h_bits_of := ok_bits_of (P := l.prog) (w := w) (base := base) D_bits_of T
  have h_sign_of := ok_sign_of (P := l.prog) (w := w) (base := base) D_sign_of T
  have h_mixed := ok_mixed (P := l.prog) (w := w) (base := base) D__law_mixed
  have h_state := ok_state (P := l.prog) (w := w) (base := base) D__law_state
  have h_take := ok_take (P := l.prog) (w := w) (base := base) D__law_take T h_mixed
  have h_whole := ok_whole (P := l.prog) (w := w) (base := base) D__law_whole T
  have h_beside := ok_beside (P := l.prog) (w := w) (base := base) D__law_beside
  have h_ways_good := ok_ways_good (P := l.prog) (w := w) (base := base) D__law_ways_good T h_beside h_whole h_against h_neighbour
  have h_bits_good := ok_bits_good (P := l.prog) (w := w) (base := base) D__law_bits_good T h_whole h_bit_of h_bits_of h_sign_of h_ways_in
  have h_spot := ok_spot (P := l.prog) (w := w) (base := base) D__law_spot h_take
  exact ok_law F T h_state h_take h_spot h_ways_good h_bits_good

theorem walk {l : PySem.W.OpenLaw} {q : Program} {loose : List Str} {XP : (Str → Option Value) → Heap → Prop} {YP : World → Heap → Prop} {d : DefRec} {K : Params → PySem.W.Frag} (hn : l.most = some 63) (hdf : d.params.defaults = [])
    (hY : ∀ (w : World) (h : Heap), YP w h → (K w.params).In h)
    (F : ∀ (w : World) (mg : Str → Option Value) (fa : Addr) (h : Heap), (K w.params).In h → h.Ns mainGlobals mg → mg d.name = some (.ref fa) →
      ∃ fd : FuncData, (∀ (s : Shared) (u : Value), BindsTo s fd ⟨[u], []⟩ [("_law_script", u)]) ∧ ∀ base : Heap, (K w.params).In base → base.Ns mainGlobals mg → FnOk l.prog w (K w.params) mg base CX0 4 fa fd ["_law_script"] (spLaw (K w.params))) :
    PySem.W.WalkO q loose XP YP l.row.toRowW d [] (fun f vs => PySem.call f vs) :=
  L2.walk_of (n := 63) (k := 4) (x := "_law_script") (CX := fun _ => CX0) (sp := fun w => spLaw (K w.params)) hn (by decide) hdf ⟨rfl, by decide, by decide⟩ hY F (fun _ _ a ns hl _ hS => ⟨a, ns, rfl, hS, hl, fun _ => rfl⟩) fun _ _ _ _ _ z => z
end S
open PySem PySem.W PyProof.Rows
set_option maxRecDepth 100000 in
set_option maxHeartbeats 0 in
theorem PySem.Challenge.cw_sheetland_k01_ways_and_signs_holds : PySem.Challenge.rw_sheetland_k01_ways_and_signs.Holds := by
  w_on; o_law; k_head; (case hw => w_witness2)
  k_fill
  refine S.walk (l := PySem.Challenge.rw_sheetland_k01_ways_and_signs) rfl rfl (fun w h Y => PySem.W.kIn_of Y) ?F
  case F =>
    intro w mg fa h KX G hmg
    refine' S.all_mk KX G hmg ?d_bit_of ?d_against ?d_neighbour ?d_ways_in ?d_bits_of ?d_sign_of ?d__law_mixed ?d__law_state ?d__law_take ?d__law_whole ?d__law_spot ?d__law_beside ?d__law_ways_good ?d__law_bits_good ?d_law ?b_all ?b_bool ?b_enumerate ?b_int ?b_isinstance ?b_len ?b_str ?b_sum ?b_tuple ?g_SIXTEENS ?r_SIXTEENS ?g_WAYS ?r_WAYS
    (case d_bit_of => (refine' S.def_mk ?a ?l ?c ?k; (case a => k_is); (case l => k_is); (case c => k_is); (case k => k_is)))
    (case d_against => (refine' S.def_mk ?a ?l ?c ?k; (case a => k_is); (case l => k_is); (case c => k_is); (case k => k_is)))
    (case d_neighbour => (refine' S.def_mk ?a ?l ?c ?k; (case a => k_is); (case l => k_is); (case c => k_is); (case k => k_is)))
    (case d_ways_in => (refine' S.def_mk ?a ?l ?c ?k; (case a => k_is); (case l => k_is); (case c => k_is); (case k => k_is)))
    (case d_bits_of => (refine' S.def_mk ?a ?l ?c ?k; (case a => k_is); (case l => k_is); (case c => k_is); (case k => k_is)))
    (case d_sign_of => (refine' S.def_mk ?a ?l ?c ?k; (case a => k_is); (case l => k_is); (case c => k_is); (case k => k_is)))
    (case d__law_mixed => (refine' S.def_mk ?a ?l ?c ?k; (case a => k_is); (case l => k_is); (case c => k_is); (case k => k_is)))
    (case d__law_state => (refine' S.def_mk ?a ?l ?c ?k; (case a => k_is); (case l => k_is); (case c => k_is); (case k => k_is)))
    (case d__law_take => (refine' S.def_mk ?a ?l ?c ?k; (case a => k_is); (case l => k_is); (case c => k_is); (case k => k_is)))
    (case d__law_whole => (refine' S.def_mk ?a ?l ?c ?k; (case a => k_is); (case l => k_is); (case c => k_is); (case k => k_is)))
    (case d__law_spot => (refine' S.def_mk ?a ?l ?c ?k; (case a => k_is); (case l => k_is); (case c => k_is); (case k => k_is)))
    (case d__law_beside => (refine' S.def_mk ?a ?l ?c ?k; (case a => k_is); (case l => k_is); (case c => k_is); (case k => k_is)))
    (case d__law_ways_good => (refine' S.def_mk ?a ?l ?c ?k; (case a => k_is); (case l => k_is); (case c => k_is); (case k => k_is)))
    (case d__law_bits_good => (refine' S.def_mk ?a ?l ?c ?k; (case a => k_is); (case l => k_is); (case c => k_is); (case k => k_is)))
    (case d_law => (refine' S.def_mk ?a ?l ?c ?k; (case a => k_is); (case l => k_is); (case c => k_is); (case k => k_is)))
    (case b_all => k_is)
    (case b_bool => k_is)
    (case b_enumerate => k_is)
    (case b_int => k_is)
    (case b_isinstance => k_is)
    (case b_len => k_is)
    (case b_str => k_is)
    (case b_sum => k_is)
    (case b_tuple => k_is)
    (case g_SIXTEENS => k_is)
    (case r_SIXTEENS => exact ⟨_, rfl⟩)
    (case g_WAYS => k_is)
    (case r_WAYS => exact ⟨_, rfl⟩)
