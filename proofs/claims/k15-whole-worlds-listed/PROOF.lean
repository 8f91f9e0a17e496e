import PyProof.Rows.All
import Wide.All
import OpenK.AllK
import Wide.FinOn
import HandS.ForMost
import HandS.ForExc
import HandS.HotCalls
import HandS.ExcIs
import HandS.ExcField
import HandS.ExcInit
import HandS.OwnIter
import HandS.IterNext
import HandS.Conv
import HandS.TupAny
import HandS.GenList
import PyProof.GenRules
import PyProof.GenComp
import HandS.ClsMeth
import HandS.IsInst
import KE.GoesMore
import HandS.Iter
import HandS.Walk
import HandS.Ends
import PySem.Challenge.RW_exitdeeds_k15_whole_worlds_listed
set_option Elab.async false
set_option linter.all false
set_option maxRecDepth 100000
set_option maxHeartbeats 8000000
namespace WL
open PySem PySem.Spec PyProof.Rows L2

/-! ### judgements that also keep what stood, and the table of generators -/
structure Kp (Z : List Addr) (s s' : Shared) : Prop where
  gens : s'.gens = s.gens
  keep : ∀ (b : Addr) (o : Obj), b ∉ Z → s.heap.get? b = some o → s'.heap.get? b = some o
theorem Kp.refl {Z : List Addr} {s : Shared} : Kp Z s s := ⟨rfl, fun _ _ _ e => e⟩
theorem Kp.trans {Z : List Addr} {s s1 s2 : Shared} (a : Kp Z s s1) (b : Kp Z s1 s2) : Kp Z s s2 :=
  ⟨b.gens.trans a.gens, fun c o hc e => b.keep c o hc (a.keep c o hc e)⟩
theorem Kp.mono {Z Y : List Addr} {s s1 : Shared} (a : Kp Z s s1) (h : ∀ b ∈ Z, b ∈ Y) : Kp Y s s1 :=
  ⟨a.gens, fun c o hc e => a.keep c o (fun z => hc (h c z)) e⟩
theorem Kp.tok {Z : List Addr} {s : Shared} {t : Nat} : Kp Z s { s with toks := t } := ⟨rfl, fun _ _ _ e => e⟩
theorem Kp.heap {Z : List Addr} {s : Shared} {t : Nat} {h : Heap} (k : ∀ b o, b ∉ Z → s.heap.get? b = some o → h.get? b = some o) : Kp Z s { s with heap := h, toks := t } := ⟨rfl, k⟩

abbrev EQ (X : Cx) (Z : List Addr) (pins : List (Addr × Obj)) (s : Shared) (σ : L2.St) (Q : VK) (u : Value) (s' : Shared) : Prop := Kp Z s s' ∧ EP X pins σ Q u s'
structure QE (X : Cx) (Z : List Addr) (e : Expr) (t : TE) : Prop where
  run : ∀ (pins : List (Addr × Obj)) (s : Shared) (σ : L2.St) (H : Hp) (Q : VK), Inv X pins σ H s → t σ H Q → wpAny (model X.prog X.w) X.A (eval e X.env) (EQ X Z pins s σ Q) X.xe s
structure QA (X : Cx) (Z : List Addr) (es : List Expr) (t : TA) : Prop where
  run : ∀ (pos : Pos) (pins : List (Addr × Obj)) (s : Shared) (σ : L2.St) (H : Hp) (Q : List V → Hp → Prop), Inv X pins σ H s → t σ H Q →
    wpAny (model X.prog X.w) X.A (spliced (backTo pos (starEach es X.env))) (fun us s' => Kp Z s s' ∧ AP X pins σ Q us s') X.xe s
structure QT (X : Cx) (Z : List Addr) (e : Expr) (t : TT) : Prop where
  run : ∀ (pins : List (Addr × Obj)) (s : Shared) (σ : L2.St) (H : Hp) (Q : Bool → Hp → Prop), Inv X pins σ H s → t σ H Q →
    wpAny (model X.prog X.w) X.A (isTrue e X.env (eval e X.env)) (fun b s' => Kp Z s s' ∧ TP X pins σ Q b s') X.xe s
structure QS (X : Cx) (Z : List Addr) (st : Stmt) (t : TS) : Prop where
  run : ∀ (pins : List (Addr × Obj)) (s : Shared) (σ : L2.St) (H : Hp) (D : Ends), Inv X pins σ H s → t D σ H →
    wpAny (model X.prog X.w) X.A (exec st X.env) (fun f s' => Kp Z s s' ∧ SP X pins D f s') X.xe s
structure QSs (X : Cx) (Z : List Addr) (st : List Stmt) (t : TS) : Prop where
  run : ∀ (pins : List (Addr × Obj)) (s : Shared) (σ : L2.St) (H : Hp) (D : Ends), Inv X pins σ H s → t D σ H →
    wpAny (model X.prog X.w) X.A (execs st X.env) (fun f s' => Kp Z s s' ∧ SP X pins D f s') X.xe s

section
variable {X : Cx} {Z : List Addr} {e : Expr} {es : List Expr} {te : TE} {ta : TA} {pos : Pos}
theorem qe_var {i : Nat} {x : Str} (hN : X.N[i]? = some x := by rfl) (hv : Vis X.env.scope x := by first | exact Or.inl rfl | exact Or.inr (Or.inl rfl) | exact Or.inr (Or.inr rfl))
    (hd : (x == ("__debug__" : Str)) = false := by decide) (hcd : (x == ("__classdict__" : Str)) = false := by decide) : QE X Z (.Name x pos) (tVar i) := by
  refine ⟨fun pins s σ H Q I h => ?_⟩
  obtain ⟨v, hi, q⟩ := h
  obtain ⟨m, ns, look⟩ := I.loc
  obtain ⟨u, ru, w1⟩ := look i x v hN hi hv
  have done : EQ X Z pins s σ Q u s := ⟨.refl, v, H, I, ru, q⟩
  rcases w1 with ⟨hk, hm⟩ | ⟨hk, c, hc, hcell⟩
  · exact wpAny_Name (wpAny_loadName_local I.ok.kind hk ns hm done) hd
  · rcases hk with hk | hk
    · exact wpAny_Name (wpAny_loadName_cell I.ok.kind hk hc hcell done) hd
    · exact wpAny_Name (wpAny_loadName_free I.ok.kind hk hc hcell done hcd) hd
theorem qe_glob {x : Str} {v : V} {u : Value} (hg : Gl X x) (hm : X.mg x = some u) (r : RelV v u) (hd : (x == ("__debug__" : Str)) = false := by decide) : QE X Z (.Name x pos) (tC v) :=
  ⟨fun _ _ _ H _ I h => ld_glob I hg hm ⟨.refl, v, H, I, r, h⟩ hd⟩
theorem qe_int {i j} : QE X Z (.Constant (.int i) j pos) (tC (.int i)) :=
  ⟨fun _ _ _ H _ I h => wpAny_Constant_int ⟨.tok, .int i, H, I.tok _, ⟨_, rfl⟩, h⟩⟩
theorem qa_nil : QA X Z [] tNil := ⟨fun _ _ _ _ H Q I h => Calls.spliced_nil ⟨.refl, [], H, I, .nil, h⟩⟩
theorem qa_cons (ha : QE X Z e te) (hr : QA X Z es ta) (hs : starEach (e :: es) X.env = (false, eval e X.env) :: starEach es X.env := by rfl) : QA X Z (e :: es) (tCons te ta) := by
  refine ⟨fun pos pins s σ H Q I h => ?_⟩
  rw [hs]
  refine Calls.spliced_cons (rest := backTo pos (starEach es X.env)) (thn (ha.run pins s σ H _ I h) fun u s1 ⟨k1, x, H1, I1, r1, q1⟩ => ?_)
  exact thn (hr.run pos pins s1 σ H1 _ I1 q1) fun us s2 ⟨k2, xs, H2, I2, r2, q2⟩ => ⟨k1.trans k2, x :: xs, H2, I2, .cons r1 r2, q2⟩

/-- a call of a known value with values -/
def CallQ (X : Cx) (Z : List Addr) (f : Value) (r : List V → Hp → VK → Prop) : Prop :=
  ∀ (pins : List (Addr × Obj)) (s : Shared) (σ : L2.St) (H : Hp) (xs : List V) (us : List Value) (Q : VK), Inv X pins σ H s → Vals xs us → r xs H Q →
    wpAny (model X.prog X.w) X.A (call f us) (EQ X Z pins s σ Q) X.xe s
variable {x id T : Str} {p : Pos} {r : List V → Hp → VK → Prop}
theorem qe_callB {id : String} (hc : CallQ X Z (.builtin id) r) (hg : Gl X x) (hm : X.mg x = none) (hv : bootBuiltins x = some (.builtin id)) (ha : QA X Z (e :: es) ta) (hn : x ≠ "__name__" := by decide) (hdb : (x == ("__debug__" : Str)) = false := by decide)
    (he : starEach (e :: es) X.env = (false, eval e X.env) :: starEach es X.env := by rfl) (hpl : (backTo pos (starEach es X.env)).any (·.1) = false := by rfl) : QE X Z (.Call (.Name x p) (e :: es) [] pos) (tCB r ta) := by
  refine ⟨fun pins s σ H Q I h => wpAny_Call_Name_kw (ld_blt I hg hm hv (PyProof.Rows.callWith_builtin1 (thn (ha.run pos pins s σ H _ I h) fun us s1 hh => ?_) he hpl) hn hdb)⟩
  obtain ⟨k1, vs, H1, I1, r1, q1⟩ := hh
  exact thn (hc pins s1 σ H1 vs us Q I1 r1 q1) fun u s2 ⟨k2, q2⟩ => ⟨k1.trans k2, q2⟩
theorem qe_callTy {T : String} (hc : CallQ X Z (.type T) r) (hg : Gl X x) (hm : X.mg x = none) (hv : bootBuiltins x = some (.type T)) (ha : QA X Z (e :: es) ta) (hn : x ≠ "__name__" := by decide) (hdb : (x == ("__debug__" : Str)) = false := by decide)
    (he : starEach (e :: es) X.env = (false, eval e X.env) :: starEach es X.env := by rfl) (hpl : (backTo pos (starEach es X.env)).any (·.1) = false := by rfl) : QE X Z (.Call (.Name x p) (e :: es) [] pos) (tCB r ta) := by
  refine ⟨fun pins s σ H Q I h => wpAny_Call_Name_kw (ld_blt I hg hm hv (PyProof.Rows.callWith_type1 (thn (ha.run pos pins s σ H _ I h) fun us s1 hh => ?_) he hpl) hn hdb)⟩
  obtain ⟨k1, vs, H1, I1, r1, q1⟩ := hh
  exact thn (hc pins s1 σ H1 vs us Q I1 r1 q1) fun u s2 ⟨k2, q2⟩ => ⟨k1.trans k2, q2⟩
end
end WL
namespace WL
open PySem PySem.Spec PyProof.Rows L2

section
variable {X : Cx} {Z : List Addr} {e : Expr} {te : TE} {pos : Pos} {st : Stmt} {rest : List Stmt} {t u : TS}
theorem qs_ret (he : QE X Z e te) : QS X Z (.Return (some e) pos) (tRet te) :=
  ⟨fun pins s σ H D I h => wpAny_Return_some (thn (he.run pins s σ H _ I h) fun v s1 ⟨k1, x, H1, I1, r1, q1⟩ => ⟨k1, x, σ, H1, I1, r1, q1⟩)⟩
theorem qss_nil : QSs X Z [] tNext := ⟨fun _ _ σ H _ I h => wpAny_execs_nil ⟨.refl, σ, H, I, h⟩⟩
theorem qss_cons (h1 : QS X Z st t) (h2 : QSs X Z rest u) : QSs X Z (st :: rest) (tSeq t u) := by
  refine ⟨fun pins s σ H D I h => ?_⟩
  refine wpAny_execs_cons (thn (h1.run pins s σ H { D with nx := u D } I h) fun f s1 q => ?_)
  obtain ⟨k1, q⟩ := q
  cases f with
  | next =>
    obtain ⟨σ', H', I', q⟩ := q
    exact thn (h2.run pins s1 σ' H' D I' q) fun f2 s2 ⟨k2, q2⟩ => ⟨k1.trans k2, q2⟩
  | ret v => exact ⟨k1, q⟩
  | brk => exact ⟨k1, q⟩
  | cont => exact ⟨k1, q⟩
theorem qss_one (h1 : QS X Z st t) : QSs X Z [st] t := by
  refine ⟨fun pins s σ H D I h => wpAny_execs_cons (thn (h1.run pins s σ H D I h) fun f s1 q => ?_)⟩
  cases f with
  | next => exact wpAny_execs_nil q
  | ret v => exact q
  | brk => exact q
  | cont => exact q
theorem qs_expr (he : QE X Z e te) (hs : swapsWith e none pos.line X.env = pure false := by rfl) : QS X Z (.Expr e pos) (tDrop te) :=
  ⟨fun pins s σ H D I h => wpAny_Expr_any (thn (he.run pins s σ H _ I h) fun v s1 ⟨k1, x, H1, I1, r1, q1⟩ => ⟨k1, σ, H1, I1, q1⟩) I.quiet hs⟩
theorem qs_if {c : Expr} {a b : List Stmt} {tc : TT} (hc : QT X Z c tc) (ha : QSs X Z a t) (hb : QSs X Z b u) : QS X Z (.If c a b pos) (tIfS tc t u) := by
  refine ⟨fun pins s σ H D I h => wpAny_If (thn (hc.run pins s σ H _ I h) fun d s1 hd => ?_)⟩
  obtain ⟨k1, H1, I1, q1⟩ := hd
  cases d with
  | true => exact thn (ha.run pins s1 σ H1 D I1 q1) fun f2 s2 ⟨k2, q2⟩ => ⟨k1.trans k2, q2⟩
  | false => exact thn (hb.run pins s1 σ H1 D I1 q1) fun f2 s2 ⟨k2, q2⟩ => ⟨k1.trans k2, q2⟩
theorem qt_val {t : TE} (h : QE X Z e t) (he : ∀ whole, isTrue e X.env whole = (do let v ← whole; standAt e.pos; holding [v] (truthy v)) := by intro _; rfl) : QT X Z e (tB t) := by
  refine ⟨fun pins s σ H Q I hw => isTrue_plain (thn (h.run pins s σ H _ I hw) fun v s1 hv => ?_) (he _)⟩
  obtain ⟨k1, x, H1, I1, r1, c, rfl, q⟩ := hv
  cases r1
  exact wpAny_truthy_bool ⟨k1, H1, I1, q⟩
theorem qt_not {a : Expr} {tA : TT} (ha : QT X Z a tA) : QT X Z (.UnaryOp .Not a pos) (tNot tA) :=
  ⟨fun pins s σ H Q I h => isTrue_not (ha.run pins s σ H (fun c H1 => Q (!c) H1) I h)⟩
/-- a == b of two whole numbers, as a test -/
theorem qt_eqI {a b : Expr} {ta tb : TE} (ha : QE X Z a ta) (hb : QE X Z b tb) : QT X Z (.Compare a [.Eq] [b] pos) (tTest (tOp (rI0 fun i j => .bl (decide (i = j))) ta tb)) := by
  refine ⟨fun pins s σ H Q I h => ?_⟩
  refine wpAny_isTrue_Compare1 (thn (ha.run pins s σ H _ I h) fun v s1 h1 => ?_) (nomark _)
  obtain ⟨k1, x, H1, I1, r1, q1⟩ := h1
  refine thn (hb.run pins s1 σ H1 _ I1 q1) fun u s2 h2 => ?_
  obtain ⟨k2, y, H2, I2, r2, i, j, rfl, rfl, kk, ek, q2⟩ := h2
  obtain ⟨t1, rfl⟩ := r1
  obtain ⟨t2, rfl⟩ := r2
  cases ek
  refine eq_int ?_
  rw [Bool.beq_eq_decide_eq]
  exact wpAny_truthy_bool ⟨k1.trans k2, H2, I2, q2⟩
end

/-! ### the objects of an instance, pinned -/
structure WPin (C a dx t : Addr) (its : List Value) (pn : List (Addr × Obj)) : Prop where
  ne : dx ≠ a
  obj : (a, PySem.W.instObj C dx) ∈ pn
  dict : ∃ (od : Obj) (mA : Str → Option Value), (dx, od) ∈ pn ∧ (∀ h : Heap, h.get? dx = some od → h.Ns1 dx mA) ∧ mA "answers" = some (.ref t)
  tup : ∃ ot : Obj, (t, ot) ∈ pn ∧ ∀ h : Heap, h.get? t = some ot → IsTup h t its.toArray
section
variable {X : Cx} {pins : List (Addr × Obj)} {σ : L2.St} {H : Hp} {s : Shared} {C a dx t : Addr} {its : List Value}
theorem WPin.inst (w : WPin C a dx t its X.pn) (I : Inv X pins σ H s) : ∃ mA, ObjM s.heap a dx C mA ∧ mA "answers" = some (.ref t) := by
  obtain ⟨od, mA, h1, h2, h3⟩ := w.dict
  exact ⟨mA, ⟨(I.pin _ (List.mem_append_left _ w.obj)).1, h2 _ (I.pin _ (List.mem_append_left _ h1)).1, w.ne⟩, h3⟩
theorem WPin.tuple (w : WPin C a dx t its X.pn) (I : Inv X pins σ H s) : IsTup s.heap t its.toArray := by
  obtain ⟨ot, h1, h2⟩ := w.tup
  exact h2 _ (I.pin _ (List.mem_append_left _ h1)).1
/-- e.answers of the pinned instance -/
theorem qe_answers {Z : List Addr} {e : Expr} {te : TE} {pos : Pos} (w : WPin C a dx t its X.pn) (cl : Cls X.K C) (na : NoAttr X.K C "answers") (he : QE X Z e te) (hb : attributeBase e "answers" X.env (eval e X.env) = eval e X.env := by rfl) :
    QE X Z (.Attribute e "answers" pos) (fun σ H Q => te σ H fun x H1 => x = .ref a ∧ Q (.ref t) H1) := by
  refine ⟨fun pins s σ H Q I h => ?_⟩
  refine attr_of hb (thn (he.run pins s σ H _ I h) fun u s1 hh => ?_)
  obtain ⟨k1, x, H1, I1, rx, ex, q⟩ := hh
  subst ex
  obtain rfl : u = Value.ref a := rx
  obtain ⟨mA, O, hm⟩ := w.inst I1
  exact get_map I1.kIn O (cl.get _) cl.hd na hm rfl ⟨k1.trans .tok, .ref t, H1, I1.tok _, rfl, q⟩
/-- a tuple's iterator, tracked -/
def ItT (t it : Addr) (i : Nat) : HO := .ext fun h => h.IsTupleIter it t i
theorem itT_ok {P : Program} {w : World} {H : Hp} {h : Heap} {t it : Addr} {i : Nat} (x : h.IsTupleIter it t i) : ObjOk P w H h it (ItT t it i) := by
  obtain ⟨o, ho, r⟩ := id x
  exact ⟨x, ⟨o, ho⟩, fun h1 h2 z k => by
    obtain ⟨o1, e1, r1⟩ := z
    exact ⟨o1, k _ e1, r1⟩⟩
theorem itT_at {P : Program} {w : World} {H : Hp} {h : Heap} {t it : Addr} {i : Nat} (hok : HOk P w H h) (e : H it = some (ItT t it i)) : h.IsTupleIter it t i := by
  have x : ObjOk P w H h it (.ext fun h => h.IsTupleIter it t i) := hok it _ e
  exact x.1
/-- iter(t) of the pinned tuple: a tuple iterator -/
theorem call_iterT {Z : List Addr} (w : WPin C a dx t its X.pn) : CallQ X Z (.builtin "iter") (fun xs H Q => xs = [.ref t] ∧ ∀ it, H it = none → Q (.ref it) (upd H it (ItT t it 0))) := by
  intro pins s σ H xs us Q I r h
  obtain ⟨rfl, q⟩ := h
  obtain ⟨u, rfl, ru⟩ := vals1 r
  cases ru
  refine Calls.call_function_entry (by decide +kernel) (by decide +kernel) PySem.W.kdk_entry_iter (PySem.W.kdk_args_iter _) ?_
  unfold Builtin.«iter»
  refine wpAny_bind (m := someArgs "iter" 1 2 _) (wpAny_of_eq (a := [Value.ref t]) (by first | rfl | kernel_rfl!) ?_)
  show wpAny _ _ (pyIter (.ref t) >>= _) _ _ _
  refine wpAny_bind (wpAny_pyIter_tuple (w.tuple I) (wpAny_pure ⟨_, rfl, ?_⟩))
  have kk : ∀ b o, s.heap.get? b = some o → (s.heap.push { cls := .type "tuple_iterator", data := .fields #[.ref t, .int 0 0] }).get? b = some o := fun b o e => Heap.get?_push_of_some _ e
  exact ⟨.heap fun b o _ e => kk b o e, .ref _, _, I.laid (t' := s.toks) kk (Nat.le_refl _) (itT_ok ⟨_, Heap.get?_push_size _ rfl, rfl, rfl⟩), rfl, q _ (I.hok.fresh (Nat.le_refl _))⟩
/-- len(t) of the pinned tuple -/
theorem call_lenT {Z : List Addr} (w : WPin C a dx t its X.pn) (hz : its.length ≤ 1000) : CallQ X Z (.builtin "len") (fun xs H Q => xs = [.ref t] ∧ Q (.int its.length) H) := by
  intro pins s σ H xs us Q I r h
  obtain ⟨rfl, q⟩ := h
  obtain ⟨u, rfl, ru⟩ := vals1 r
  cases ru
  exact len_tuple (w.tuple I) (by simp only [List.size_toArray]; omega) ⟨.tok, .int its.length, H, I.tok _, ⟨_, congrArg (fun n : Nat => Value.int (n : Int) _) List.size_toArray⟩, q⟩
end

/-! ### the call of a def that keeps what stood -/
theorem inv_kp {X : Cx} {pins : List (Addr × Obj)} {σ : L2.St} {H : Hp} {s s' : Shared} (I : Inv X pins σ H s) (k : Kp [] s s') (os : s'.os = s.os) : Inv X pins σ H s' := by
  have kk : ∀ b o, s.heap.get? b = some o → s'.heap.get? b = some o := fun b o e => k.keep b o (by simp) e
  exact I.call' (ch := []) os (Un.kept kk) (I.hok.kept kk) (by rw [k.gens]; exact I.bare) fun b z => by simp at z
/-- the context of such a def's body: wp stands all the while -/
def cxW (P : Program) (w : World) (K : PySem.W.Frag) (mg : Str → Option Value) (base : Heap) (N : List Str) (qual : Str) (scope : Scope) (f : Addr) (cd : Value) (A : Around) (outer : List Env) (s : Shared) (H : Hp) (wp : List (Addr × Obj)) : Cx :=
  { (cxOf CX0 P w K mg base N qual scope f cd A outer s H E0).nox with pn := wp }
theorem call_q {P : Program} {w : World} {K : PySem.W.Frag} {mg : Str → Option Value} {base : Heap} {k : Nat} {f : Addr} {x qual : Str} {st : Stmt} {fd : FuncData} {N ps : List Str} {A : Around} {outer : List Env} {s : Shared} {H : Hp} {us : List Value} {vs : List V} {Q : VK} {wp : List (Addr × Obj)}
    (F : Fun K x qual st f fd) (S : FnScope N ps (defScope st)) (hr : Room (k + 1) A) (e0 : Env0 P w K mg base A outer s H) (hb : BindsTo s fd ⟨us, []⟩ (ps.zip us)) (r : Vals vs us) (hl : vs.length = ps.length) (hwp : ∀ p ∈ wp, L2H.PinOk outer H s p)
    (hbody : ∀ cdv, ∃ t, QSs (cxW P w K mg base N qual (defScope st) f cdv A outer s H wp) [] (defBody st) t ∧ t { nx := fun _ H' => Q .non H', rt := Q } (start N vs) H) :
    codeAny (model P w) A (.call (.ref f) ⟨us, []⟩) (fun r s' => ∃ u, r = .ok (.ret u) ∧ Kp [] s s' ∧ CE outer P w H s Q u s') s := by
  obtain ⟨oc, od, kV, doc, pm, an, cdv, ct, osl, rfl, lk, hcd⟩ := F.ex
  have KX : K.In s.heap := e0.mod.kin.keeps fun b o e => (e0.bs b o e).1
  have lim : s.heap.NoLimit := e0.mod.nolimit.keeps fun b o e => (e0.bs b o e).1
  have kinds : ∀ y ∈ ps.zip us, (defScope st).names.lookup y.1 = some .local ∨ ((defScope st).names.lookup y.1 = some .cell ∧ ((cellsFrom (s.heap.objs.size + 1) (defScope st).names []).lookup y.1).isSome = true) := fun ⟨n, v⟩ hy => by
    rcases S.par n (List.of_mem_zip hy).1 with q | q
    · exact .inl q
    · exact .inr ⟨q, PySem.W.cellsFrom_some _ _ _ (.inl q)⟩
  refine codeAny_call_function hr.depth (KX _ _ lk) rfl S.co S.gen rfl (PySem.W.codeRec_of KX hcd) (hb _ _ _ _ ?_)
  refine wpAny_newFunctionEnv_cells S.kind kinds fun env he s1 x => ?_
  subst he
  refine ⟨lim.keeps x.toInCall.keep, codeAny_func ?_⟩
  obtain ⟨t, ht, hq⟩ := hbody cdv
  have I0 := inv_start (CX := CX0) (E := E0) S hr.hd e0 hl r x
  have I1 : Inv (cxW P w K mg base N qual (defScope st) f cdv A outer s H wp) [] (start N vs) H s1 := by
    have J := I0.wish fun _ _ => False
    refine ⟨⟨J.ok.mod, J.ok.kind, J.ok.glob, J.ok.blt, J.ok.above, J.ok.inj, J.ok.has, J.ok.cab, J.ok.hd, J.ok.frames, J.ok.stk, J.ok.exf, J.ok.bs, J.ok.bsz, J.ok.noex, J.ok.exfs, J.ok.funs, J.ok.frf⟩, J.os, J.bare, J.base, J.loc, J.cell, J.free, J.freeC, fun p hp => ?_, J.hok, J.len⟩
    have hp' : p ∈ wp := (List.mem_append.mp hp).elim (fun z => z) fun z => by simp at z
    have z := hwp p hp'
    exact ⟨x.toInCall.keep _ _ z.get, z.free, Nat.ne_of_lt (Heap.lt_size z.get), z.nofs, z.nocell⟩
  have k1 : Kp [] s s1 := by
    obtain ⟨h1, tk, rfl, hk⟩ := x.done
    exact ⟨rfl, fun b o _ e => hk b o e⟩
  refine wpAny_mono (ht.run [] s1 (start N vs) H _ I1 hq) (fun fl s' hs => ?_) fun e s' hs => False.elim hs
  obtain ⟨k2, hs⟩ := hs
  have fin : ∀ {σ' : L2.St} {H' : Hp} {v : V} {u : Value}, Inv (cxW P w K mg base N qual (defScope st) f cdv A outer s H wp) [] σ' H' s' → RelV v u → Q v H' → CE outer P w H s Q u s' :=
    fun {σ' H' v u} J rv q => ⟨v, H', J.os, J.bare, J.base, J.hok, rv, q⟩
  cases fl with
  | ret u =>
    obtain ⟨v, σ', H', J, rv, q⟩ := hs
    exact ⟨u, rfl, k1.trans k2, fin J rv q⟩
  | next =>
    obtain ⟨σ', H', J, q⟩ := hs
    exact ⟨.none, rfl, k1.trans k2, fin (v := V.non) (u := Value.none) J rfl q⟩
  | brk =>
    obtain ⟨_, _, _, q⟩ := hs
    exact False.elim q
  | cont =>
    obtain ⟨_, _, _, q⟩ := hs
    exact False.elim q
end WL
namespace WL
open PySem PySem.Spec PyProof.Rows L2

/-- what a call of __iter__, of __len__ of such an instance gives -/
def IterOk (P : Program) (w : World) (K : PySem.W.Frag) (mg : Str → Option Value) (base : Heap) (C fi : Addr) : Prop :=
  ∀ (A : Around) (outer : List Env) (s : Shared) (H : Hp) (a dx t : Addr) (its : List Value) (wp : List (Addr × Obj)), Room 1 A → Env0 P w K mg base A outer s H → (∀ p ∈ wp, L2H.PinOk outer H s p) → WPin C a dx t its wp → its.length ≤ 1000 →
    codeAny (model P w) A (.call (.ref fi) ⟨[.ref a], []⟩) (fun r s' => ∃ it, r = .ok (.ret (.ref it)) ∧ Kp [] s s' ∧ s'.os = s.os ∧ s.heap.objs.size ≤ it ∧ s'.heap.IsTupleIter it t 0) s
def LenOk (P : Program) (w : World) (K : PySem.W.Frag) (mg : Str → Option Value) (base : Heap) (C fl : Addr) : Prop :=
  ∀ (A : Around) (outer : List Env) (s : Shared) (H : Hp) (a dx t : Addr) (its : List Value) (wp : List (Addr × Obj)), Room 1 A → Env0 P w K mg base A outer s H → (∀ p ∈ wp, L2H.PinOk outer H s p) → WPin C a dx t its wp → its.length ≤ 1000 →
    codeAny (model P w) A (.call (.ref fl) ⟨[.ref a], []⟩) (fun r s' => ∃ tk, r = .ok (.ret (.int its.length tk)) ∧ Kp [] s s' ∧ s'.os = s.os) s
/-- the class of the instances, as the written part has it -/
structure WCls (K : PySem.W.Frag) (C fi fl : Addr) : Prop where
  cl : Cls K C
  it : PySem.W.findIn K (.ref C) "__iter__" = some (some (.ref fi))
  itF : PySem.W.isFn K (.ref fi) = true
  ln : PySem.W.findIn K (.ref C) "__len__" = some (some (.ref fl))
  lnF : PySem.W.isFn K (.ref fl) = true

section
variable {X : Cx} {pins : List (Addr × Obj)} {σ : L2.St} {H : Hp} {s : Shared} {C a dx t fi fl : Addr} {its : List Value} {row : List V}
theorem pins_ok (I : Inv X pins σ H s) : ∀ p ∈ X.pn, L2H.PinOk X.stack H s p := fun p hp => by
  have z := I.pin p (List.mem_append_left _ hp)
  exact ⟨z.1, z.2.1, fun hm => (List.mem_cons.mp (I.stkSub p.1 hm)).elim z.2.2.1 z.2.2.2.1, z.2.2.2.2⟩
theorem env_sub (I : Inv X pins σ H s) {A : Around} (h : A.frames = X.A.frames) : Env0 X.prog X.w X.K X.mg X.base A X.stack s H := by
  have e := I.env0
  exact ⟨by rw [h]; exact e.frames, e.mod, e.bs, e.bsz, e.funs, e.frf, e.hok, e.bare⟩

/-- the list at S takes the rest of the tuple -/
theorem fill_turns {S it : Addr} {s0 : Shared} {Rs : Result → Shared → Prop} {A1 : Around} (hh : A1.handled = none) (W : WPin C a dx t its X.pn) (hv : Vals row its) (hz : row.length ≤ 1000)
    (hs0 : s0.heap.objs.size ≤ S) (hit : s0.heap.objs.size ≤ it) (hne : it ≠ S) (hHt : H it = none)
    (hfp : it ≠ X.env.locals ∧ X.s_0.heap.objs.size ≤ it ∧ (∀ x c, X.env.cells.lookup x = some c → c ≠ it) ∧ ∀ p ∈ X.pn ++ pins, p.1 ≠ it)
    (hend : ∀ s', Kp [] s0 s' → Inv X pins σ (upd H S (.lst row)) s' → Rs (.ok (.ret .none)) s') :
    ∀ (m i : Nat) (s : Shared), i + m = its.length → Kp [] s0 s → Inv X pins σ (upd H S (.lst (row.take i))) s → s.heap.IsTupleIter it t i →
      codeAny (model X.prog X.w) A1 (.builtin "list.extend.loop" ⟨[.ref S, .ref it, .none], []⟩) Rs s := by
  have hlen := hv.length
  obtain ⟨f1, f2, f3, f4⟩ := hfp
  have hn : ∀ xs, upd H S (.lst xs) it = none := fun xs => by rw [upd_ne hne]; exact hHt
  have kit : ∀ {s1 : Shared} {h' : Heap}, Kp [] s0 s1 → (∀ b o, b ≠ it → s1.heap.get? b = some o → h'.get? b = some o) → Kp [] s0 { s1 with heap := h' } := fun {s1 h'} k q =>
    ⟨k.gens, fun b o hb e => q b o (Nat.ne_of_lt (Nat.lt_of_lt_of_le (Heap.lt_size e) hit)) (k.keep b o hb e)⟩
  intro m
  induction m with
  | zero =>
    intro i s him k I st
    have ei : i = its.length := by omega
    subst ei
    rw [← hlen, List.take_length] at I
    refine codeAny_builtin PySem.F.entry_extend_loop ?_
    rw [Around.under_plainId PySem.F.plain_extend_loop _]
    show wpAny _ A1.in1 (pyNext (.ref it) >>= _) _ _ s
    refine wpAny_bind (wpAny_pyNext_tuple_end (A := A1.in1) hh st (W.tuple I) (by simp) fun h' eb => ?_)
    have kb : ∀ b o, b ≠ it → s.heap.get? b = some o → h'.get? b = some o := fun b o hb e => eb b o hb e
    exact wpAny_pure (hend _ (kit k kb) (I.turned (t' := s.toks) kb (hn _) f1 (.inr f2) f3 f4))
  | succ m ih =>
    intro i s him k I st
    have hi : i < its.length := by omega
    refine codeAny_builtin PySem.F.entry_extend_loop ?_
    rw [Around.under_plainId PySem.F.plain_extend_loop _]
    show wpAny _ A1.in1 (pyNext (.ref it) >>= _) _ _ s
    refine wpAny_bind (wpAny_pyNext_tuple_item (A := A1.in1) st (W.tuple I) (x := its[i]) (by simp [hi]) fun h' st' sb => ?_)
    have kb : ∀ b o, b ≠ it → s.heap.get? b = some o → h'.get? b = some o := fun b o hb e => (sb.2 b hb).trans e
    have I1 : Inv X pins σ (upd H S (.lst (row.take i))) { s with heap := h' } := I.turned (t' := s.toks) kb (hn _) f1 (.inr f2) f3 f4
    show wpAny _ A1.in1 (updateSeq S (·.push its[i]) >>= _) _ _ _
    obtain ⟨zz, its1, c1, r1, l1, e1⟩ := I1.lstM (upd_same (o := .lst (row.take i)))
    have ltk : (row.take i).length = i := by rw [List.length_take]; omega
    have hSz : its1.length < sizeLine := by rw [← l1, ltk, sizeLine_eq]; omega
    obtain ⟨x, hx⟩ : ∃ x, row[i]? = some x := ⟨row[i]'(by omega), by simp [show i < row.length by omega]⟩
    have rx : RelV x its[i] := by
      obtain ⟨u, hu, ru⟩ := hv.get hx
      have : its[i]? = some its[i] := by simp [hi]
      rw [this] at hu
      cases hu
      exact ru
    refine wpAny_bind (wpAny_updateSeq e1 rfl (wpAny_pure ⟨plainId_quiet PySem.F.plain_extend_loop _, ?_⟩) (by rw [List.size_toArray]; omega) (by show (its1.toArray.push its[i]).size ≤ sizeLine + 1; rw [Array.size_push, List.size_toArray]; omega))
    have etk : row.take i ++ [x] = row.take (i + 1) := by rw [List.take_add_one, hx]; rfl
    have I2 := I1.lset (f := (·.push its[i])) (its' := its1 ++ [its[i]]) (ys := row.take i ++ [x]) (t' := s.toks) upd_same e1 (by simp) (r1.append (.cons rx .nil)) (by rw [List.length_append, List.length_singleton, ltk, sizeLine_eq]; omega)
    rw [upd_upd, etk] at I2
    have kS : ∀ b o, b ∉ ([] : List Addr) → s0.heap.get? b = some o → (h'.update S (Obj.mapSeq (·.push its[i]))).get? b = some o := fun b o hb e => by
      have nS : S ≠ b := Ne.symm (Nat.ne_of_lt (Nat.lt_of_lt_of_le (Heap.lt_size e) hs0))
      rw [Heap.get?_update_other _ _ nS]
      exact (kit k kb).keep b o hb e
    refine ih (i + 1) _ (by omega) ⟨k.gens, kS⟩ I2 ?_
    obtain ⟨o2, e2, r2⟩ := st'
    exact ⟨o2, (Heap.get?_update_other _ _ (Ne.symm hne)).trans e2, r2⟩
end
end WL
namespace WL
open PySem PySem.Spec PyProof.Rows L2
section
variable {X : Cx} {C a dx t fi fl : Addr} {its : List Value} {row : List V}
/-- list(a), a the pinned instance: its __iter__, its __len__, the turns -/
theorem call_listW (w : WPin C a dx t its X.pn) (T : WCls X.K C fi fl) (FI : IterOk X.prog X.w X.K X.mg X.base C fi) (FL : LenOk X.prog X.w X.K X.mg X.base C fl) (hv : Vals row its) (hz : row.length ≤ 1000) (hr : Room 5 X.A) :
    CallQ X [] (.type "list") (fun xs H Q => xs = [.ref a] ∧ ∀ l, H l = none → Q (.ref l) (upd H l (.lst row))) := by
  intro pins s σ H xs us Q I rv h
  obtain ⟨rfl, hq⟩ := h
  obtain ⟨u, rfl, ru⟩ := vals1 rv
  cases ru
  have hlen := hv.length
  have hzi : its.length ≤ 1000 := by omega
  have S2 : Room 3 X.A.in1.in1 := hr.in1.in1
  refine callType_codes (Q₁ := fun obj s₁ => obj = .ref s.heap.objs.size ∧ s₁ = { s with heap := s.heap.push { cls := .type "list", data := .seq #[] } }) PySem.F.called_list (PySem.F.typeCall_list_1 _) PySem.F.entry_list_init
    (code_list_new _ ⟨rfl, rfl⟩) fun obj s₁ h₁ => ?_
  obtain ⟨rfl, rfl⟩ := h₁
  have hS : (s.heap.push { cls := .type "list", data := .seq #[] }).get? s.heap.objs.size = some { cls := .type "list", data := .seq #[] } := Heap.get?_push_size _ rfl
  refine ⟨⟨_, hS, rfl⟩, PySem.F.args_list_init_2 _ _, ?_⟩
  have fr : H s.heap.objs.size = none := I.hok.fresh (Nat.le_refl _)
  have I1 : Inv X pins σ (upd H s.heap.objs.size (.lst [])) { s with heap := s.heap.push { cls := .type "list", data := .seq #[] } } := I.lnew (its := []) (t' := s.toks) .nil (Nat.zero_le _)
  show wpAny _ X.A.in1.in1 (do let old ← Builtin.List.listItems (.ref s.heap.objs.size); Builtin.List.listUpdate (.ref s.heap.objs.size) (fun _ => #[]); letGo old.toList.reverse; Builtin.List.listExtendWith (.ref s.heap.objs.size) (.ref a) .none) _ _ _
  refine wpAny_bind ?_
  unfold Builtin.List.listItems
  refine wpAny_bind (wpAny_seqItems hS rfl (wpAny_pure ?_))
  show wpAny _ _ (updateSeq s.heap.objs.size (fun _ => #[]) >>= fun _ => letGo (#[] : Array Value).toList.reverse >>= fun _ => Builtin.List.listExtendWith (.ref s.heap.objs.size) (.ref a) .none) _ _ _
  refine wpAny_bind (wpAny_updateSeq hS rfl ?_)
  have I2 := I1.lset (f := fun _ => #[]) (its := []) (its' := []) (ys := []) (t' := s.toks) upd_same hS rfl .nil (Nat.zero_le _)
  rw [upd_upd] at I2
  refine wpAny_bind (wpAny_letGo ?_)
  have kS : ∀ b o, s.heap.get? b = some o → ((s.heap.push { cls := .type "list", data := .seq #[] }).update s.heap.objs.size (Obj.mapSeq fun _ => #[])).get? b = some o := fun b o e => by
    rw [Heap.get?_update_other _ _ (Nat.ne_of_gt (Heap.lt_size e))]
    exact Heap.get?_push_of_some _ e
  have K2 : Kp [] s { s with heap := (s.heap.push { cls := .type "list", data := .seq #[] }).update s.heap.objs.size (Obj.mapSeq fun _ => #[]) } := ⟨rfl, fun b o _ e => kS b o e⟩
  have hneS : s.heap.objs.size ≠ a := fun z => by
    have q := (I.pin _ (List.mem_append_left pins w.obj)).1
    exact Nat.lt_irrefl _ (z ▸ Heap.lt_size q)
  generalize hs2 : ({ s with heap := (s.heap.push { cls := .type "list", data := .seq #[] }).update s.heap.objs.size (Obj.mapSeq fun _ => #[]) } : Shared) = s2 at I2 K2 ⊢
  have hS2 : s.heap.objs.size < s2.heap.objs.size := by
    obtain ⟨_, _, _, _, e⟩ := I2.hok _ _ (upd_same (H := H) (a := s.heap.objs.size) (o := .lst []))
    exact Heap.lt_size e
  have os2 : s2.os = s.os := by rw [← hs2]
  obtain ⟨mA, O, hA⟩ := w.inst I2
  obtain ⟨od, J, _⟩ := O.look
  obtain ⟨m0, hF⟩ := I2.fr
  unfold Builtin.List.listExtendWith
  refine wpAny_bind (J.type.here ?_)
  have h1 : Builtin.List.listSameRef (.ref s.heap.objs.size) (.ref a) = false := by simp [Builtin.List.listSameRef, hneS]
  have h2 : (Value.ref C == Value.type "list") = false := rfl
  have h3 : (Value.ref C == Value.type "tuple") = false := rfl
  simp only [h1, h2, h3, Bool.or_false, Bool.false_eq_true, if_false]
  refine wpAny_bind (PySem.W.owit_iter hF I2.ok.mod.kin J T.it T.itF ?_)
  refine wpAny_call (codeAny_mono (FI X.A.in1.in1 X.stack s2 _ a dx t its X.pn (S2.mono (by decide)) (env_sub I2 rfl) (pins_ok I2) w hzi) fun r s3 hr3 => ?_)
  obtain ⟨it, rfl, k3, os3, hit, st3⟩ := hr3
  have I3 := inv_kp I2 k3 os3
  have K3 := K2.trans k3
  have tit : s3.TypeIs (.ref it) "tuple_iterator" := by
    obtain ⟨o, e, c, _⟩ := st3
    exact ⟨o, e, c⟩
  show wpAny _ _ (specialOf (.ref it) "__next__") _ _ s3
  refine wpAny_specialOf tit PySem.F.slot_tuple_iterator_next.lookup ?_
  refine wpAny_bind (wpAny_holding ?_)
  obtain ⟨mA3, O3, _⟩ := w.inst I3
  obtain ⟨od3, J3, _⟩ := O3.look
  obtain ⟨m3, hF3⟩ := I3.fr
  unfold Builtin.List.listLengthHint
  refine wpAny_bind (wpAny_bind (J3.type.here ((PySem.W.looks_findIn I3.kIn T.ln).here ?_)))
  refine PySem.W.KFB.if_not rfl ?_
  refine PySem.W.KFB.if_so rfl ?_
  refine wpAny_bind (wpAny_rule ?_)
  refine wpAny_bind (wpAny_attempt (PySem.W.len_K hF3 I3.ok.mod.kin J3 T.ln T.lnF ?_))
  refine wpAny_call (codeAny_mono (FL X.A.in1.in1.in1 X.stack s3 _ a dx t its X.pn (S2.in1.mono (by decide)) (env_sub I3 rfl) (pins_ok I3) w hzi) fun r s4 hr4 => ?_)
  obtain ⟨tk4, rfl, k4, os4⟩ := hr4
  have I4 := (inv_kp I3 k4 os4).tok (s4.toks + 1)
  have K4 : Kp [] s { s4 with toks := s4.toks + 1 } := (K3.trans k4).trans .tok
  have st4 : s4.heap.IsTupleIter it t 0 := by
    obtain ⟨o, e, r⟩ := st3
    exact ⟨o, k4.keep _ _ (by simp) e, r⟩
  refine ⟨⟨by omega, by omega⟩, ?_⟩
  have hit' : s2.heap.objs.size ≤ it := hit
  have hneit : it ≠ s.heap.objs.size := Nat.ne_of_gt (Nat.lt_of_lt_of_le hS2 hit')
  have go : ∀ (s5 : Shared), Kp [] s s5 → Inv X pins σ (upd H s.heap.objs.size (.lst [])) s5 → s5.heap.IsTupleIter it t 0 → s5.os = s.os → codeAny (model X.prog X.w) X.A.in1 (.builtin "list.extend.loop" ⟨[.ref s.heap.objs.size, .ref it, .none], []⟩)
      (wants (fun r s₂ => r = .none ∧ EQ X [] pins s σ Q (.ref s.heap.objs.size) s₂) X.xe) s5 := fun s5 k5 I5 st5 os5 => by
    have hHt : H it = none := by
      have q : upd H s.heap.objs.size (.lst []) it = none := I2.hok.fresh hit'
      rw [upd_ne hneit] at q
      exact q
    have fp := I2.fpOk hit' (I2.hok.fresh hit')
    obtain ⟨f0, f1, f2, f3, f4, f5⟩ := fp
    have f3' : X.s_0.heap.objs.size ≤ it := Nat.le_trans I2.sz hit'
    refine fill_turns (s0 := s) (S := s.heap.objs.size) (A1 := X.A.in1) hr.hd w hv hz (Nat.le_refl _) (by omega) hneit hHt ⟨f1, f3', f4, f5⟩ (fun s6 k6 I6 => ?_) its.length 0 s5 (by omega) k5 (by rw [List.take_zero]; exact I5) st5
    exact ⟨rfl, k6, .ref _, _, I6, rfl, hq _ fr⟩
  have hnl : Builtin.List.listTooLong ((its.length : Int).toNat) = false := by
    rw [Int.toNat_natCast]
    exact notLongL (by rw [sizeLine_eq]; omega)
  show wpAny _ _ (asInt? (Value.int its.length (s4.toks)) >>= _) _ _ _
  refine wpAny_bind (wpAny_pure ?_)
  refine PySem.W.KFB.if_not hnl ?_
  refine wpAny_pure ?_
  obtain ⟨zz, its1, c1, r1, l1, e1⟩ := I4.lstM (upd_same (o := .lst []))
  cases r1
  refine wpAny_ite_split (fun _ => ?_) (fun _ => wpAny_pure ⟨plainId_quiet PySem.F.plain_extend_loop _, go _ K4 I4 st4 (os4.trans (os3.trans os2))⟩)
  refine wpAny_bind (wpAny_rule ?_)
  refine wpAny_bind ?_
  show wpAny _ _ (updateSeq s.heap.objs.size (·.push .none) >>= fun _ => updateSeq s.heap.objs.size (·.pop)) _ _ _
  refine wpAny_bind (wpAny_updateSeq e1 rfl ?_)
  have I5 := I4.lset (f := (·.push Value.none)) (its' := [Value.none]) (ys := [.non]) (t' := s4.toks + 1) upd_same e1 (by simp) (.cons rfl .nil) (by rw [List.length_singleton, sizeLine_eq]; decide)
  obtain ⟨z5, its5, c5, r5, l5, e5⟩ := I5.lstM upd_same
  obtain ⟨u5, rfl, ru5⟩ := r5.one
  refine wpAny_updateSeq e5 rfl ?_ (by show 1 ≤ sizeLine; rw [sizeLine_eq]; decide) (by show 0 ≤ sizeLine + 1; exact Nat.zero_le _)
  have I6 := I5.lset (f := (·.pop)) (its := [u5]) (its' := []) (ys := []) (t' := s4.toks + 1) upd_same e5 (by rfl) .nil (Nat.zero_le _)
  rw [upd_upd, upd_upd] at I6
  refine wpAny_pure ⟨plainId_quiet PySem.F.plain_extend_loop _, go _ ⟨K4.gens, fun b o hb e => ?_⟩ I6 ?_ (os4.trans (os3.trans os2))⟩
  · have nS : s.heap.objs.size ≠ b := Nat.ne_of_gt (Heap.lt_size e)
    refine (Heap.get?_update_other _ _ nS).trans ((Heap.get?_update_other _ _ nS).trans ?_)
    exact K4.keep b o hb e
  · obtain ⟨o, e, r⟩ := st4
    exact ⟨o, (Heap.get?_update_other _ _ (Ne.symm hneit)).trans ((Heap.get?_update_other _ _ (Ne.symm hneit)).trans e), r⟩
end
end WL
namespace WL
open PySem PySem.Spec PyProof.Rows L2
section
variable {X : Cx} {Z : List Addr} {C a dx t S : Addr} {its : List Value}
/-- what isinstance asks of the class -/
structure IsiC (K : PySem.W.Frag) (C : Addr) : Prop where
  ha : PySem.W.findIn K (.ref C) "__class__" = some (some (.builtin "object.__class__"))
  hn : PySem.W.specialIn K (.builtin "object.__class__") "__get__" = some (some (.builtin "getset_descriptor.__get__"))
  ht : PySem.W.takesIn K (.builtin "object.__class__") = some true
  hm : PySem.W.mroIn K C (.type "object") = some true
  self : PySem.W.kitOne K (.ref C) (.ref C) = some true
theorem call_isiW (w : WPin C a dx t its X.pn) (cl : Cls X.K C) (T : IsiC X.K C) : CallQ X Z (.builtin "isinstance") (fun xs H Q => xs = [.ref a, .ref C] ∧ Q (.bl true) H) := by
  intro pins s σ H xs us Q I r h
  obtain ⟨rfl, q⟩ := h
  obtain ⟨u1, u2, rfl, r1, r2⟩ := r.two
  cases r1
  cases r2
  obtain ⟨mA, O, _⟩ := w.inst I
  obtain ⟨od, J, _⟩ := O.look
  exact PySem.W.kia_one (PySem.W.kitx_own (cl.get _) cl.hd T.ha T.hn T.ht T.hm) I.kIn J T.self (fun z => nomatch z) fun tk => ⟨.tok, .bl true, H, I.tok _, rfl, q⟩
/-- len of a tracked list -/
theorem call_lenL : CallQ X Z (.builtin "len") (fun xs H Q => ∃ l ys, xs = [.ref l] ∧ H l = some (.lst ys) ∧ Q (.int ys.length) H) := by
  intro pins s σ H xs us Q I r h
  obtain ⟨l, ys, rfl, hl, q⟩ := h
  obtain ⟨u, rfl, ru⟩ := vals1 r
  cases ru
  obtain ⟨zz, its, n, rv, hlen, e⟩ := I.lstM hl
  exact Calls.call_len_list (items := its.toArray) ⟨_, e, rfl, n, rfl⟩ (by simp only [List.size_toArray]; rw [← hlen]; have := line63; omega) ⟨.tok, .int ys.length, H, I.tok _, ⟨_, by simp only [List.size_toArray]; rw [hlen]⟩, q⟩
/-- o.append(e), o a list at S -/
theorem qe_append {o e : Expr} {to te : TE} {apos cpos : Pos} (ho : QE X [S] o to) (ha : QE X [S] e te) (hbase : attributeBase o "append" X.env (eval o X.env) = eval o X.env := by rfl)
    (hfew : ((backTo cpos (starEach [e] X.env)).all (fun x => !x.1) && (backToKw cpos (keywordEach [] X.env)).all (fun x => x.1.isSome)
      && decide ([e].length + ([] : List Keyword).length + (if ([] : List Keyword).isEmpty then 0 else 1) < 30)) = true := by rfl)
    (hline : (apos.endLine == cpos.line) = true := by rfl) (hs : starEach [e] X.env = (false, eval e X.env) :: starEach [] X.env := by rfl) (hplain : (backTo cpos (starEach [] X.env)).any (·.1) = false := by rfl) :
    QE X [S] (.Call (.Attribute o "append" apos) [e] [] cpos) (fun σ H Q => to σ H fun x H1 => x = .ref S ∧ (∃ ys, H1 S = some (.lst ys)) ∧ te σ H1 fun y H2 => ∃ xs, H2 S = some (.lst xs) ∧ xs.length < sizeLine ∧ Q .non (upd H2 S (.lst (xs ++ [y])))) := by
  refine ⟨fun pins s σ H Q I h => ?_⟩
  refine wpAny_Call_method_late hbase hfew hline rfl (thn (ho.run pins s σ H _ I h) fun v s1 hv => ?_)
  obtain ⟨k1, x, H1, I1, r1, rfl, ⟨ys, hy⟩, q1⟩ := hv
  cases r1
  obtain ⟨z0, its0, n0, r0, l0, e0⟩ := I1.lstM hy
  refine ⟨"list", "list.append", PySem.F.plainAttrs_list, PySem.F.slot_list_append, PySem.F.type_list_append, ⟨_, e0, rfl⟩, (by obtain ⟨h1, h2⟩ := tyV_is I1 (show RelV (V.ref S) (Value.ref S) from rfl) (T := "list") (.inl ⟨rfl, ys, SqL.of hy⟩); exact h2), ?_⟩
  have hA := (qa_cons ha qa_nil (hs := hs)).run cpos pins s1 σ H1 (fun vs H2 => match vs with
    | [y] => ∃ xs, H2 S = some (.lst xs) ∧ xs.length < sizeLine ∧ Q .non (upd H2 S (.lst (xs ++ [y])))
    | _ => False) I1 q1
  rw [hs] at hA ⊢
  refine Calls.callWith_builtin (by show (false || (backTo cpos (starEach [] X.env)).any (·.1)) = false; rw [hplain] <;> rfl) (Calls.evalArgs_plain ?_)
  refine thn hA fun us s2 hh => ?_
  obtain ⟨k2, vs, H2, I2, r2, q2⟩ := hh
  match vs, r2, q2 with
  | [y], r2, ⟨xs, hx, hl, q2⟩ =>
    obtain ⟨u, rfl, ru⟩ := r2.one
    obtain ⟨zz, its, n, r, hlen, e⟩ := I2.lstM hx
    refine call_meets PySem.F.slot_list_append ⟨_, e, rfl⟩ PySem.F.entry_list_append (PySem.F.args_list_append_2 _ _) (PySem.list_append S its.toArray n u (by rw [List.size_toArray]; omega)) ⟨e, ?_⟩
    have I3 := I2.lset (f := (·.push u)) (its' := its ++ [u]) (ys := xs ++ [y]) (t' := s2.toks) hx e (by simp) (r.append (.cons ru .nil)) (by rw [List.length_append, List.length_singleton]; omega)
    refine ⟨k1.trans (k2.trans ⟨rfl, fun b o hb eb => ?_⟩), .non, _, I3, rfl, q2⟩
    exact (Heap.get?_update_other _ _ (fun z => hb (by rw [z]; exact List.mem_singleton_self b))).trans eb
/-- the store of a loop's item: only the frame's object changes -/
theorem assign_q {M : Model} {A : Around} {E : Value → Shared → Prop} {pins : List (Addr × Obj)} {σ : L2.St} {H : Hp} {s : Shared} {i : Nat} {x : Str} {p : Pos} {v : V} {u : Value} {Q : Unit → Shared → Prop} (I : Inv X pins σ H s) (hN : X.N.Nodup) (hi : X.N[i]? = some x) (hx : X.env.scope.names.lookup x = some .local) (r : RelV v u)
    (h : ∀ s', Kp [X.env.locals] s s' → Inv X pins (σ.set i (some v)) H s' → Q () s') : wpAny M A (assign (.Name x p) X.env u) Q E s := by
  refine wpAny_assign_Name ?_
  obtain ⟨m, hn, _⟩ := id I.loc
  have hcls : (X.env.scope.kind == .class || (X.env.scope.kind == .module && X.env.locals != X.env.globals)) = false := by rw [I.ok.kind]; rfl
  have hi' : i < σ.length := by rw [I.len]; exact (List.getElem?_eq_some_iff.mp hi).1
  refine wpAny_storeName_local hx hn (fun h' hn' hs => ?_) hcls
  have old : ∀ (b : Addr) (o : Obj), X.s_0.heap.get? b = some o → b ≠ X.env.locals := fun b o e => Nat.ne_of_lt (Nat.lt_of_lt_of_le (Heap.lt_size e) I.ok.above)
  have same : ∀ (b : Addr), b ≠ X.env.locals → h'.get? b = s.heap.get? b := fun b hb => hs.2 b hb
  refine h _ ⟨rfl, fun b o hb e => (same b fun z => hb (by rw [z]; exact List.mem_singleton_self _)).trans e⟩
    ⟨I.ok, I.os, I.bare, ⟨fun b o e n hb hx => (same b (old b o e)).trans (I.base.keep b o e n hb hx), fun b o e n hb hx => ?_, I.base.free, fun b o e hx => ?_, I.base.tups, I.base.frzs, I.base.tbls⟩, ⟨_, hn', fun j y v' e1 e2 e3 => ?_⟩, fun y c e => ?_, I.free, I.freeC, fun p hp => ?_, fun b ob e => ?_, by simpa using I.len⟩
  · obtain ⟨sl, q⟩ := I.base.slot b o e n hb hx
    exact ⟨sl, (same b (old b o e)).trans q⟩
  · obtain ⟨o', q⟩ := I.base.there b o e hx
    exact ⟨o', (same b (old b o e)).trans q⟩
  · by_cases hj : j = i
    · subst hj
      have exy : y = x := Option.some.inj (e1.symm.trans hi)
      rw [List.getElem?_set_self hi'] at e2
      have ev : v = v' := Option.some.inj (Option.some.inj e2)
      rw [exy, ← ev]
      exact ⟨u, r, .inl ⟨hx, by simp⟩⟩
    · rw [List.getElem?_set_ne (Ne.symm hj)] at e2
      obtain ⟨m2, hm2, hl2⟩ := I.loc
      have em : ∀ y, m2 y = m y := fun y => by
        obtain ⟨o1, es1, ep1, g1, d1, _, f1⟩ := hm2
        obtain ⟨o2, es2, ep2, g2, d2, _, f2⟩ := hn
        rw [g1] at g2
        cases g2
        rw [d1] at d2
        cases d2
        rw [← f1, ← f2]
      obtain ⟨u', r', q⟩ := hl2 j y v' e1 e2 e3
      refine ⟨u', r', ?_⟩
      rcases q with ⟨k, q⟩ | ⟨k, c, q, z⟩
      · have hyx : y ≠ x := fun q' => hj (nodup_ix hN e1 (q' ▸ hi))
        exact .inl ⟨k, by simp [hyx, ← em, q]⟩
      · exact .inr ⟨k, c, q, z.sameBut hs (I.cne y c q)⟩
  · obtain ⟨w', z⟩ := I.cell y c e
    exact ⟨w', z.sameBut hs (I.cne y c e)⟩
  · obtain ⟨e, n, ne, nf, d⟩ := I.pin p hp
    exact ⟨(same p.1 ne).trans e, n, ne, nf, d⟩
  · have nL : ∀ (c : Addr) (q : HO), H c = some q → c ≠ X.env.locals := fun c q hc z => by rw [z, I.free] at hc; cases hc
    refine (I.hok b ob e).stay (fun c w' hc q => (same c ?_).trans q) (fun _ q => q) fun _ _ q => q
    rcases hc with rfl | hc
    · exact nL _ _ e
    · exact nL _ _ hc
end
end WL
namespace WL
open PySem PySem.Spec PyProof.Rows L2
section
variable {prog : Program} {w : World} {A : Around} {R : GenEnd} {Y : Protocol} {n : Nat} {s₀ s : Shared} {c : Code} {fs : List Frame} {env : Env}
  {K : Flow → Sem PySem.Fin} {J : Value → Sem PySem.Fin} {gd : Bool → Bool} {lv : List Value → List Value}
/-- what the loop's own call does with what comes back -/
def backOf (env : Env) (K : Flow → Sem PySem.Fin) (J : Value → Sem PySem.Fin) (gd : Bool → Bool) (lv : List Value → List Value) (r : Result) : Sem PySem.Fin :=
  ((match r with | .ok f => (.pure f : Sem Flow) | .error e => .raise e).onRaise (cameBack env)).wrap K J gd lv
theorem seg_For {target iter : Expr} {body orelse : List Stmt} {pos : Pos}
    (h : wpAny (model prog w) (A.over c fs) (eval iter env) (fun x s₁ => wpAny (model prog w) (A.over c fs) (pyIter x) (fun it s₂ => ∀ p,
        Seg (model prog w) A R Y n s₀ (.forLoop target it body orelse env) ((model prog w).den (.forLoop target it body orelse env)) (.ret (backOf env K J gd lv) none (gd false) (lv []) c p [] :: fs) s₂)
      (fun x s' => Seg (model prog w) A R Y n s₀ c (J x) fs s') s₁) (fun x s' => Seg (model prog w) A R Y n s₀ c (J x) fs s') s)
    (hs : ∀ x, foldedSetIterable iter env x = pure x := by intro _; rfl) :
    Seg (model prog w) A R Y n s₀ c ((exec (.For target iter body orelse pos) env).wrap K J gd lv) fs s := by
  rw [exec_For]
  refine seg_bind_wrap (wpAny_standAt ?_)
  refine seg_bind_wrap (wpAny_mono h (fun x s₁ h₁ => ?_) fun _ _ z => z)
  refine seg_bind_wrap (wpAny_of_eq (hs x) ?_)
  refine seg_bind_wrap (wpAny_standAt ?_)
  refine seg_bind_wrap (wpAny_holding (wpAny_mono h₁ (fun it s₂ h₂ => ?_) fun _ _ z => z))
  exact seg_call h₂
/-- an exception within a loop's own code -/
def noted (env : Env) (e : Value) : Sem PySem.Fin := (do noteFrame e env; theTreesLotGoes e : Sem Unit).wrap (fun _ => .raise e) .raise id id
/-- what follows the loop's body -/
def turned (target : Expr) (it : Value) (body orelse : List Stmt) (env : Env) (f : Flow) : Sem PySem.Fin := match f with
  | .next => .pure (.again (.forLoop target it body orelse env))
  | .cont => .pure (.again (.forLoop target it body orelse env))
  | .brk => .pure (.done .next)
  | .ret v => .pure (.done (.ret v))
theorem seg_forLoop {target : Expr} {it : Value} {body orelse : List Stmt}
    (h : wpAny (model prog w) (A.over (.forLoop target it body orelse env) fs) (pyNext it) (fun r s' => match r with
        | none => Seg (model prog w) A R Y n s₀ (.forLoop target it body orelse env) (.pure (.again (.block orelse env))) fs s'
        | some v => wpAny (model prog w) (A.over (.forLoop target it body orelse env) fs) (letOwnedTupleGo target it v) (fun _ s₁ =>
            wpAny (model prog w) (A.over (.forLoop target it body orelse env) fs) (assign target env v) (fun _ s₂ =>
              Seg (model prog w) A R Y n s₀ (.forLoop target it body orelse env) ((execs body env).wrap (turned target it body orelse env) (noted env) id id) fs s₂)
              (fun x s₂ => Seg (model prog w) A R Y n s₀ (.forLoop target it body orelse env) (noted env x) fs s₂) s₁)
            (fun x s₁ => Seg (model prog w) A R Y n s₀ (.forLoop target it body orelse env) (noted env x) fs s₁) s')
      (fun x s' => Seg (model prog w) A R Y n s₀ (.forLoop target it body orelse env) (noted env x) fs s') s) :
    Seg (model prog w) A R Y n s₀ (.forLoop target it body orelse env) ((model prog w).den (.forLoop target it body orelse env)) fs s := by
  show Seg _ A R Y n s₀ _ ((forTurn target it body orelse env).onRaise (fun x => do noteFrame x env; theTreesLotGoes x)) fs s
  have eJ : ∀ x, ((do noteFrame x env; theTreesLotGoes x : Sem Unit).bind fun _ => (Sem.raise x : Sem PySem.Fin)) = noted env x := fun x => Sem.bind_eq_wrap _ _
  unfold forTurn
  rw [Sem.onRaise_eq_wrap]
  rw [Sem.wrap_congr _ _ _ (fun _ => rfl) eJ]
  refine seg_bind_wrap (wpAny_standAt ?_)
  refine seg_bind_wrap (wpAny_onRaise (wpAny_mono h (fun r s' h' => ?_) fun x s' h' => wpAny_standAt h'))
  cases r with
  | none => exact h'
  | some v =>
    refine seg_bind_wrap (wpAny_mono h' (fun _ s₁ h₁ => ?_) fun _ _ z => z)
    refine seg_bind_wrap (wpAny_mono h₁ (fun _ s₂ h₂ => ?_) fun _ _ z => z)
    rw [Sem.bind_eq_wrap', Sem.wrap_wrap]
    rw [Sem.wrap_congr (execs body env) _ _ (K' := turned target it body orelse env) (H' := noted env) (fun f => by cases f <;> rfl) (fun e => by rfl)]
    exact h₂
end
end WL
namespace WL
open PySem PySem.Spec PyProof.Rows L2

/-! ### a heap cut at an address -/
def cutH (h : Heap) (L : Nat) : Heap := { h with objs := h.objs.extract 0 L }
theorem cutH_size {h : Heap} {L : Nat} (hl : L ≤ h.objs.size) : (cutH h L).objs.size = L := by
  show (h.objs.extract 0 L).size = L
  rw [Array.size_extract]
  omega
theorem cutH_get {h : Heap} {L b : Nat} (hb : b < L) : (cutH h L).get? b = h.get? b := by
  have e : (cutH h L).objs[b]? = h.objs[b]? := by
    show (h.objs.extract 0 L)[b]? = _
    rw [Array.getElem?_extract]
    by_cases hz : b < h.objs.size
    · rw [if_pos (by omega), Nat.zero_add]
    · rw [if_neg (by omega), Array.getElem?_eq_none (by omega)]
  unfold Heap.get?
  rw [e]
theorem of_cutH {h : Heap} {L b : Nat} {o : Obj} (e : (cutH h L).get? b = some o) : b < L ∧ h.get? b = some o := by
  have hl : b < (cutH h L).objs.size := Heap.lt_size e
  have hb : b < L := by
    have q : b < (h.objs.extract 0 L).size := hl
    rw [Array.size_extract] at q
    omega
  exact ⟨hb, by rw [← cutH_get hb]; exact e⟩

/-! ### a generator's frame -/
structure GenF where
  P : Program
  w : World
  K : PySem.W.Frag
  mg : Str → Option Value
  base : Heap
  A : Around
  outer : List Env
  N : List Str
  qual : Str
  scope : Scope
  f : Addr
  cd : Value
  L : Addr
  a : Addr
  go : Obj
abbrev GenF.env (G : GenF) : Env := envOfC G.qual G.scope G.L G.f G.cd
/-- the context of a stretch that began in the state s₀ -/
def GenF.cx (G : GenF) (s₀ : Shared) (xe : Value → Shared → Prop) : Cx where
  prog := G.P
  w := G.w
  K := G.K
  mg := G.mg
  base := G.base
  A := G.A.deeper G.env
  N := G.N
  s_0 := { s₀ with heap := cutH s₀.heap G.L }
  H_0 := fun _ => none
  env := G.env
  outer := G.outer
  stack := G.env :: G.outer
  ex := []
  calm := true
  fn := fun _ => true
  pn := [(G.a, G.go)]
  xe := xe
/-- what is so for good -/
structure GenF.Ok (G : GenF) : Prop where
  room : Room 8 G.A
  fr : G.A.frames = some G.outer
  mod : Mod G.K G.mg G.base
  bsz : G.base.objs.size ≤ G.L
  kind : G.scope.kind = .function
  plain : ∀ y ∈ G.scope.names, y.2 ≠ .cell ∧ y.2 ≠ .free
  low : ∀ b ∈ frs G.outer, b < G.L
  aL : G.L < G.a
  goc : ∀ v, G.go.data ≠ .cell v
/-- what the others leave while it sleeps -/
structure Slp (G : GenF) (s s' : Shared) : Prop where
  os : s'.os = s.os
  bare : AllBare s'.gens
  keep : ∀ (b : Addr) (o : Obj), G.L ≤ b → s.heap.get? b = some o → s'.heap.get? b = some o
  base : ∀ (b : Addr) (o : Obj), G.base.get? b = some o → s'.heap.get? b = some o
  funs : s'.heap.FunFrames G.base G.outer
/-- a range's, a list's iterator -/
def isIt (o : Obj) : Bool := o.cls == .type "list_iterator" || o.cls == .type "range_iterator"
theorem cells_none : ∀ (names : List (Str × NameKind)) (n : Nat), (∀ y ∈ names, y.2 ≠ .cell ∧ y.2 ≠ .free) → cellsFrom n names [] = []
  | [], _, _ => rfl
  | (x, k) :: r, n, h => by
    have hk := (h (x, k) List.mem_cons_self).1
    unfold cellsFrom
    rw [if_neg (by simpa using hk)]
    exact cells_none r n fun y hy => h y (List.mem_cons_of_mem _ hy)
theorem kind_plain {sc : Scope} (h : ∀ y ∈ sc.names, y.2 ≠ .cell ∧ y.2 ≠ .free) {x : Str} {k : NameKind} (e : sc.names.lookup x = some k) : k ≠ .cell ∧ k ≠ .free := by
  have := h (x, k) (PySem.mem_of_lookup e)
  exact this
/-- the state of the frame where a stretch begins -/
theorem GenF.wake {G : GenF} (ok : G.Ok) {s : Shared} {H : Hp} {σ : L2.St} {pins : List (Addr × Obj)} {xe : Value → Shared → Prop} (bare : AllBare s.gens) (hb : ∀ (b : Addr) (o : Obj), G.base.get? b = some o → s.heap.get? b = some o) (hf : s.heap.FunFrames G.base G.outer)
    (hH : ∀ (b : Addr) (u : HO), H b = some u → G.L < b) (hok : HOk G.P G.w H s.heap) (hl : σ.length = G.N.length)
    (loc : ∃ m, s.heap.Ns G.L m ∧ ∀ (i : Nat) (x : Str) (v : V), G.N[i]? = some x → σ[i]? = some (some v) → Vis G.scope x → ∃ u, RelV v u ∧ m x = some u)
    (pn : ∀ p ∈ (G.a, G.go) :: pins, s.heap.get? p.1 = some p.2 ∧ H p.1 = none ∧ G.L < p.1 ∧ ∀ v, p.2.data ≠ .cell v) : Inv (G.cx s xe) pins σ H s := by
  obtain ⟨m, hns, hm⟩ := loc
  have lt : G.L < s.heap.objs.size := hns.lt
  have sz : (cutH s.heap G.L).objs.size = G.L := cutH_size (Nat.le_of_lt lt)
  have nc : (G.cx s xe).env.cells = [] := cells_none _ _ ok.plain
  have vk : ∀ {x : Str}, Vis G.scope x → G.scope.names.lookup x = some .local := fun {x} h => by
    rcases h with h | h | h
    · exact h
    · exact absurd rfl (kind_plain ok.plain h).1
    · exact absurd rfl (kind_plain ok.plain h).2
  have noc : ∀ {x : Str} {c : Addr}, (G.cx s xe).env.cells.lookup x = some c → False := fun {x c} h => by
    rw [nc] at h
    cases h
  have funs0 : (cutH s.heap G.L).FunFrames G.base G.outer := by
    have all : ∀ l : List Env, (∀ b ∈ frs l, b < G.L) → s.heap.FunFrames G.base l → (cutH s.heap G.L).FunFrames G.base l := by
      intro l
      induction l with
      | nil => intro _ _; trivial
      | cons e r ih =>
        intro h1 h2
        obtain ⟨hk, ⟨L, o, hf, hn, ho, hd⟩, hr⟩ := h2
        have hL : L < G.L := h1 L (List.mem_filterMap.mpr ⟨e, List.mem_cons_self, hf⟩)
        refine ⟨hk, ⟨L, o, hf, hn, (cutH_get hL).trans ho, hd⟩, ih (fun b hb => h1 b ?_) hr⟩
        obtain ⟨e', he', q⟩ := List.mem_filterMap.mp hb
        exact List.mem_filterMap.mpr ⟨e', List.mem_cons_of_mem _ he', q⟩
    exact all _ ok.low hf
  have fn : ∀ {b : Addr}, b ≤ G.L → H b = none := fun {b} hb => by
    cases q : H b with
    | none => rfl
    | some u => exact absurd (Nat.lt_of_lt_of_le (hH b u q) hb) (Nat.lt_irrefl _)
  have hbl : ∀ {b : Addr} {o : Obj}, G.base.get? b = some o → b < G.L := fun {b o} e => Nat.lt_of_lt_of_le (Heap.lt_size e) ok.bsz
  refine ⟨⟨ok.mod, ok.kind, rfl, rfl, Nat.le_of_eq sz, fun x y c h1 _ => (noc h1).elim, fun x h => ?_, fun x c _ h => (noc h).elim, fun _ => ok.room.hd, Around.frames_deeper ok.fr, .inr ⟨rfl, rfl⟩, fun b z => (by cases z), fun b o e => ⟨(cutH_get (hbl e)).trans (hb b o e), rfl⟩, ?_, fun b o _ z => (by cases z), fun b z => (by cases z), funs0, fun b _ => rfl⟩,
    rfl, bare, ⟨fun b o e _ _ _ => (of_cutH e).2, fun b o e _ _ _ => ⟨o.slots, (of_cutH e).2⟩, fun b o e _ _ => fn (Nat.le_of_lt (of_cutH e).1), fun b o e _ => ⟨o, (of_cutH e).2⟩, fun b xs e => (by cases e), fun b o u e => (by cases e), fun b ps e => (by cases e)⟩,
    ⟨m, hns, fun i x v h1 h2 h3 => ?_⟩, fun x c h => (noc h).elim, fn (Nat.le_refl _), fun x c h => (noc h).elim, fun p hp => ?_, hok, hl⟩
  · rcases h with h | h
    · exact absurd rfl (kind_plain ok.plain h).1
    · exact absurd rfl (kind_plain ok.plain h).2
  · show G.base.objs.size ≤ (cutH s.heap G.L).objs.size
    rw [sz]
    exact ok.bsz
  · obtain ⟨u, ru, hu⟩ := hm i x v h1 h2 h3
    exact ⟨u, ru, .inl ⟨vk h3, hu⟩⟩
  · obtain ⟨e, n, l, d⟩ := pn p hp
    exact ⟨e, n, Nat.ne_of_gt l, fun z => absurd (Nat.lt_trans l (ok.low _ z)) (Nat.lt_irrefl _), d⟩
end WL
namespace WL
open PySem PySem.Spec PyProof.Rows L2
open Sem (wp)

/-! ### a place without an object stays one -/
structure Hl (s s' : Shared) : Prop where
  size : s.heap.objs.size ≤ s'.heap.objs.size
  none : ∀ b : Nat, b < s.heap.objs.size → s.heap.get? b = none → s'.heap.get? b = none
theorem Hl.refl {s : Shared} : Hl s s := ⟨Nat.le_refl _, fun _ _ e => e⟩
theorem Hl.trans {s s1 s2 : Shared} (a : Hl s s1) (b : Hl s1 s2) : Hl s s2 :=
  ⟨Nat.le_trans a.size b.size, fun c hc e => b.none c (Nat.lt_of_lt_of_le hc a.size) (a.none c hc e)⟩
theorem Hl.upd {s : Shared} {a : Addr} {f : Obj → Obj} (h : (s.heap.get? a).isSome) : Hl s { s with heap := s.heap.update a f } := by
  obtain ⟨o, ho⟩ := Option.isSome_iff_exists.mp h
  refine ⟨Nat.le_of_eq ?_, fun b hb e => ?_⟩
  · show s.heap.objs.size = (s.heap.objs.modify a f).size
    rw [Array.size_modify]
  · have hne : a ≠ b := fun z => by rw [← z, ho] at e; cases e
    exact (Heap.get?_update_other _ _ hne).trans e
theorem Hl.push {s : Shared} {o : Obj} : Hl s { s with heap := s.heap.push o } := by
  refine ⟨?_, fun b hb e => ?_⟩
  · show s.heap.objs.size ≤ (s.heap.push o).objs.size
    rw [Heap.size_push]
    exact Nat.le_succ _
  · have e2 : (s.heap.objs.push o)[b]? = s.heap.objs[b]? := by
      rw [Array.getElem?_push, if_neg (Nat.ne_of_lt hb)]
    have e3 : (s.heap.push o).get? b = s.heap.get? b := by
      have e4 : (s.heap.push o).objs = s.heap.objs.push o := rfl
      unfold Heap.get?
      rw [e4, e2]
    exact e3.trans e
theorem Hl.of {s s' t t' : Shared} (h : Hl s s') (e : t.heap = s.heap) (e' : t'.heap = s'.heap) : Hl t t' :=
  ⟨by rw [e, e']; exact h.size, fun b hb q => by rw [e] at hb q; rw [e']; exact h.none b hb q⟩
theorem runs_hl {M : Model} {Γ : PySem.Ctx} {p : Pos} {t : Sem PySem.Fin} {fs : List Frame} {s s' : Shared} {e : End} (h : Runs M Γ p t fs s e s') : Hl s s' := by
  induction h with
  | done => exact .refl
  | raise => exact .refl
  | again _ _ ih => exact ih
  | rule _ ih => exact ih
  | «at» _ ih => exact ih
  | load _ _ ih => exact ih
  | update h1 _ ih => exact (Hl.upd h1).trans ih
  | loadIfAlive _ ih => exact ih
  | point _ ih => exact ih
  | alloc _ ih => exact Hl.push.trans ih
  | fresh _ ih => exact ih.of rfl rfl
  | ask _ ih => exact ih
  | choose _ _ ih => exact ih.of rfl rfl
  | os _ ih => exact ih.of rfl rfl
  | handled _ ih => exact ih
  | genState _ _ ih => exact ih
  | stack _ ih => exact ih
  | thread _ ih => exact ih
  | newGen _ ih => exact ih.of rfl rfl
  | call _ _ i1 i2 => exact i1.trans i2
  | callSusp _ ih => exact ih
  | yield => exact .refl
  | @resumeFresh Γ p g l k s c e₁ s₁ e s' _ _ _ _ i1 i2 => exact (Hl.of (t := s) (t' := s₁) i1 rfl rfl).trans (i2.of rfl rfl)
  | @resumeSuspended Γ p g r l k s k₀ l₀ c₀ p₀ fs cl e₁ s₁ e s' _ _ _ _ i1 i2 => exact (Hl.of (t := s) (t' := s₁) i1 rfl rfl).trans (i2.of rfl rfl)
  | resumeJustStarted _ _ _ ih => exact ih
  | resumeThrowFresh _ _ ih => exact ih.of rfl rfl
  | resumeRunning _ _ ih => exact ih
  | resumeFinished _ _ ih => exact ih
  | segRet _ _ i1 i2 => exact i1.trans i2
  | segGen _ _ i1 i2 => exact i1.trans (i2.of rfl rfl)
  | segSuspOut _ _ ih => exact ih
  | segSuspGen _ _ _ _ i1 i2 => exact i1.trans (i2.of rfl rfl)
theorem wakes_hl {M : Model} {Γ : PySem.Ctx} {p : Pos} {g : Nat} {r : Resume} {s s' : Shared} {res : GenResult} (h : Wakes M Γ p g r s res s') : Hl s s' := by
  unfold Wakes at h
  split at h
  · exact h.elim
  · split at h
    · obtain ⟨e₁, s₁, hr, _, _, rfl⟩ := h
      exact (runs_hl hr).of rfl rfl
    · rw [h.2]; exact .refl
    · rw [h.2]; exact Hl.refl.of rfl rfl
  · obtain ⟨e₁, s₁, hr, _, _, rfl⟩ := h
    exact (runs_hl hr).of rfl rfl
  · rw [h.2]; exact .refl
  · rw [h.2]; exact .refl
theorem wp_hl {α : Type} (M : Model) (Γ : PySem.Ctx) (s0 : Shared) (t : Sem α) : ∀ (Q : α → Pos → Shared → Prop) (E : Value → Pos → Shared → Prop) (p : Pos) (s : Shared), Hl s0 s → wp M Γ t Q E p s →
    wp M Γ t (fun a p' s' => Hl s0 s' ∧ Q a p' s') (fun e p' s' => Hl s0 s' ∧ E e p' s') p s := by
  induction t with
  | pure a => exact fun Q E p s k h => ⟨k, h⟩
  | raise e => exact fun Q E p s k h => ⟨k, h⟩
  | unsupported _ => exact fun Q E p s _ h => h
  | finish _ => exact fun Q E p s _ h => h
  | rule _ _ ih => exact fun Q E p s k h => ih () Q E p s k h
  | «at» q _ ih => exact fun Q E p s k h => ih () Q E q s k h
  | load a _ _ ih => exact fun Q E p s k h => let ⟨o, ho, h⟩ := h; ⟨o, ho, ih o Q E p s k h⟩
  | update a _ f _ ih => exact fun Q E p s k h => ⟨h.1, ih () Q E p _ (k.trans (Hl.upd h.1)) h.2⟩
  | loadIfAlive a _ ih => exact fun Q E p s k h => ih _ Q E p s k h
  | point _ _ ih => exact fun Q E p s k h => ih () Q E p s k h
  | register _ _ => exact fun Q E p s _ h => h
  | alloc o _ ih => exact fun Q E p s k h => ih _ Q E p _ (k.trans Hl.push) h
  | fresh _ ih => exact fun Q E p s k h => ih _ Q E p _ (k.of rfl rfl) h
  | ask _ ih => exact fun Q E p s k h => ih _ Q E p s k h
  | choose src m _ ih => exact fun Q E p s k h => ⟨h.1, ih _ Q E p _ (k.of rfl rfl) h.2⟩
  | os q _ _ ih => exact fun Q E p s k h => ih _ Q E p _ (k.of rfl rfl) h
  | call c hd _ _ _ ih => exact fun Q E p s k h => let ⟨r, s', hr, h⟩ := h; ⟨r, s', hr, ih r Q E p s' (k.trans (runs_hl hr)) h⟩
  | handled own _ ih => exact fun Q E p s k h => ih _ Q E p s k h
  | genState g _ ih => exact fun Q E p s k h => let ⟨st, hs, h⟩ := h; ⟨st, hs, ih _ Q E p s k h⟩
  | newGen c _ ih => exact fun Q E p s k h => ih _ Q E p _ (k.of rfl rfl) h
  | resume g r _ _ ih => exact fun Q E p s k h => let ⟨res, s', hw, h⟩ := h; ⟨res, s', hw, ih res Q E p s' (k.trans (wakes_hl hw)) h⟩
  | yield _ _ _ _ => exact fun Q E p s _ h => h
  | stack _ ih => exact fun Q E p s k h => ih _ Q E p s k h
  | fork _ _ => exact fun Q E p s _ h => h
  | thread _ ih => exact fun Q E p s k h => ih _ Q E p s k h
  | await _ _ _ _ _ => exact fun Q E p s _ h => h
theorem wpAny_hl {α : Type} {M : Model} {A : Around} {s0 s : Shared} {t : Sem α} {Q : α → Shared → Prop} {E : Value → Shared → Prop} (k : Hl s0 s)
    (h : wpAny M A t (fun a s' => Hl s0 s' → Q a s') (fun e s' => Hl s0 s' → E e s') s) : wpAny M A t Q E s :=
  wpAny_mono (fun Γ p hΓ => wp_hl M Γ s0 t _ _ p s k (h Γ p hΓ) : wpAny M A t (fun a s' => Hl s0 s' ∧ (Hl s0 s' → Q a s')) (fun e s' => Hl s0 s' ∧ (Hl s0 s' → E e s')) s)
    (fun _ _ x => x.2 x.1) fun _ _ x => x.2 x.1
end WL
namespace WL
open PySem PySem.Spec PyProof.Rows L2

theorem objOk_some {P : Program} {w : World} {H : Hp} {h : Heap} {a : Addr} : ∀ {o : HO}, ObjOk P w H h a o → ∃ ob, h.get? a = some ob
  | .lst _, ⟨_, _, _, _, e⟩ => ⟨_, e⟩
  | .tup _, ⟨_, _, _, o, e, _⟩ => ⟨o, e⟩
  | .dK _, ⟨_, _, _, _, o, _, _, e, _⟩ => ⟨o, e⟩
  | .dT _, ⟨_, _, _, _, o, _, _, e, _⟩ => ⟨o, e⟩
  | .set _ _, ⟨o, _, _, _, e, _⟩ => ⟨o, e⟩
  | .ins _ _ _, ⟨_, _, _, e, _⟩ => ⟨_, e⟩
  | .own _, ⟨o, e⟩ => ⟨o, e⟩
  | .xd _, ⟨_, ⟨o, _, _, e, _⟩, _⟩ => ⟨o, e⟩
  | .rng _ _, ⟨_, _, _, e⟩ => ⟨_, e⟩
  | .frz _ _, ⟨e, _⟩ => ⟨_, e⟩
  | .tbl _, e => ⟨_, e⟩
  | .met _ _, e => ⟨_, e⟩
  | .ext _, ⟨_, e, _⟩ => e

/-- a list, a tuple that is known -/
def des : Option HO → Option HO
  | some (.lst xs) => some (.lst xs)
  | some (.tup xs) => some (.tup xs)
  | some (.frz _ (.lst xs)) => some (.lst xs)
  | some (.frz _ (.tup xs)) => some (.tup xs)
  | _ => none
/-- what is tracked where a stretch begins: every object behind the frame, as it stands -/
def wakeH (G : GenF) (sk : List Addr) (h : Heap) (H1 : Hp) : Hp := fun b => if b ≤ G.L ∨ b = G.a ∨ b ∈ sk then none else match h.get? b with
  | none => none
  | some o => some (match des (H1 b) with
    | some u => .frz o u
    | none => .ext fun h' => h'.get? b = some o)
def Cov (G : GenF) (sk : List Addr) (s₀ : Shared) (Hw : Hp) : Prop := ∀ (b : Addr) (o : Obj), ¬ (b ≤ G.L ∨ b = G.a ∨ b ∈ sk) → s₀.heap.get? b = some o → (∃ u, Hw b = some (.frz o u)) ∨ Hw b = some (.ext fun h' => h'.get? b = some o)
section
variable {G : GenF} {sk : List Addr} {h h1 : Heap} {H1 : Hp} {b : Addr}
theorem wakeH_out (x : b ≤ G.L ∨ b = G.a ∨ b ∈ sk) : wakeH G sk h H1 b = none := if_pos x
theorem wakeH_low {u : HO} (e : wakeH G sk h H1 b = some u) : G.L < b := by
  by_cases x : b ≤ G.L ∨ b = G.a ∨ b ∈ sk
  · rw [wakeH_out x] at e; cases e
  · exact Nat.lt_of_not_le fun z => x (.inl z)
theorem wakeH_at {o : Obj} (x : ¬ (b ≤ G.L ∨ b = G.a ∨ b ∈ sk)) (e : h.get? b = some o) : wakeH G sk h H1 b = some (match des (H1 b) with
    | some u => .frz o u
    | none => .ext fun h' => h'.get? b = some o) := by
  unfold wakeH
  rw [if_neg x, e]
theorem wakeH_cov {s : Shared} : Cov G sk s (wakeH G sk s.heap H1) := fun b o x e => by
  rw [wakeH_at x e]
  cases des (H1 b) with
  | some u => exact .inl ⟨u, rfl⟩
  | none => exact .inr rfl
theorem des_ok {o : Obj} {u : HO} {H : Hp} (hok : HOk G.P G.w H1 h1) (k : ∀ o, h1.get? b = some o → h.get? b = some o) (e : h.get? b = some o) (d : des (H1 b) = some u) : ObjOk G.P G.w H h b (.frz o u) := by
  cases q : H1 b with
  | none => rw [q] at d; cases d
  | some w =>
    have ok := hok b w q
    rw [q] at d
    refine ⟨e, ?_⟩
    cases w with
    | lst xs =>
      cases d
      obtain ⟨z, its, n, r, e1⟩ := ok
      exact ⟨z, its, n, r, k _ e1⟩
    | tup xs =>
      cases d
      obtain ⟨z, its, r, ob, e1, c⟩ := ok
      exact ⟨z, its, r, ob, k _ e1, c⟩
    | frz o' u' =>
      cases u' with
      | lst xs =>
        cases d
        obtain ⟨_, z, its, n, r, e1⟩ := ok
        exact ⟨z, its, n, r, k _ e1⟩
      | tup xs =>
        cases d
        obtain ⟨_, z, its, r, ob, e1, c⟩ := ok
        exact ⟨z, its, r, ob, k _ e1, c⟩
      | _ => cases d
    | _ => cases d
theorem wakeH_ok (hok : HOk G.P G.w H1 h1) (k : ∀ (b : Addr) (o : Obj), G.L ≤ b → h1.get? b = some o → h.get? b = some o) : HOk G.P G.w (wakeH G sk h H1) h := fun b u e => by
  by_cases x : b ≤ G.L ∨ b = G.a ∨ b ∈ sk
  · rw [wakeH_out x] at e; cases e
  · cases q : h.get? b with
    | none =>
      unfold wakeH at e
      rw [if_neg x, q] at e
      cases e
    | some o =>
      rw [wakeH_at x q] at e
      have hb : G.L ≤ b := Nat.le_of_lt (Nat.lt_of_not_le fun z => x (.inl z))
      cases d : des (H1 b) with
      | some v =>
        rw [d] at e
        cases e
        exact des_ok hok (fun o e => k b o hb e) q d
      | none =>
        rw [d] at e
        cases e
        exact ⟨q, ⟨o, q⟩, fun h2 h3 z kk => kk _ z⟩
theorem wakeH_lst {xs : List V} {o : Obj} (x : ¬ (b ≤ G.L ∨ b = G.a ∨ b ∈ sk)) (e : h.get? b = some o) (r : Rd H1 b (.lst xs)) : Rd (wakeH G sk h H1) b (.lst xs) := by
  refine .inr ⟨o, ?_⟩
  rw [wakeH_at x e]
  rcases r with r | ⟨o', r⟩
  · rw [r]; rfl
  · rw [r]; rfl
theorem wakeH_tup {xs : List V} {o : Obj} (x : ¬ (b ≤ G.L ∨ b = G.a ∨ b ∈ sk)) (e : h.get? b = some o) (r : Rd H1 b (.tup xs)) : Rd (wakeH G sk h H1) b (.tup xs) := by
  refine .inr ⟨o, ?_⟩
  rw [wakeH_at x e]
  rcases r with r | ⟨o', r⟩
  · rw [r]; rfl
  · rw [r]; rfl
end

/-! ### within a stretch -/
abbrev xF : Value → Shared → Prop := fun _ _ => False
structure At (G : GenF) (sk : List Addr) (s₀ : Shared) (pins : List (Addr × Obj)) (σ : L2.St) (H : Hp) (s : Shared) : Prop where
  inv : Inv (G.cx s₀ xF) pins σ H s
  hl : Hl s₀ s
  lt : G.L < s₀.heap.objs.size
  wake : ∃ Hw, Cov G sk s₀ Hw ∧ Same Hw H
  ga : s₀.heap.get? G.a = some G.go
  it : ∀ b ∈ sk, ∀ o, s₀.heap.get? b = some o → isIt o = true
  skn : ∀ b ∈ sk, H b = none
/-- what a stretch leaves of what stood -/
structure KeepG (G : GenF) (s s' : Shared) : Prop where
  low : ∀ (b : Addr) (o : Obj), b < G.L → b ∉ frs G.outer → s.heap.get? b = some o → s'.heap.get? b = some o
  fr : ∀ (b : Addr) (o : Obj), b < G.L → b ∈ frs G.outer → s.heap.get? b = some o → ∃ sl, s'.heap.get? b = some { o with slots := sl }
  high : ∀ (b : Addr) (o : Obj), G.L < b → isIt o = false → s.heap.get? b = some o → s'.heap.get? b = some o
section
variable {G : GenF} {sk : List Addr} {s₀ s : Shared} {pins : List (Addr × Obj)} {σ : L2.St} {H : Hp}
theorem At.low (x : At G sk s₀ pins σ H s) {b : Addr} {u : HO} (e : H b = some u) : G.L < b := by
  have sz : (cutH s₀.heap G.L).objs.size = G.L := cutH_size (Nat.le_of_lt x.lt)
  rcases Nat.lt_trichotomy b G.L with h | h | h
  · cases q : s₀.heap.get? b with
    | some o =>
      have z := x.inv.base.free b o ((cutH_get h).trans q) rfl (by intro z; cases z)
      rw [z] at e
      cases e
    | none =>
      obtain ⟨o, ho⟩ := objOk_some (x.inv.hok b u e)
      have z := x.hl.none b (Nat.lt_trans h x.lt) q
      rw [z] at ho
      cases ho
  · have z : H G.L = none := x.inv.free
    rw [h, z] at e
    cases e
  · exact h
theorem At.out (x : At G sk s₀ pins σ H s) {b : Addr} {u : HO} (e : H b = some u) : ¬ (b ≤ G.L ∨ b = G.a ∨ b ∈ sk) := by
  rintro (h | h | h)
  · exact absurd (Nat.lt_of_lt_of_le (x.low e) h) (Nat.lt_irrefl _)
  · have z := (x.inv.pin (G.a, G.go) (List.mem_append_left _ List.mem_cons_self)).2.1
    rw [h] at e
    have z' : H G.a = none := z
    rw [z'] at e
    cases e
  · rw [x.skn b h] at e
    cases e
theorem At.keep (x : At G sk s₀ pins σ H s) : KeepG G s₀ s where
  low := fun b o hb hf e => x.inv.base.keep b o ((cutH_get hb).trans e) rfl hf (by intro z; cases z)
  fr := fun b o hb hf e => x.inv.base.slot b o ((cutH_get hb).trans e) rfl hf (by intro z; cases z)
  high := fun b o hb hi e => by
    by_cases ha : b = G.a
    · have z := (x.inv.pin (G.a, G.go) (List.mem_append_left _ List.mem_cons_self)).1
      have z' : s.heap.get? G.a = some G.go := z
      rw [ha] at e ⊢
      rw [x.ga] at e
      cases e
      exact z'
    · obtain ⟨Hw, hc, hs⟩ := x.wake
      have hk : ¬ (b ≤ G.L ∨ b = G.a ∨ b ∈ sk) := by
        rintro (h | h | h)
        · exact absurd (Nat.lt_of_lt_of_le hb h) (Nat.lt_irrefl _)
        · exact ha h
        · rw [x.it b h o e] at hi
          cases hi
      rcases hc b o hk e with ⟨u, q⟩ | q
      · exact (x.inv.hok b _ (hs b _ q)).1
      · have ok : ObjOk G.P G.w H s.heap b (.ext fun h' => h'.get? b = some o) := x.inv.hok b _ (hs b _ q)
        exact ok.1
end
end WL
namespace WL
open PySem PySem.Spec PyProof.Rows L2
section
variable {G : GenF} {sk sk' : List Addr} {s₀ s s' : Shared} {pins pins' : List (Addr × Obj)} {σ σ' : L2.St} {H H' : Hp}
theorem At.step (x : At G sk s₀ pins σ H s) (I : Inv (G.cx s₀ xF) pins' σ' H' s') (k : Hl s₀ s') (sm : Same H H') (n : ∀ b ∈ sk, H' b = none) : At G sk s₀ pins' σ' H' s' := by
  obtain ⟨Hw, hc, hs⟩ := x.wake
  exact ⟨I, k, x.lt, ⟨Hw, hc, hs.trans sm⟩, x.ga, x.it, n⟩
theorem At.same (x : At G sk s₀ pins σ H s) (I : Inv (G.cx s₀ xF) pins' σ' H s') (k : Hl s₀ s') : At G sk s₀ pins' σ' H s' := x.step I k (Same.refl _) x.skn
/-- the old iterators are pinned -/
def Covd (sk : List Addr) (pins : List (Addr × Obj)) : Prop := ∀ b ∈ sk, ∃ o, (b, o) ∈ pins
theorem Covd.free (c : Covd sk pins) {X : Cx} (I : Inv X pins σ H s) : ∀ b ∈ sk, H b = none := fun b hb => by
  obtain ⟨o, ho⟩ := c b hb
  exact (I.pin (b, o) (List.mem_append_right _ ho)).2.1
/-- an expression within a stretch -/
theorem At.pe {e : Expr} {te : TE} {Q : VK} {E : Value → Shared → Prop} (x : At G sk s₀ pins σ H s) (c : Covd sk pins) (he : PE (G.cx s₀ xF) e te) (h : te σ H fun v H' => Same H H' ∧ Q v H') :
    wpAny (model G.P G.w) (G.A.deeper G.env) (eval e G.env) (fun u s' => ∃ v H', At G sk s₀ pins σ H' s' ∧ RelV v u ∧ Same H H' ∧ Q v H') E s := by
  refine wpAny_hl x.hl (wpAny_mono (he.run pins s σ H _ x.inv h) (fun u s' hu k => ?_) fun _ _ z => z.elim)
  obtain ⟨v, H', I, r, sm, q⟩ := hu
  exact ⟨v, H', x.step I k sm (c.free I), r, sm, q⟩
/-- .. a block that hands out nothing -/
theorem At.pss {st : List Stmt} {t : TS} {Q : L2.St → Hp → Prop} {E : Value → Shared → Prop} (x : At G sk s₀ pins σ H s) (c : Covd sk pins) (hb : PSs (G.cx s₀ xF) st t) (h : t { nx := fun σ' H' => Same H H' ∧ Q σ' H', rt := fun _ _ => False } σ H) :
    wpAny (model G.P G.w) (G.A.deeper G.env) (execs st G.env) (fun f s' => f = .next ∧ ∃ σ' H', At G sk s₀ pins σ' H' s' ∧ Same H H' ∧ Q σ' H') E s := by
  refine wpAny_hl x.hl (wpAny_mono (hb.run pins s σ H _ x.inv h) (fun f s' hf k => ?_) fun _ _ z => z.elim)
  cases f with
  | next =>
    obtain ⟨σ', H', I, sm, q⟩ := hf
    exact ⟨rfl, σ', H', x.step I k sm (c.free I), sm, q⟩
  | brk => obtain ⟨_, _, _, q⟩ := hf; exact q.elim
  | cont => obtain ⟨_, _, _, q⟩ := hf; exact q.elim
  | ret u => obtain ⟨_, _, _, _, _, q⟩ := hf; exact q.elim
/-- woken again -/
theorem At.woken (ok : G.Ok) (x : At G sk s₀ pins σ H s) (z : Slp G s s') (hp : ∀ b ∈ sk', ∃ o, (b, o) ∈ pins ∧ isIt o = true) (hq : ∀ p ∈ pins, p.1 ∈ sk' ∧ G.L < p.1) : At G sk' s' pins σ (wakeH G sk' s'.heap H) s' := by
  have ns' : ∃ m, s'.heap.Ns G.L m ∧ ∀ (i : Nat) (y : Str) (v : V), G.N[i]? = some y → σ[i]? = some (some v) → Vis G.scope y → ∃ u, RelV v u ∧ m y = some u := by
    obtain ⟨m, ⟨o, es, ep, ho, r⟩, hl⟩ := x.inv.loc
    refine ⟨m, ⟨o, es, ep, z.keep _ o (Nat.le_refl _) ho, r⟩, fun i y v h1 h2 h3 => ?_⟩
    obtain ⟨u, ru, l⟩ := hl i y v h1 h2 h3
    refine ⟨u, ru, ?_⟩
    rcases l with ⟨_, l⟩ | ⟨k, _⟩
    · exact l
    · rcases k with k | k
      · exact absurd rfl (kind_plain ok.plain k).1
      · exact absurd rfl (kind_plain ok.plain k).2
  have ga : s.heap.get? G.a = some G.go := (x.inv.pin (G.a, G.go) (List.mem_append_left _ List.mem_cons_self)).1
  have ga' := z.keep _ _ (Nat.le_of_lt ok.aL) ga
  have old : ∀ p ∈ pins, s'.heap.get? p.1 = some p.2 := fun p h => z.keep _ _ (Nat.le_of_lt (hq p h).2) (x.inv.pin p (List.mem_append_right _ h)).1
  have lt : G.L < s'.heap.objs.size := by
    obtain ⟨m, n, _⟩ := ns'
    exact n.lt
  refine ⟨G.wake ok z.bare z.base z.funs (fun b u e => wakeH_low e) (wakeH_ok x.inv.hok z.keep) x.inv.len ns' fun p h => ?_, .refl, lt, ⟨_, wakeH_cov, Same.refl _⟩, ga', fun b hb o e => ?_, fun b hb => wakeH_out (.inr (.inr hb))⟩
  · rcases List.mem_cons.mp h with h | h
    · rw [h]
      exact ⟨ga', wakeH_out (.inr (.inl rfl)), ok.aL, ok.goc⟩
    · exact ⟨old p h, wakeH_out (.inr (.inr (hq p h).1)), (hq p h).2, (x.inv.pin p (List.mem_append_right _ h)).2.2.2.2⟩
  · obtain ⟨o', h1, h2⟩ := hp b hb
    have q := old _ h1
    rw [e] at q
    cases q
    exact h2
/-- what is known stays known -/
theorem At.lst_woken (x : At G sk s₀ pins σ H s) (z : Slp G s s') (hf : ∀ b ∈ sk', H b = none) {b : Addr} {xs : List V} (h : SqL G.K H b xs) : SqL G.K (wakeH G sk' s'.heap H) b xs := by
  rcases h with h | h
  · have tr : ∃ u, H b = some u := by
      rcases h with h | ⟨o, h⟩
      · exact ⟨_, h⟩
      · exact ⟨_, h⟩
    obtain ⟨u, hu⟩ := tr
    have hb := x.out hu
    obtain ⟨o, ho⟩ := objOk_some (x.inv.hok b u hu)
    refine .inl (wakeH_lst (fun q => ?_) (z.keep b o (Nat.le_of_lt (x.low hu)) ho) h)
    rcases q with q | q | q
    · exact hb (.inl q)
    · exact hb (.inr (.inl q))
    · rw [hf b q] at hu
      cases hu
  · exact .inr h
theorem At.tup_woken (x : At G sk s₀ pins σ H s) (z : Slp G s s') (hf : ∀ b ∈ sk', H b = none) {b : Addr} {xs : List V} (h : SqT G.K H b xs) : SqT G.K (wakeH G sk' s'.heap H) b xs := by
  rcases h with h | h
  · have tr : ∃ u, H b = some u := by
      rcases h with h | ⟨o, h⟩
      · exact ⟨_, h⟩
      · exact ⟨_, h⟩
    obtain ⟨u, hu⟩ := tr
    have hb := x.out hu
    obtain ⟨o, ho⟩ := objOk_some (x.inv.hok b u hu)
    refine .inl (wakeH_tup (fun q => ?_) (z.keep b o (Nat.le_of_lt (x.low hu)) ho) h)
    rcases q with q | q | q
    · exact hb (.inl q)
    · exact hb (.inr (.inl q))
    · rw [hf b q] at hu
      cases hu
  · exact .inr h
end
theorem Same.seqT {K : PySem.W.Frag} {H H' : Hp} {a : Addr} {xs : List V} (e : Same H H') (h : SqT K H a xs) : SqT K H' a xs := by
  rcases h with (h | ⟨o, h⟩) | h
  · exact .inl (.inl (e _ _ h))
  · exact .inl (.inr ⟨o, e _ _ h⟩)
  · exact .inr h

/-! ### the protocol -/
/-- the instance that is handed out, by its objects -/
def WorldRaw (G : GenF) (C : Addr) (h : Heap) (v : Value) (row : List V) : Prop :=
  ∃ (a dx t : Addr) (od ot : Obj) (its : List Value) (mA : Str → Option Value), v = .ref a ∧ dx ≠ a ∧ h.get? a = some (PySem.W.instObj C dx) ∧ h.get? dx = some od ∧ (∀ h' : Heap, h'.get? dx = some od → h'.Ns1 dx mA) ∧ mA "answers" = some (.ref t) ∧
    h.get? t = some ot ∧ (∀ h' : Heap, h'.get? t = some ot → IsTup h' t its.toArray) ∧ Vals row its ∧ G.L < a ∧ G.L < dx ∧ G.L < t
def YW (G : GenF) (C : Addr) (Ws : List (List V)) : Protocol := fun m s₀ v s₁ kap => m < Ws.length ∧ (∃ row, Ws[Ws.length - 1 - m]? = some row ∧ WorldRaw G C s₁.heap v row) ∧ s₁.os = s₀.os ∧ AllBare s₁.gens ∧ KeepG G s₀ s₁ ∧
  (∃ m, s₁.heap.Ns G.L m) ∧ ∀ s', Slp G s₁ s' → kap (.send .none) s'
abbrev FW (G : GenF) : Nat → Shared → Shared → Prop := fun n s₀ s₁ => n = 0 ∧ s₁.os = s₀.os ∧ AllBare s₁.gens ∧ KeepG G s₀ s₁
def RW (G : GenF) : GenEnd := fun n s₀ r s₁ => ((r = .ok (.ret .none) ∨ r = .ok .next) ∧ FW G n s₀ s₁) ∨ ∃ e, r = .error e ∧ (fun (_ : Value) (_ : Shared) => False) e s₁
end WL
namespace WL
open PySem PySem.Spec PyProof.Rows L2
section
variable {G : GenF} {sk sk' : List Addr} {s₀ s s' : Shared} {pins pins' : List (Addr × Obj)} {σ σ' : L2.St} {H H' : Hp}
theorem At.rdl_woken (x : At G sk s₀ pins σ H s) (z : Slp G s s') (hf : ∀ b ∈ sk', H b = none) {b : Addr} {xs : List V} (h : Rd H b (.lst xs)) : Rd (wakeH G sk' s'.heap H) b (.lst xs) := by
  obtain ⟨u, hu⟩ : ∃ u, H b = some u := by
    rcases h with h | ⟨o, h⟩
    · exact ⟨_, h⟩
    · exact ⟨_, h⟩
  obtain ⟨o, ho⟩ := objOk_some (x.inv.hok b u hu)
  refine wakeH_lst (fun q => ?_) (z.keep b o (Nat.le_of_lt (x.low hu)) ho) h
  rcases q with q | q | q
  · exact x.out hu (.inl q)
  · exact x.out hu (.inr (.inl q))
  · rw [hf b q] at hu
    cases hu
theorem At.rdt_woken (x : At G sk s₀ pins σ H s) (z : Slp G s s') (hf : ∀ b ∈ sk', H b = none) {b : Addr} {xs : List V} (h : Rd H b (.tup xs)) : Rd (wakeH G sk' s'.heap H) b (.tup xs) := by
  obtain ⟨u, hu⟩ : ∃ u, H b = some u := by
    rcases h with h | ⟨o, h⟩
    · exact ⟨_, h⟩
    · exact ⟨_, h⟩
  obtain ⟨o, ho⟩ := objOk_some (x.inv.hok b u hu)
  refine wakeH_tup (fun q => ?_) (z.keep b o (Nat.le_of_lt (x.low hu)) ho) h
  rcases q with q | q | q
  · exact x.out hu (.inl q)
  · exact x.out hu (.inr (.inl q))
  · rw [hf b q] at hu
    cases hu
theorem rd_same {H H' : Hp} {a : Addr} {u : HO} (e : Same H H') (h : Rd H a u) : Rd H' a u := by
  rcases h with h | ⟨o, h⟩
  · exact .inl (e _ _ h)
  · exact .inr ⟨o, e _ _ h⟩
theorem At.rd_low (x : At G sk s₀ pins σ H s) {b : Addr} {u : HO} (h : Rd H b u) : G.L < b := by
  rcases h with h | ⟨o, h⟩
  · exact x.low h
  · exact x.low h
/-- where the code stands in the generator -/
structure Pl (G : GenF) (c : Code) (fs : List Frame) : Prop where
  over : G.A.over c fs = G.A.deeper G.env
  split : splitAtGen fs = none
  guard : fs.any Frame.guarded = false
theorem Pl.func {body : List Stmt} : Pl G (.func body G.env) [] := ⟨GenW.over_func, rfl, rfl⟩
theorem Pl.loop {c c' : Code} {fs : List Frame} {k : Result → Sem PySem.Fin} {l kp : List Value} {p : Pos} (x : Pl G c fs) (hw : c'.weight = 0 := by rfl) (hu : c'.cUnits = 0 := by rfl) : Pl G c' (.ret k none false l c p kp :: fs) where
  over := (GenW.over_loop hw hu).trans x.over
  split := by
    show (splitAtGen fs).map _ = none
    rw [x.split]; rfl
  guard := by
    show (false || fs.any Frame.guarded) = false
    rw [x.guard]; rfl

/-- World(row) -/
def tWorld (K : PySem.W.Frag) (C : Addr) : TE := fun σ H Q => ∃ (t : Addr) (row : List Int), σ[3]? = some (some (.ref t)) ∧ Rd H t (.tup (row.map V.int)) ∧ (∀ z ∈ row, z = 0 ∨ z = 1) ∧ row.length ≤ 20 ∧
  ∀ (a dx p : Addr) (H' : Hp), Same H H' → H' a = some (.ins C dx [("answers", .ref t), ("place", .ref p)]) → Q (.ref a) H'
theorem world_raw {C a dx t p : Addr} {row : List Int} (x : At G sk s₀ pins σ H s) (ha : H a = some (.ins C dx [("answers", .ref t), ("place", .ref p)])) (ht : Rd H t (.tup (row.map V.int))) : WorldRaw G C s.heap (.ref a) (row.map V.int) := by
  obtain ⟨mA, O, rl, _, _, ho⟩ := ins_get x.inv.hok ha
  obtain ⟨od, es, ep, e1, e2, e3, e4, e5⟩ := O.ns
  have okt : ObjOk G.P G.w H s.heap t (.tup (row.map V.int)) := ht.ok x.inv.hok
  obtain ⟨_, its, rv, ot, g1, g2, g3⟩ := okt
  refine ⟨a, dx, t, od, ot, its, mA, rfl, O.ne, O.obj, e1, fun h' q => ⟨od, es, ep, q, e2, e3, e4, e5⟩, ?_, g1, fun h' q => ⟨ot, q, g2, g3⟩, rv, x.low ha, x.low ho, x.rd_low ht⟩
  obtain ⟨u, hu, ru⟩ := RelO.some_of (v := .ref t) (o := mA "answers") (rl "answers")
  rw [hu]
  cases ru
  rfl
/-- the stretch that the outer world sees, and the state on which we lean -/
structure Lk (G : GenF) (s₀ sb : Shared) : Prop where
  keep : KeepG G s₀ sb
  os : sb.os = s₀.os
theorem KeepG.trans {s1 s2 s3 : Shared} (a : KeepG G s1 s2) (b : KeepG G s2 s3) : KeepG G s1 s3 where
  low := fun c o h1 h2 e => b.low c o h1 h2 (a.low c o h1 h2 e)
  fr := fun c o h1 h2 e => by
    obtain ⟨sl, e1⟩ := a.fr c o h1 h2 e
    obtain ⟨sl', e2⟩ := b.fr c _ h1 h2 e1
    exact ⟨sl', e2⟩
  high := fun c o h1 h2 e => b.high c o h1 h2 (a.high c o h1 h2 e)
theorem Lk.refl {s : Shared} : Lk G s s := ⟨⟨fun _ _ _ _ e => e, fun _ o _ _ e => ⟨o.slots, e⟩, fun _ _ _ _ e => e⟩, rfl⟩
theorem Lk.at {sb : Shared} (l : Lk G s₀ sb) (x : At G sk sb pins σ H s) : Lk G s₀ s := ⟨l.keep.trans x.keep, x.inv.os.trans l.os⟩
theorem At.slp (x : At G sk s₀ pins σ H s) : Slp G s s := ⟨rfl, x.inv.bare, fun _ _ _ e => e, x.inv.bk, x.inv.funs⟩
/-- one item is handed out -/
theorem seg_yieldW {C t : Addr} {row : List Int} {Ws : List (List V)} {eW : Expr} {yp pos : Pos} {n : Nat} {c : Code} {fs : List Frame} {K : Flow → Sem PySem.Fin} {J : Value → Sem PySem.Fin}
    {sb : Shared} (ok : G.Ok) (hco : G.scope.isCoroutine = false) (pl : Pl G c fs) (lk : Lk G s₀ sb) (x : At G sk sb pins σ H s) (cv : Covd sk pins) (hW : PE (G.cx sb xF) eW (tWorld G.K C)) (hσ : σ[3]? = some (some (.ref t))) (ht : Rd H t (.tup (row.map V.int))) (h01 : ∀ z ∈ row, z = 0 ∨ z = 1) (hlen : row.length ≤ 20)
    (hn : n < Ws.length) (hWs : Ws[Ws.length - 1 - n]? = some (row.map V.int))
    (cont : ∀ (s1 s2 : Shared) (H1 : Hp), At G sk sb pins σ H1 s1 → Same H H1 → (∀ b o, s.heap.get? b = some o → (∃ p ∈ pins, p.1 = b) → s1.heap.get? b = some o) → Slp G s1 s2 → Seg (model G.P G.w) G.A (RW G) (YW G C Ws) n s2 c (K .next) fs s2) :
    Seg (model G.P G.w) G.A (RW G) (YW G C Ws) (n + 1) s₀ c ((exec (.Expr (.Yield (some eW) yp) pos) G.env).wrap K J id id) fs s := by
  have hin : interactive G.env = false := x.inv.quiet
  refine seg_Expr_Yield pl.split rfl pl.guard ?_ hco hin
  rw [pl.over]
  refine wpAny_mono (x.pe cv hW (Q := fun v H' => ∃ a dx p, v = .ref a ∧ H' a = some (.ins C dx [("answers", .ref t), ("place", .ref p)])) ⟨t, row, hσ, ht, h01, hlen, fun a dx p H' sm ha => ⟨sm, a, dx, p, rfl, ha⟩⟩) (fun u s1 hu => ?_) fun _ _ (z : False) => z.elim
  obtain ⟨v, H1, x1, rv, sm, a, dx, p, rfl, ha⟩ := hu
  cases rv
  intro kap hk
  refine ⟨hn, ⟨_, hWs, world_raw x1 ha (rd_same sm ht)⟩, (lk.at x1).os, x1.inv.bare, (lk.at x1).keep, (let ⟨m, hn, _⟩ := x1.inv.loc; ⟨m, hn⟩), fun s2 z => hk .none s2 ?_⟩
  refine cont s1 s2 H1 x1 sm (fun b o e hp => ?_) z
  obtain ⟨q, hq, rfl⟩ := hp
  have e1 := (x.inv.pin q (List.mem_append_right _ hq)).1
  have e2 := (x1.inv.pin q (List.mem_append_right _ hq)).1
  rw [e] at e1
  cases e1
  exact e2
end
end WL
namespace WL
open PySem PySem.Spec PyProof.Rows L2

/-- what is kept of a level: its rows at r and in the copy at c, each a tuple -/
structure Lev (H : Hp) (r c : Addr) (rows : List (Addr × List Int)) : Prop where
  hr : Rd H r (.lst (rows.map fun p => V.ref p.1))
  hc : Rd H c (.lst (rows.map fun p => V.ref p.1))
  ht : ∀ p ∈ rows, Rd H p.1 (.tup (p.2.map V.int))
theorem Lev.same {H H' : Hp} {r c : Addr} {rows : List (Addr × List Int)} (x : Lev H r c rows) (e : Same H H') : Lev H' r c rows := ⟨rd_same e x.hr, rd_same e x.hc, fun p hp => rd_same e (x.ht p hp)⟩
/-- iterators that stand still -/
def Its (G : GenF) (pins : List (Addr × Obj)) : Prop := ∀ p ∈ pins, isIt p.2 = true ∧ G.L < p.1
section
variable {G : GenF}
theorem seg_block {R : GenEnd} {Y : Protocol} {n : Nat} {s₀ s : Shared} {c : Code} {fs : List Frame} {env : Env} {K : Flow → Sem PySem.Fin} {J : Value → Sem PySem.Fin} {c₁ : Code} {p₁ : Pos} {l kp : List Value}
    (h : Seg (model G.P G.w) G.A R Y n s₀ c₁ (K .next) fs s) : Seg (model G.P G.w) G.A R Y n s₀ c (.pure (.again (.block [] env))) (.ret (backOf env K J id id) none false l c₁ p₁ kp :: fs) s := by
  refine seg_again rfl ?_
  show Seg _ _ _ _ _ _ _ ((execs [] env).onRaise (fun x => do noteFrame x env; theTreesLotGoes x) >>= fun f => pure (.done f)) _ _
  show Seg _ _ _ _ _ _ _ (leafOf (.ok .next)) _ _
  exact seg_leaf (.ok .next) h

theorem fp_of {itl : Addr} {sk : List Addr} {sb s : Shared} {pins : List (Addr × Obj)} {σ : L2.St} {H : Hp} (ok : G.Ok) (x : At G sk sb pins σ H s) (hit : H itl = none) (hil : G.L < itl) (hia : itl ≠ G.a) (hp0 : ∀ p ∈ pins, p.1 ≠ itl) : ∀ b ∈ [itl], FpOk (G.cx sb xF) pins H b := fun b hb => by
  have sz : (cutH sb.heap G.L).objs.size = G.L := cutH_size (Nat.le_of_lt x.lt)
  rw [List.mem_singleton.mp hb]
  refine ⟨hit, Nat.ne_of_gt hil, fun z => absurd (Nat.lt_trans hil (ok.low _ z)) (Nat.lt_irrefl _), .inr (by show (cutH sb.heap G.L).objs.size ≤ itl; rw [sz]; exact Nat.le_of_lt hil), fun y cc h => ?_, fun p hp => ?_⟩
  · have nc : G.env.cells = [] := cells_none _ _ ok.plain
    have h' : G.env.cells.lookup y = some cc := h
    rw [nc] at h'
    cases h'
  · rcases List.mem_append.mp hp with hp | hp
    · rw [List.mem_singleton.mp hp]
      exact Ne.symm hia
    · exact hp0 p hp
/-- the inner loop: the rows of one level, each handed out -/
theorem inner_loop {C r c itl itr : Addr} {orr : Obj} {rows : List (Addr × List Int)} {n0 k0 : Int} {Ws : List (List V)} {eW tgt : Expr} {yp pos : Pos} {c₁ : Code} {fs : List Frame} {K : Flow → Sem PySem.Fin} {J : Value → Sem PySem.Fin} {p₁ : Pos} {rem : Nat}
    (ok : G.Ok) (hco : G.scope.isCoroutine = false) (pl : Pl G c₁ fs) (hW : ∀ s₀, PE (G.cx s₀ xF) eW (tWorld G.K C)) (hT : ∀ s₀, PG (G.cx s₀ xF) tgt (gName 3))
    (h01 : ∀ p ∈ rows, (∀ z ∈ p.2, z = 0 ∨ z = 1) ∧ p.2.length ≤ 20) (hrem : rem + rows.length ≤ Ws.length) (hWs : ∀ j, j < rows.length → ∃ q, rows[j]? = some q ∧ Ws[Ws.length - (rem + (rows.length - j))]? = some (q.2.map V.int))
    (hil : G.L < itl) (hia : itl ≠ G.a) (hir : G.L < itr) (hri : itr ≠ itl) (hor : isIt orr = true)
    (cont : ∀ (s₀ sb s : Shared) (H : Hp) (v : Option V), Lk G s₀ sb → At G [itr] sb [(itr, orr)] [some (.int n0), some (.ref r), some (.int k0), v, none] H s → Rd H r (.lst (rows.map fun p => V.ref p.1)) → (∀ p ∈ rows, Rd H p.1 (.tup (p.2.map V.int))) →
      Seg (model G.P G.w) G.A (RW G) (YW G C Ws) rem s₀ c₁ (K .next) fs s) :
    ∀ (d j : Nat), d + j = rows.length → ∀ (s₀ sb s : Shared) (sk : List Addr) (H : Hp) (v : Option V), Lk G s₀ sb → (∀ b ∈ sk, b = itl ∨ b = itr) → At G sk sb [(itr, orr)] [some (.int n0), some (.ref r), some (.int k0), v, none] H s → H itl = none → Lev H r c rows → s.heap.IsListIter itl c j →
      Seg (model G.P G.w) G.A (RW G) (YW G C Ws) (rem + d) s₀ (.forLoop tgt (.ref itl) [.Expr (.Yield (some eW) yp) pos] [] G.env) ((model G.P G.w).den (.forLoop tgt (.ref itl) [.Expr (.Yield (some eW) yp) pos] [] G.env)) (.ret (backOf G.env K J id id) none false [] c₁ p₁ [] :: fs) s := by
  have T := turn_list (P := G.P) (w := G.w) (K := G.K) (tg := tgt) c itl
  have pl2 : Pl G (.forLoop tgt (.ref itl) [.Expr (.Yield (some eW) yp) pos] [] G.env) (.ret (backOf G.env K J id id) none false [] c₁ p₁ [] :: fs) := pl.loop
  have hp0 : ∀ p ∈ [(itr, orr)], p.1 ≠ itl := fun p hp => by rw [List.mem_singleton.mp hp]; exact hri
  intro d
  induction d with
  | zero =>
    intro j hj s₀ sb s sk H v lk hsk x hit lev st
    have ej : j = rows.length := by omega
    subst ej
    have fp := fp_of ok x hit hil hia hp0
    refine seg_forLoop ?_
    rw [pl2.over]
    refine wpAny_hl x.hl (wpAny_mono (T.done (G.cx sb xF) rfl rfl rfl rfl rows.length _ s _ H xF x.inv fp st ⟨_, .inl lev.hc, by rw [List.length_map]; exact Nat.le_refl _⟩) (fun rr s1 hr k => ?_) fun _ _ (z : False) _ => z.elim)
    obtain ⟨rfl, I1⟩ := hr
    refine seg_block ?_
    have x1 := x.same I1 k
    have x2 := x1.woken (sk' := [itr]) ok x1.slp (fun b hb => ⟨orr, by rw [List.mem_singleton.mp hb]; exact List.mem_singleton_self _, hor⟩) (fun p hp => by rw [List.mem_singleton.mp hp]; exact ⟨List.mem_singleton_self _, hir⟩)
    have hf : ∀ b ∈ [itr], H b = none := fun b hb => by
      rw [List.mem_singleton.mp hb]
      exact (I1.pin (itr, orr) (List.mem_append_right _ (List.mem_singleton_self _))).2.1
    rw [Nat.add_zero]
    exact cont s₀ s1 s1 _ v (lk.at x1) x2 (x1.rdl_woken x1.slp hf lev.hr) (fun p hp => x1.rdt_woken x1.slp hf (lev.ht p hp))
  | succ d ih =>
    intro j hj s₀ sb s sk H v lk hsk x hit lev st
    have hj' : j < rows.length := by omega
    obtain ⟨q, hq, hWq⟩ := hWs j hj'
    have fp := fp_of ok x hit hil hia hp0
    refine seg_forLoop ?_
    rw [pl2.over]
    refine wpAny_hl x.hl (wpAny_mono (T.item (G.cx sb xF) rfl rfl rfl rfl j _ s _ H xF x.inv fp st ⟨_, V.ref q.1, .inl lev.hc, by rw [List.getElem?_map, hq]; rfl⟩) (fun rr s1 hr k1 => ?_) fun _ _ (z : False) _ => z.elim)
    obtain ⟨u, rfl, hr⟩ := hr
    refine wpAny_hl k1 (wpAny_mono hr (fun _ s2 hr2 k2 => ?_) fun _ _ (z : False) _ => z.elim)
    obtain ⟨y, H2, I2, ru, ⟨rfl, yv⟩, st2, _⟩ := hr2
    have ey : y = V.ref q.1 := by
      have z := yv _ (.inl lev.hc)
      rw [List.getElem?_map, hq] at z
      exact (Option.some.inj z).symm
    subst ey
    obtain ⟨ol, ho, hoc, hod⟩ := id st2
    have hol : isIt ol = true := by unfold isIt; rw [hoc]; rfl
    have I3 : Inv (G.cx sb xF) [(itr, orr), (itl, ol)] [some (.int n0), some (.ref r), some (.int k0), v, none] H2 s2 := I2.pins_of fun p hp => by
      rcases List.mem_cons.mp hp with h | h
      · rw [h]
        exact I2.pin (itr, orr) (List.mem_append_right _ (List.mem_singleton_self _))
      · rw [List.mem_singleton.mp h]
        exact ⟨ho, hit, Nat.ne_of_gt hil, fun z => absurd (Nat.lt_trans hil (ok.low _ z)) (Nat.lt_irrefl _), fun w z => by rw [hod] at z; cases z⟩
    refine wpAny_hl k2 (wpAny_mono ((hT sb).run _ s2 _ H2 (V.ref q.1) u (fun σ' H' => σ' = [some (.int n0), some (.ref r), some (.int k0), some (.ref q.1), none] ∧ H' = H2) I3 ru ⟨rfl, rfl⟩) (fun _ s3 hs3 k3 => ?_) fun _ _ (z : False) _ => z.elim)
    obtain ⟨σ3, H3, I4, rfl, rfl⟩ := hs3
    have x3 := x.same I4 k3
    have cv : Covd sk [(itr, orr), (itl, ol)] := fun b hb => by
      rcases hsk b hb with h | h
      · exact ⟨ol, by rw [h]; exact List.mem_cons_of_mem _ (List.mem_singleton_self _)⟩
      · exact ⟨orr, by rw [h]; exact List.mem_cons_self⟩
    have hmem : q ∈ rows := List.mem_of_getElem? hq
    refine seg_execs_cons ?_
    refine seg_yieldW (n := rem + d) (row := q.2) (t := q.1) ok hco pl2 lk x3 cv (hW sb) rfl (lev.ht q hmem) (h01 q hmem).1 (h01 q hmem).2 (by omega) (by rw [← hWq]; congr 1; omega) fun s4 s5 H4 x4 sm keep z => ?_
    refine seg_execs_nil ?_
    refine seg_again rfl ?_
    have hf : ∀ b ∈ [itr, itl], H4 b = none := fun b hb => by
      rcases List.mem_cons.mp hb with h | h
      · rw [h]
        exact (x4.inv.pin (itr, orr) (List.mem_append_right _ List.mem_cons_self)).2.1
      · rw [List.mem_singleton.mp h]
        exact (x4.inv.pin (itl, ol) (List.mem_append_right _ (List.mem_cons_of_mem _ (List.mem_singleton_self _)))).2.1
    have x5 := x4.woken (sk' := [itr, itl]) ok z (fun b hb => by
      rcases List.mem_cons.mp hb with h | h
      · exact ⟨orr, by rw [h]; exact List.mem_cons_self, hor⟩
      · exact ⟨ol, by rw [List.mem_singleton.mp h]; exact List.mem_cons_of_mem _ (List.mem_singleton_self _), hol⟩) (fun p hp => by
      rcases List.mem_cons.mp hp with h | h
      · rw [h]; exact ⟨List.mem_cons_self, hir⟩
      · rw [List.mem_singleton.mp h]; exact ⟨List.mem_cons_of_mem _ (List.mem_singleton_self _), hil⟩)
    have x6 : At G [itr, itl] s5 [(itr, orr)] [some (.int n0), some (.ref r), some (.int k0), some (.ref q.1), none] (wakeH G [itr, itl] s5.heap H4) s5 := x5.same (x5.inv.pins_of fun p hp => by
      rw [List.mem_singleton.mp hp]
      exact x5.inv.pin (itr, orr) (List.mem_append_right _ List.mem_cons_self)) x5.hl
    have lev4 := lev.same sm
    refine ih (j + 1) (by omega) s5 s5 s5 [itr, itl] _ _ Lk.refl (fun b hb => ?_) x6 (wakeH_out (.inr (.inr (List.mem_cons_of_mem _ (List.mem_singleton_self _))))) ⟨x4.rdl_woken z hf lev4.hr, x4.rdl_woken z hf lev4.hc, fun p hp => x4.rdt_woken z hf (lev4.ht p hp)⟩ ?_
    · rcases List.mem_cons.mp hb with h | h
      · exact .inr h
      · exact .inl (List.mem_singleton.mp h)
    · have e3 := (I4.pin (itl, ol) (List.mem_append_right _ (List.mem_cons_of_mem _ (List.mem_singleton_self _)))).1
      have e4 := (x4.inv.pin (itl, ol) (List.mem_append_right _ (List.mem_cons_of_mem _ (List.mem_singleton_self _)))).1
      exact ⟨ol, z.keep _ _ (Nat.le_of_lt hil) e4, hoc, hod⟩
end
end WL
namespace WL
open PySem PySem.Spec PyProof.Rows L2
/-- the rows one longer -/
def nextRows (l : List (List Int)) : List (List Int) := l.flatMap fun r => [r ++ [0], r ++ [1]]
def lev : Nat → List (List Int)
  | 0 => [[]]
  | k + 1 => nextRows (lev k)
/-- rows as tuples, at these addresses -/
structure Rws (H : Hp) (r : Addr) (rows : List (Addr × List Int)) : Prop where
  hr : Rd H r (.lst (rows.map fun p => V.ref p.1))
  ht : ∀ p ∈ rows, Rd H p.1 (.tup (p.2.map V.int))
theorem Rws.same {H H' : Hp} {r : Addr} {rows : List (Addr × List Int)} (x : Rws H r rows) (e : Same H H') : Rws H' r rows := ⟨rd_same e x.hr, fun p hp => rd_same e (x.ht p hp)⟩
/-- list(rows) -/
def tCopy : TE := fun σ H Q => ∃ r xs, σ[1]? = some (some (.ref r)) ∧ Rd H r (.lst xs) ∧ ∀ c H', Same H H' → H' c = some (.lst xs) → Q (.ref c) H'
/-- rows = [row + (answer,) for row in rows for answer in (0, 1)] -/
def tGrow (k : Nat) : TS := fun D σ H => ∃ (n : Option V) (r : Addr) (a b : Option V) (rows : List (Addr × List Int)), σ = [n, some (.ref r), a, b, none] ∧ Rws H r rows ∧ rows.map (·.2) = lev k ∧ k ≤ 10 ∧
  ∀ r' rows' H', Same H H' → Rws H' r' rows' → rows'.map (·.2) = lev (k + 1) → D.nx (σ.set 1 (some (.ref r'))) H'
section
variable {G : GenF}
theorem At.ps {sk : List Addr} {s₀ s : Shared} {pins : List (Addr × Obj)} {σ : L2.St} {H : Hp} {st : Stmt} {t : TS} {Q : L2.St → Hp → Prop} {E : Value → Shared → Prop} (x : At G sk s₀ pins σ H s) (c : Covd sk pins) (hb : PS (G.cx s₀ xF) st t) (h : t { nx := fun σ' H' => Same H H' ∧ Q σ' H', rt := fun _ _ => False } σ H) :
    wpAny (model G.P G.w) (G.A.deeper G.env) (exec st G.env) (fun f s' => f = .next ∧ ∃ σ' H', At G sk s₀ pins σ' H' s' ∧ Same H H' ∧ Q σ' H') E s := by
  refine wpAny_hl x.hl (wpAny_mono (hb.run pins s σ H _ x.inv h) (fun f s' hf k => ?_) fun _ _ z => z.elim)
  cases f with
  | next =>
    obtain ⟨σ', H', I, sm, q⟩ := hf
    exact ⟨rfl, σ', H', x.step I k sm (c.free I), sm, q⟩
  | brk => obtain ⟨_, _, _, q⟩ := hf; exact q.elim
  | cont => obtain ⟨_, _, _, q⟩ := hf; exact q.elim
  | ret u => obtain ⟨_, _, _, _, _, q⟩ := hf; exact q.elim
theorem rd_list {sk : List Addr} {s₀ s : Shared} {pins : List (Addr × Obj)} {σ : L2.St} {H : Hp} (x : At G sk s₀ pins σ H s) {b : Addr} {xs : List V} (h : Rd H b (.lst xs)) : ∃ items, s.heap.IsList b items := by
  have ok : ObjOk G.P G.w H s.heap b (.lst xs) := h.ok x.inv.hok
  obtain ⟨_, its, n, _, e⟩ := ok
  exact ⟨_, _, e, rfl, n, rfl⟩
/-- the outer loop, from its head -/
theorem outer_loop {C itr : Addr} {n : Nat} {Ws : List (List V)} {eW eL tgt tg0 : Expr} {yp pos posL : Pos} {stC : Stmt} {c₁ : Code} {fs : List Frame} {K : Flow → Sem PySem.Fin} {J : Value → Sem PySem.Fin} {p₁ : Pos} {rem : Nat → Nat}
    (ok : G.Ok) (hco : G.scope.isCoroutine = false) (pl : Pl G c₁ fs) (hW : ∀ s₀, PE (G.cx s₀ xF) eW (tWorld G.K C)) (hT : ∀ s₀, PG (G.cx s₀ xF) tgt (gName 3)) (hT0 : ∀ s₀, PG (G.cx s₀ xF) tg0 (gName 2)) (hL : ∀ s₀, PE (G.cx s₀ xF) eL tCopy)
    (hC : ∀ k s₀, PS (G.cx s₀ xF) stC (tGrow k)) (hfs : ∀ x, foldedSetIterable eL G.env x = pure x)
    (h01 : ∀ k, ∀ p ∈ lev k, (∀ z ∈ p, z = 0 ∨ z = 1) ∧ (k ≤ 10 → p.length ≤ 20)) (hrem : ∀ k, k ≤ n → rem k = rem (k + 1) + (lev k).length) (hr0 : rem (n + 1) = 0) (hrl : ∀ k, rem k ≤ Ws.length) (hn : n ≤ 10)
    (hWs : ∀ k j, k ≤ n → j < (lev k).length → ∃ q, (lev k)[j]? = some q ∧ Ws[Ws.length - (rem (k + 1) + ((lev k).length - j))]? = some (q.map V.int)) (hir : G.L < itr) (hia : itr ≠ G.a)
    (cont : ∀ (s₀ sb s : Shared) (sk : List Addr) (H : Hp) (σ : L2.St), Lk G s₀ sb → At G sk sb [] σ H s → Seg (model G.P G.w) G.A (RW G) (YW G C Ws) 0 s₀ c₁ (K .next) fs s) :
    ∀ (d k : Nat), d + k = n + 1 → ∀ (s₀ sb s : Shared) (sk : List Addr) (H : Hp) (r : Addr) (rows : List (Addr × List Int)) (u v : Option V), Lk G s₀ sb → (∀ b ∈ sk, b = itr) → At G sk sb [] [some (.int n), some (.ref r), u, v, none] H s → H itr = none →
      Rws H r rows → rows.map (·.2) = lev k → IsRangeIter s.heap itr (0 + (k : Nat) * 1) (((n + 1 : Nat) : Int) - (k : Nat)) 1 →
      Seg (model G.P G.w) G.A (RW G) (YW G C Ws) (rem k) s₀ (.forLoop tg0 (.ref itr) [.For tgt eL [.Expr (.Yield (some eW) yp) pos] [] posL, stC] [] G.env) ((model G.P G.w).den (.forLoop tg0 (.ref itr) [.For tgt eL [.Expr (.Yield (some eW) yp) pos] [] posL, stC] [] G.env)) (.ret (backOf G.env K J id id) none false [] c₁ p₁ [] :: fs) s := by
  have T := turn_range (P := G.P) (w := G.w) (K := G.K) (tg := tg0) itr 0 (n + 1)
  have pl2 : Pl G (.forLoop tg0 (.ref itr) [.For tgt eL [.Expr (.Yield (some eW) yp) pos] [] posL, stC] [] G.env) (.ret (backOf G.env K J id id) none false [] c₁ p₁ [] :: fs) := pl.loop
  have hp0 : ∀ p ∈ ([] : List (Addr × Obj)), p.1 ≠ itr := fun p hp => by cases hp
  intro d
  induction d with
  | zero =>
    intro k hk s₀ sb s sk H r rows u v lk hsk x hit lv hlv st
    have ek : k = n + 1 := by omega
    subst ek
    have fp := fp_of ok x hit hir hia hp0
    rw [hr0]
    refine seg_forLoop ?_
    rw [pl2.over]
    refine wpAny_hl x.hl (wpAny_mono (T.done (G.cx sb xF) rfl rfl rfl rfl (n + 1) _ s _ H xF x.inv fp st (Nat.le_refl _)) (fun rr s1 hr k => ?_) fun _ _ (z : False) _ => z.elim)
    obtain ⟨rfl, I1⟩ := hr
    refine seg_block ?_
    exact cont s₀ sb s1 sk H _ lk (x.same I1 k)
  | succ d ih =>
    intro k hk s₀ sb s sk H r rows u v lk hsk x hit lv hlv st
    have hkn : k ≤ n := by omega
    have fp := fp_of ok x hit hir hia hp0
    refine seg_forLoop ?_
    rw [pl2.over]
    refine wpAny_hl x.hl (wpAny_mono (T.item (G.cx sb xF) rfl rfl rfl rfl k _ s _ H xF x.inv fp st (show k < n + 1 by omega)) (fun rr s1 hr k1 => ?_) fun _ _ (z : False) _ => z.elim)
    obtain ⟨w, rfl, hr⟩ := hr
    refine wpAny_hl k1 (wpAny_mono hr (fun _ s2 hr2 k2 => ?_) fun _ _ (z : False) _ => z.elim)
    obtain ⟨y, H2, I2, rw', ⟨rfl, rfl⟩, st2, _⟩ := hr2
    have st2' : s2.heap.get? itr = some ({ cls := .type "range_iterator", dict := none, data := .fields #[rawInt (0 + ((k + 1 : Nat) : Int) * 1), rawInt (((n + 1 : Nat) : Int) - ((k + 1 : Nat) : Int)), rawInt 1], slots := #[] } : Obj) := st2
    generalize ho : ({ cls := .type "range_iterator", dict := none, data := .fields #[rawInt (0 + ((k + 1 : Nat) : Int) * 1), rawInt (((n + 1 : Nat) : Int) - ((k + 1 : Nat) : Int)), rawInt 1], slots := #[] } : Obj) = orr at st2'
    have hor : isIt orr = true := by rw [← ho]; rfl
    have I3 : Inv (G.cx sb xF) [(itr, orr)] [some (.int n), some (.ref r), u, v, none] H2 s2 := I2.pins_of fun p hp => by
      rw [List.mem_singleton.mp hp]
      exact ⟨st2', hit, Nat.ne_of_gt hir, fun z => absurd (Nat.lt_trans hir (ok.low _ z)) (Nat.lt_irrefl _), fun w z => by rw [← ho] at z; cases z⟩
    refine wpAny_hl k2 (wpAny_mono ((hT0 sb).run _ s2 _ H2 (V.int (0 + (k : Nat))) w (fun σ' H' => σ' = [some (.int n), some (.ref r), some (.int (0 + (k : Nat))), v, none] ∧ H' = H2) I3 rw' ⟨rfl, rfl⟩) (fun _ s3 hs3 k3 => ?_) fun _ _ (z : False) _ => z.elim)
    obtain ⟨σ3, H3, I4, rfl, rfl⟩ := hs3
    have x3 := x.same I4 k3
    have cv : ∀ {sk' : List Addr}, (∀ b ∈ sk', b = itr) → Covd sk' [(itr, orr)] := fun {sk'} h b hb => ⟨orr, by rw [h b hb]; exact List.mem_singleton_self _⟩
    refine seg_execs_cons ?_
    refine seg_For ?_ hfs
    rw [pl2.over]
    refine wpAny_mono (x3.pe (cv hsk) (hL sb) (Q := fun v' H' => ∃ c, v' = .ref c ∧ H' c = some (.lst (rows.map fun p => V.ref p.1))) ⟨r, _, rfl, lv.hr, fun c H' sm hc => ⟨sm, c, rfl, hc⟩⟩) (fun u4 s4 hu4 => ?_) fun _ _ (z : False) => z.elim
    obtain ⟨v4, H4, x4, r4, sm4, c, rfl, hc4⟩ := hu4
    cases r4
    obtain ⟨items, hli⟩ := rd_list x4 (.inl hc4)
    refine wpAny_hl x4.hl (wpAny_pyIter_list hli fun k5 p => ?_)
    have I5 := x4.inv.kept (h' := s4.heap.push { cls := .type "list_iterator", data := .fields #[.ref c, .int 0 0] }) (t' := s4.toks) fun b o e => Heap.get?_push_of_some _ e
    have x5 := x4.same I5 k5
    have hil : G.L < s4.heap.objs.size := x4.inv.lt
    have ha4 : s4.heap.get? G.a = some G.go := (x4.inv.pin (G.a, G.go) (List.mem_append_left _ List.mem_cons_self)).1
    have hr4 : s4.heap.get? itr = some orr := (x4.inv.pin (itr, orr) (List.mem_append_right _ (List.mem_singleton_self _))).1
    have hlen : rows.length = (lev k).length := by rw [← hlv, List.length_map]
    have er : ∀ j : Nat, j < rows.length → ∃ q, rows[j]? = some q ∧ Ws[Ws.length - (rem (k + 1) + (rows.length - j))]? = some (q.2.map V.int) := fun j hj => by
      obtain ⟨q, h1, h2⟩ := hWs k j hkn (by omega)
      rw [← hlv, List.getElem?_map] at h1
      cases e : rows[j]? with
      | none => rw [e] at h1; cases h1
      | some p =>
        rw [e] at h1
        have h1' : p.2 = q := Option.some.inj h1
        exact ⟨p, rfl, by rw [h1', hlen]; exact h2⟩
    rw [hrem k hkn, ← hlen]
    refine inner_loop (itl := s4.heap.objs.size) (itr := itr) (orr := orr) (c := c) (r := r) (n0 := n) (k0 := 0 + (k : Nat)) (rem := rem (k + 1)) ok hco pl2 hW hT (fun p hp => ?_) ?_ er hil (Nat.ne_of_gt (Heap.lt_size ha4)) hir (Nat.ne_of_lt (Heap.lt_size hr4)) hor ?_ rows.length 0 (by omega) s₀ sb _ sk H4 v lk (fun b hb => .inr (hsk b hb)) x5 (x4.inv.hok.fresh (Nat.le_refl _)) ⟨rd_same sm4 lv.hr, .inl hc4, fun p hp => rd_same sm4 (lv.ht p hp)⟩ ⟨_, Heap.get?_push_size _ rfl, rfl, rfl⟩
    · have hm : p.2 ∈ lev k := by rw [← hlv]; exact List.mem_map_of_mem hp
      exact ⟨(h01 k _ hm).1, (h01 k _ hm).2 (by omega)⟩
    · have := hrl k
      rw [hrem k hkn] at this
      omega
    · -- behind the inner loop: the rows grow
      intro s₀' sb' s' H' v' lk' x6 hr6 ht6
      show Seg _ _ _ _ _ _ _ ((execs [stC] G.env).wrap _ _ id id) _ _
      refine seg_execs_cons ?_
      refine seg_wrap ?_
      rw [pl2.over]
      refine wpAny_mono (x6.ps (cv fun b hb => List.mem_singleton.mp hb) (hC k sb') (Q := fun σ' H'' => ∃ r' rows', σ' = [some (.int n), some (.ref r'), some (.int (0 + (k : Nat))), v', none] ∧ Rws H'' r' rows' ∧ rows'.map (·.2) = lev (k + 1))
        ⟨_, r, _, _, rows, rfl, ⟨hr6, ht6⟩, hlv, by omega, fun r' rows' H'' sm h1 h2 => ⟨sm, r', rows', rfl, h1, h2⟩⟩) (fun f s7 hf => ?_) fun _ _ (z : False) => z.elim
      obtain ⟨rfl, σ7, H7, x7, sm7, r', rows', rfl, lv7, hlv7⟩ := hf
      refine seg_execs_nil ?_
      refine seg_again rfl ?_
      have e7 := x7.inv.pin (itr, orr) (List.mem_append_right _ (List.mem_singleton_self _))
      have x8 : At G [itr] sb' [] _ H7 s7 := x7.same (x7.inv.pins_of fun p hp => by cases hp) x7.hl
      refine ih (k + 1) (by omega) s₀' sb' s7 [itr] H7 r' rows' _ _ lk' (fun b hb => List.mem_singleton.mp hb) x8 e7.2.1 lv7 hlv7 ?_
      show s7.heap.get? itr = some _
      rw [e7.1, ← ho]
end
end WL
namespace WL
open PySem PySem.Spec PyProof.Rows L2
/-- the test of longest passes -/
def tOkIf : TS := fun D σ H => ∃ n : Nat, σ[0]? = some (some (.int n)) ∧ n ≤ 10 ∧ D.nx σ H
/-- rows = [()] -/
def tRows0 : TS := fun D σ H => ∀ r t H', Same H H' → Rws H' r [(t, [])] → D.nx (σ.set 1 (some (.ref r))) H'
/-- range(longest + 1) -/
def tRngN : L2.St → Hp → (Int → Int → Hp → Prop) → Prop := fun σ H Q => ∃ n : Nat, σ[0]? = some (some (.int n)) ∧ n ≤ 10 ∧ Q 0 (((n + 1 : Nat) : Int)) H
section
variable {G : GenF}
theorem gen_start {C : Addr} {n : Nat} {Ws : List (List V)} {eW eL eR tgt tg0 : Expr} {yp pos posL posR : Pos} {stC stIf stRows : Stmt} {rem : Nat → Nat} {s₀ : Shared} {H : Hp}
    (ok : G.Ok) (hco : G.scope.isCoroutine = false) (hW : ∀ s₀, PE (G.cx s₀ xF) eW (tWorld G.K C)) (hT : ∀ s₀, PG (G.cx s₀ xF) tgt (gName 3)) (hT0 : ∀ s₀, PG (G.cx s₀ xF) tg0 (gName 2)) (hL : ∀ s₀, PE (G.cx s₀ xF) eL tCopy)
    (hC : ∀ k s₀, PS (G.cx s₀ xF) stC (tGrow k)) (hfs : ∀ x, foldedSetIterable eL G.env x = pure x) (hfs0 : ∀ x, foldedSetIterable eR G.env x = pure x)
    (hIf : ∀ s₀, PS (G.cx s₀ xF) stIf tOkIf) (hRows : ∀ s₀, PS (G.cx s₀ xF) stRows tRows0) (hR : ∀ s₀, PRg (G.cx s₀ xF) eR tRngN)
    (h01 : ∀ k, ∀ p ∈ lev k, (∀ z ∈ p, z = 0 ∨ z = 1) ∧ (k ≤ 10 → p.length ≤ 20)) (hrem : ∀ k, k ≤ n → rem k = rem (k + 1) + (lev k).length) (hr0 : rem (n + 1) = 0) (hrl : ∀ k, rem k ≤ Ws.length) (hn : n ≤ 10)
    (hWs : ∀ k j, k ≤ n → j < (lev k).length → ∃ q, (lev k)[j]? = some q ∧ Ws[Ws.length - (rem (k + 1) + ((lev k).length - j))]? = some (q.map V.int)) (hr00 : rem 0 = Ws.length)
    (x : At G [] s₀ [] [some (.int n), none, none, none, none] H s₀) :
    Seg (model G.P G.w) G.A (RW G) (YW G C Ws) Ws.length s₀ (.func [stIf, stRows, .For tg0 eR [.For tgt eL [.Expr (.Yield (some eW) yp) pos] [] posL, stC] [] posR] G.env)
      ((model G.P G.w).den (.func [stIf, stRows, .For tg0 eR [.For tgt eL [.Expr (.Yield (some eW) yp) pos] [] posL, stC] [] posR] G.env)) [] s₀ := by
  have pl : Pl G (.func [stIf, stRows, .For tg0 eR [.For tgt eL [.Expr (.Yield (some eW) yp) pos] [] posL, stC] [] posR] G.env) [] := .func
  have cv : Covd [] ([] : List (Addr × Obj)) := fun b hb => by cases hb
  refine seg_func ?_
  refine seg_execs_cons ?_
  refine seg_wrap ?_
  rw [pl.over]
  refine wpAny_mono (x.ps cv (hIf s₀) (Q := fun σ' H' => σ' = [some (.int n), none, none, none, none]) ⟨n, rfl, hn, Same.refl _, rfl⟩) (fun f s1 hf => ?_) fun _ _ (z : False) => z.elim
  obtain ⟨rfl, σ1, H1, x1, sm1, rfl⟩ := hf
  refine seg_execs_cons ?_
  refine seg_wrap ?_
  rw [pl.over]
  refine wpAny_mono (x1.ps cv (hRows s₀) (Q := fun σ' H' => ∃ r t, σ' = [some (.int n), some (.ref r), none, none, none] ∧ Rws H' r [(t, [])]) (fun r t H' sm h => ⟨sm, r, t, rfl, h⟩)) (fun f s2 hf => ?_) fun _ _ (z : False) => z.elim
  obtain ⟨rfl, σ2, H2, x2, sm2, r, t, rfl, hr⟩ := hf
  refine seg_execs_cons ?_
  refine seg_For ?_ hfs0
  rw [pl.over]
  refine wpAny_hl x2.hl (wpAny_mono (hR s₀ [] s2 _ H2 (fun a b H' => a = 0 ∧ b = ((n + 1 : Nat) : Int) ∧ H' = H2) x2.inv ⟨n, rfl, hn, rfl, rfl, rfl⟩) (fun v s3 h3 k3 => ?_) fun _ _ (z : False) _ => z.elim)
  obtain ⟨rr, a, b, t1, t2, t3, H3, rfl, hrng, I3, rfl, rfl, rfl⟩ := h3
  have x3 := x2.same I3 k3
  refine wpAny_hl x3.hl (wpAny_pyIter_range hrng (small_one (by omega) (by omega) (by omega) (by omega)) fun k4 p => ?_)
  have I4 := x3.inv.kept (h' := s3.heap.push { cls := .type "range_iterator", data := .fields #[rawInt 0, rawInt (Builtin.Range.rangeSize 0 ((n + 1 : Nat) : Int) 1), rawInt 1] }) (t' := s3.toks) fun b o e => Heap.get?_push_of_some _ e
  have x4 := x3.same I4 k4
  have hil : G.L < s3.heap.objs.size := x3.inv.lt
  have ha3 : s3.heap.get? G.a = some G.go := (x3.inv.pin (G.a, G.go) (List.mem_append_left _ List.mem_cons_self)).1
  rw [← hr00]
  refine outer_loop (itr := s3.heap.objs.size) (n := n) ok hco pl hW hT hT0 hL hC hfs h01 hrem hr0 hrl hn hWs hil (Nat.ne_of_gt (Heap.lt_size ha3)) (fun s₀' sb s' sk H' σ' lk x' => ?_) (n + 1) 0 rfl s₀ s₀ _ [] H3 r [(t, [])] none none Lk.refl (fun b hb => by cases hb) x4 (x3.inv.hok.fresh (Nat.le_refl _)) hr rfl ?_
  · refine seg_execs_nil ?_
    exact seg_end (.ok (.ret .none)) (.inl ⟨.inl rfl, rfl, (lk.at x').os, x'.inv.bare, (lk.at x').keep⟩)
  · have e2 : Builtin.Range.rangeSize 0 ((n + 1 : Nat) : Int) 1 = ((n + 1 : Nat) : Int) - ((0 : Nat) : Int) := by rw [rangeSize_one]; split <;> omega
    rw [e2]
    exact Heap.get?_push_size _ rfl
end
end WL
namespace WL
open PySem PySem.Spec PyProof.Rows L2
/-- the consumer around the generator's frame -/
structure Con (X : Cx) (pins : List (Addr × Obj)) (G : GenF) : Prop where
  outer : G.outer = X.stack
  sz : X.s_0.heap.objs.size ≤ G.L
  loc : X.env.locals < G.L
  cell : ∀ x c, X.env.cells.lookup x = some c → c < G.L
  pin : ∀ p ∈ X.pn ++ pins, p.1 < G.L
/-- behind the frame only lists are tracked -/
def Thin (G : GenF) (H : Hp) : Prop := ∀ b u, H b = some u → b < G.L ∨ ∃ xs, u = .lst xs
section
variable {X : Cx} {G : GenF} {pins : List (Addr × Obj)} {σ : L2.St} {H : Hp} {s s' : Shared}
theorem lst_obj (I : Inv X pins σ H s) {b : Addr} {xs : List V} (e : H b = some (.lst xs)) : ∃ its n, s.heap.get? b = some { cls := .type "list", data := .seq its n } := by
  have ok : ObjOk X.prog X.w H s.heap b (.lst xs) := I.hok b _ e
  obtain ⟨_, its, n, _, q⟩ := ok
  exact ⟨_, _, q⟩
theorem ns_none (I : Inv X pins σ H s) (th : Thin G H) (ns : ∃ m, s.heap.Ns G.L m) : H G.L = none := by
  cases e : H G.L with
  | none => rfl
  | some u =>
    rcases th _ _ e with h | ⟨xs, rfl⟩
    · exact absurd h (Nat.lt_irrefl _)
    · obtain ⟨its, n, q⟩ := lst_obj I e
      obtain ⟨m, o, es, ep, ho, hd, _⟩ := ns
      rw [q] at ho
      cases ho
      cases hd
theorem inv_turn (c : Con X pins G) (I : Inv X pins σ H s) (k : KeepG G s s') (os : s'.os = s.os) (bare : AllBare s'.gens) (th : Thin G H) (ns : ∃ m, s.heap.Ns G.L m) : Inv X pins σ H s' := by
  have hL := ns_none I th ns
  have trk : ∀ b u o, H b = some u → s.heap.get? b = some o → s'.heap.get? b = some o := fun b u o hb e => by
    have low : b < G.L → s'.heap.get? b = some o := fun h => k.low b o h (by
      rw [c.outer]
      intro z
      rw [I.stkFree b z] at hb
      cases hb) e
    rcases th b u hb with h | ⟨xs, rfl⟩
    · exact low h
    · rcases Nat.lt_trichotomy b G.L with h | h | h
      · exact low h
      · rw [h, hL] at hb
        cases hb
      · obtain ⟨its, n, q⟩ := lst_obj I hb
        rw [e] at q
        cases q
        exact k.high b _ h rfl e
  have hm : ∀ {b : Nat} {o : Obj}, s.heap.get? b = some o → b ∉ ((List.range s.heap.objs.size).filter (fun b => decide (G.L ≤ b)) : List Nat) → b < G.L := fun {b o} e hb => by
    have lt : b < s.heap.objs.size := Heap.lt_size e
    refine Nat.lt_of_not_le fun z => hb ?_
    rw [List.mem_filter]
    exact ⟨List.mem_range.mpr lt, decide_eq_true z⟩
  refine I.call' (ch := ((List.range s.heap.objs.size).filter (fun b => decide (G.L ≤ b)) : List Nat)) os ⟨fun b o e n hf hx => k.low b o (hm e hx) (by rw [c.outer]; exact hf) e, fun b o e n hf hx => k.fr b o (hm e hx) (by rw [c.outer]; exact hf) e, fun b o e n hx => n, fun b o e hx => ?_, fun b xs e => e, fun b o u e => e, fun b ps e => ⟨#[], by rw [Array.append_empty]; exact e⟩⟩
    (fun b u e => (I.hok b u e).stay (fun d w hd q => ?_) (fun _ z => z) fun _ _ z => z) bare fun b hb => ?_
  · by_cases hf : b ∈ frs G.outer
    · obtain ⟨sl, q⟩ := k.fr b o (hm e hx) hf e
      exact ⟨_, q⟩
    · exact ⟨_, k.low b o (hm e hx) hf e⟩
  · rcases hd with rfl | hd
    · exact trk _ u w e q
    · exact trk _ _ w hd q
  · have hb' : G.L ≤ b := by
      have z := (List.mem_filter.mp hb).2
      exact of_decide_eq_true z
    exact ⟨.inr (Nat.le_trans c.sz hb'), Nat.ne_of_gt (Nat.lt_of_lt_of_le c.loc hb'), fun x d e z => absurd (Nat.lt_of_lt_of_le (c.cell x d e) (by rw [z]; exact hb')) (Nat.lt_irrefl _), fun p hp z => absurd (Nat.lt_of_lt_of_le (c.pin p hp) (by rw [z]; exact hb')) (Nat.lt_irrefl _)⟩
/-- more pins in the context -/
theorem inv_pn {wp : List (Addr × Obj)} (I : Inv X pins σ H s) (h : ∀ p ∈ wp, s.heap.get? p.1 = some p.2 ∧ H p.1 = none ∧ p.1 ≠ X.env.locals ∧ p.1 ∉ X.fs ∧ ∀ v, p.2.data ≠ .cell v) : Inv { X with pn := wp ++ X.pn } pins σ H s :=
  ⟨⟨I.ok.mod, I.ok.kind, I.ok.glob, I.ok.blt, I.ok.above, I.ok.inj, I.ok.has, I.ok.cab, I.ok.hd, I.ok.frames, I.ok.stk, I.ok.exf, I.ok.bs, I.ok.bsz, I.ok.noex, I.ok.exfs, I.ok.funs, I.ok.frf⟩, I.os, I.bare, I.base, I.loc, I.cell, I.free, I.freeC, fun p hp => by
    have hp' : p ∈ (wp ++ X.pn) ++ pins := hp
    rw [List.append_assoc] at hp'
    exact (List.mem_append.mp hp').elim (h p) (I.pin p), I.hok, I.len⟩
theorem inv_unpn {wp : List (Addr × Obj)} (I : Inv { X with pn := wp ++ X.pn } pins σ H s) : Inv X pins σ H s :=
  ⟨⟨I.ok.mod, I.ok.kind, I.ok.glob, I.ok.blt, I.ok.above, I.ok.inj, I.ok.has, I.ok.cab, I.ok.hd, I.ok.frames, I.ok.stk, I.ok.exf, I.ok.bs, I.ok.bsz, I.ok.noex, I.ok.exfs, I.ok.funs, I.ok.frf⟩, I.os, I.bare, I.base, I.loc, I.cell, I.free, I.freeC, fun p hp => I.pin p (by
    show p ∈ (wp ++ X.pn) ++ pins
    rw [List.append_assoc]
    exact List.mem_append_right _ hp), I.hok, I.len⟩
/-- the instance's objects are nobody's -/
theorem raw_pins {C : Addr} {v : Value} {row : List V} (c : Con X pins G) (I : Inv X pins σ H s) (th : Thin G H) (r : WorldRaw G C s.heap v row) :
    ∃ (a dx t : Addr) (its : List Value) (wp : List (Addr × Obj)), v = .ref a ∧ WPin C a dx t its wp ∧ Vals row its ∧ ∀ p ∈ wp, s.heap.get? p.1 = some p.2 ∧ H p.1 = none ∧ p.1 ≠ X.env.locals ∧ p.1 ∉ X.fs ∧ ∀ v, p.2.data ≠ .cell v := by
  obtain ⟨a, dx, t, od, ot, its, mA, rfl, ne, ha, hdx, hns, hA, ht, htup, rv, la, ldx, lt⟩ := r
  have far : ∀ {b : Addr} {o : Obj}, G.L < b → s.heap.get? b = some o → (∀ its n, o ≠ { cls := .type "list", data := .seq its n }) → (∀ v, o.data ≠ .cell v) → s.heap.get? b = some o ∧ H b = none ∧ b ≠ X.env.locals ∧ b ∉ X.fs ∧ ∀ v, o.data ≠ .cell v := fun {b o} lb e nl nc => by
    refine ⟨e, ?_, Nat.ne_of_gt (Nat.lt_trans c.loc lb), fun z => ?_, nc⟩
    · cases q : H b with
      | none => rfl
      | some u =>
        rcases th _ _ q with h | ⟨xs, rfl⟩
        · exact absurd (Nat.lt_trans h lb) (Nat.lt_irrefl _)
        · obtain ⟨its', n, q2⟩ := lst_obj I q
          rw [e] at q2
          exact absurd (Option.some.inj q2) (nl _ _)
    · obtain ⟨_, o', ho, _⟩ := I.ok.funs.mem z
      exact absurd (Nat.lt_trans (Nat.lt_of_lt_of_le (Heap.lt_size ho) c.sz) lb) (Nat.lt_irrefl _)
  refine ⟨a, dx, t, its, [(a, PySem.W.instObj C dx), (dx, od), (t, ot)], rfl, ⟨ne, by simp, ⟨od, mA, by simp, hns, hA⟩, ⟨ot, by simp, htup⟩⟩, rv, fun p hp => ?_⟩
  obtain ⟨o1, es, ep, g1, g2, _⟩ := hns s.heap hdx
  obtain ⟨o2, k1, k2, k3⟩ := htup s.heap ht
  rw [hdx] at g1
  cases g1
  rw [ht] at k1
  cases k1
  rcases List.mem_cons.mp hp with h | hp
  · rw [h]
    exact far la ha (fun _ _ z => by cases z) fun v z => by cases z
  rcases List.mem_cons.mp hp with h | hp
  · rw [h]
    exact far ldx hdx (fun _ _ z => by
      have z' : od = _ := z
      rw [z'] at g2
      cases g2) fun v z => by
        have z' : od.data = _ := z
        rw [g2] at z'
        cases z'
  · rw [List.mem_singleton.mp hp]
    obtain ⟨n3, k3⟩ := k3
    refine far lt ht (fun _ _ z => ?_) fun v z => ?_
    · have z' : ot = _ := z
      rw [z'] at k2
      simp at k2
    · have z' : ot.data = _ := z
      rw [k3] at z'
      cases z'
end
end WL
namespace WL
open PySem PySem.Spec PyProof.Rows L2
abbrev WN : List Str := ["longest", "rows", "_", "row", "answer"]
abbrev mkG (P : Program) (w : World) (K : PySem.W.Frag) (mg : Str → Option Value) (base : Heap) (A : Around) (outer : List Env) (st : Stmt) (f : Addr) (cd : Value) (L a : Addr) (go : Obj) : GenF :=
  { P := P, w := w, K := K, mg := mg, base := base, A := A, outer := outer, N := WN, qual := "worlds", scope := defScope st, f := f, cd := cd, L := L, a := a, go := go }
/-- what is so of a run of the generator, for a longest within the bounds -/
def GenGood (P : Program) (w : World) (K : PySem.W.Frag) (mg : Str → Option Value) (base : Heap) (f : Addr) (st : Stmt) (C : Addr) (Ws : Nat → List (List V)) : Prop :=
  ∀ (A : Around) (outer : List Env) (cd : Value) (L a : Addr) (go : Obj), (mkG P w K mg base A outer st f cd L a go).Ok → ∀ (n : Nat) (s₀ : Shared) (H : Hp), n ≤ 10 → At (mkG P w K mg base A outer st f cd L a go) [] s₀ [] [some (.int n), none, none, none, none] H s₀ →
    Seg (model P w) A (RW (mkG P w K mg base A outer st f cd L a go)) (YW (mkG P w K mg base A outer st f cd L a go) C (Ws n)) (Ws n).length s₀ (.func (defBody st) (mkG P w K mg base A outer st f cd L a go).env) ((model P w).den (.func (defBody st) (mkG P w K mg base A outer st f cd L a go).env)) [] s₀
theorem made_gen {P : Program} {w : World} {K : PySem.W.Frag} {mg : Str → Option Value} {base : Heap} {A : Around} {outer : List Env} {s : Shared} {H : Hp} {f : Addr} {st : Stmt} {fd : FuncData} {v : Value} {k : Nat} (F : Fun K "worlds" "worlds" st f fd) (S : GScope WN ["longest"] (defScope st)) (hr : Room (k + 1) A) (e0 : Env0 P w K mg base A outer s H)
    (pl : ∀ y ∈ (defScope st).names, y.2 ≠ .cell ∧ y.2 ≠ .free) (hb : BindsTo s fd ⟨[v], []⟩ ((["longest"] : List Str).zip [v])) :
    codeAny (model P w) A (.call (.ref f) ⟨[v], []⟩) (fun r s' => ∃ (a : Addr) (go : Obj) (cdv : Value) (g : Nat), r = .ok (.ret (.ref a)) ∧ s.heap.objs.size < a ∧ s'.heap.get? a = some go ∧ isIt go = false ∧ (∀ v, go.data ≠ .cell v) ∧ (∀ h : Heap, h.get? a = some go → h.IsGen a g) ∧
      s'.gens[g]? = some (.fresh (.func (defBody st) (envOfC "worlds" (defScope st) s.heap.objs.size f cdv))) ∧ s'.os = s.os ∧ AllBare s'.gens ∧ (∀ b o, s.heap.get? b = some o → s'.heap.get? b = some o) ∧ ∃ m, s'.heap.Ns s.heap.objs.size m ∧ m "longest" = some v) s := by
  obtain ⟨oc, od, kV, doc, pm, an, cdv, ct, osl, rfl, lk, hcd⟩ := F.ex
  have KX : K.In s.heap := e0.mod.kin.keeps fun b o e => (e0.bs b o e).1
  have lim : s.heap.NoLimit := e0.mod.nolimit.keeps fun b o e => (e0.bs b o e).1
  have hkind : ∀ y ∈ (["longest"] : List Str).zip [v], (defScope st).names.lookup y.1 = some .local ∨ ((defScope st).names.lookup y.1 = some .cell ∧ ((cellsFrom (s.heap.objs.size + 1) (defScope st).names []).lookup y.1).isSome = true) := fun ⟨n, v⟩ hy => by
    rcases S.par n (List.of_mem_zip hy).1 with q | q
    · exact .inl q
    · exact .inr ⟨q, PySem.W.cellsFrom_some _ _ _ (.inl q)⟩
  refine codeAny_call_generator hr.depth (KX _ _ lk) rfl S.co S.gen rfl (PySem.W.codeRec_of KX hcd) (hb _ _ _ _ ?_)
  refine wpAny_newFunctionEnv_cells S.kind hkind fun env he s1 x => ?_
  subst he
  refine ⟨lim.keeps x.toInCall.keep, ?_⟩
  have hns := x.toInCall.ns
  obtain ⟨h1, tk, es1, hk1⟩ := x.done
  have gen1 : s1.gens = s.gens := by rw [es1]
  refine ⟨s1.heap.objs.size, _, cdv, s1.gens.size, rfl, hns.lt, Heap.get?_push_size _ rfl, rfl, fun v z => (by cases z), fun h e => ⟨_, _, _, e, rfl, rfl, rfl⟩, Array.getElem?_push_size .., by rw [es1], AllBare.push (by rw [gen1]; exact e0.bare) rfl, fun b o e => Heap.get?_push_of_some _ (x.toInCall.keep b o e), _, hns.at' fun o e => Heap.get?_push_of_some _ e, ?_⟩
  exact bindL_get (by simp) (i := 0) rfl rfl (by
    rcases S.par "longest" (by simp) with q | q
    · exact q
    · exact absurd rfl (kind_plain pl q).1)
end WL
namespace WL
open PySem PySem.Spec PyProof.Rows L2
/-- what was tracked, and lists -/
def Shp (H0 H : Hp) : Prop := ∀ b u, H b = some u → (∃ v, H0 b = some v) ∨ ∃ xs, u = .lst xs
/-- for x in worlds(n): body, a good n. S: the list that the body may change; Pv i: what holds ahead of turn i -/
def tForW (Ws : Nat → List (List V)) (j : Nat) (tb : Addr → Addr → List V → TS) : TS := fun D σ H => ∃ (n : Nat) (S : Addr) (Pv : Nat → L2.St → Hp → Prop), n ≤ 10 ∧ σ[0]? = some (some (.int n)) ∧ (∃ u, H S = some u) ∧ Pv 0 σ H ∧ (∀ i σ' H', Pv i σ' H' → Shp H H') ∧
  (∀ i row σ' H' a, (Ws n)[i]? = some row → Pv i σ' H' → tb S a row { D with nx := Pv (i + 1), ct := Pv (i + 1), bk := D.nx } (σ'.set j (some (.ref a))) H') ∧ ∀ σ' H', Pv (Ws n).length σ' H' → D.nx σ' H'
/-- between the turns -/
structure Tst (X : Cx) (pins : List (Addr × Obj)) (G : GenF) (C : Addr) (Ws : List (List V)) (g i : Nat) (σ : L2.St) (H : Hp) (s : Shared) : Prop where
  inv : Inv X pins σ H s
  thin : Thin G H
  ns : ∃ m, s.heap.Ns G.L m
  ga : s.heap.get? G.a = some G.go
  hi : i ≤ Ws.length
  gs : ∃ gs, s.gens[g]? = some gs ∧ gs.Goes (model X.prog X.w) X.A.in1 (RW G) (YW G C Ws) (Ws.length - i) (.send .none) (s.setGen g .running)
section
variable {X : Cx} {G : GenF} {pins : List (Addr × Obj)} {σ : L2.St} {H : Hp} {s s' : Shared}
theorem inv_gens {s' : Shared} (I : Inv X pins σ H s) (eh : s'.heap = s.heap) (os : s'.os = s.os) (bare : AllBare s'.gens) : Inv X pins σ H s' :=
  I.call' (ch := []) os (Un.kept fun b o e => by rw [eh]; exact e) (by rw [eh]; exact I.hok) bare fun b z => by simp at z
theorem slp_of (hb : G.base = X.base) (c : Con X pins G) (I : Inv X pins σ H s) {s1 : Shared} (os : s.os = s1.os) (keep : ∀ (b : Addr) (o : Obj), G.L ≤ b → s1.heap.get? b = some o → s.heap.get? b = some o) : Slp G s1 s :=
  ⟨os, I.bare, keep, fun b o e => I.bk b o (by rw [← hb]; exact e), by rw [hb, c.outer]; exact I.stack⟩
theorem slp_gens {s1 s2 : Shared} (z : Slp G s1 s2) {g : Nat} {x : GenState} (hx : x.bare = true) : Slp G s1 (s2.setGen g x) := ⟨z.os, allBare_setGen z.bare hx, z.keep, z.base, z.funs⟩
/-- the loop -/
theorem loop_w {C : Addr} {Ws : List (List V)} {g : Nat} {j S : Nat} {x : Str} {xp : Pos} {body : List Stmt} {tb : Addr → Addr → List V → TS} {D : Ends} {Pv : Nat → L2.St → Hp → Prop} (hp : PassesOwn (model X.prog X.w) X.A X.env X.xe) (hc : X.calm = true)
    (hb : G.base = X.base) (c : Con X pins G) (hN : X.N.Nodup) (hj : X.N[j]? = some x) (hx : X.env.scope.names.lookup x = some .local) (hS : S < G.L) (hLa : G.L < G.a) (hgo : isIt G.go = false) (hgen : ∀ h : Heap, h.get? G.a = some G.go → h.IsGen G.a g) (hgl : ∃ vs, G.go.cls = .type "generator" ∧ G.go.data = .fields vs) (hr : Room 2 X.A)
    (hbody : ∀ (wp : List (Addr × Obj)) (a dx t : Addr) (its : List Value) (row : List V), WPin C a dx t its wp → Vals row its → row ∈ Ws → QSs { X with pn := wp ++ X.pn } [S] body (tb S a row))
    (thin : ∀ i σ' H', Pv i σ' H' → Thin G H')
    (step : ∀ i row σ' H' a, Ws[i]? = some row → Pv i σ' H' → tb S a row { D with nx := Pv (i + 1), ct := Pv (i + 1), bk := D.nx } (σ'.set j (some (.ref a))) H') (done : ∀ σ' H', Pv Ws.length σ' H' → D.nx σ' H')
    (T : Tst X pins G C Ws g 0 σ H s) (h0 : Pv 0 σ H) :
    codeAny (model X.prog X.w) X.A (.forLoop (.Name x xp) (.ref G.a) body [] X.env) (fun r s' => match r with
      | .ok f => SP X pins D f s'
      | .error e => cameBackBy (model X.prog X.w) X.A X.env X.xe e s') s := by
  have line : ∀ {f : Flow} {s' : Shared}, SP X pins D f s' → SP X pins D f s' := fun h => h
  refine codeAny_mono (codeAny_forLoop_any (fun n s' => ∃ i σ' H', Tst X pins G C Ws g i σ' H' s' ∧ Pv i σ' H' ∧ n = Ws.length - i) ?_ (Ws.length - 0) ⟨0, σ, H, T, h0, rfl⟩) fun r s' h => h
  rintro n s3 ⟨i, σ3, H3, T3, p3, rfl⟩
  obtain ⟨gs, hgs, hgo3⟩ := T3.gs
  have hgl3 : g < s3.gens.size := (Array.getElem?_eq_some_iff.mp hgs).1
  have I3 := T3.inv
  refine wpAny_passesOwn hp ?_
  refine GenW.wpAny_gsz (n := g + 1) hgl3 (next_genG (F := FW G) (Er := fun _ _ => False) (I3.ok.hd hc) I3.nolimit (by have := hr.dp; omega) (hgen _ T3.ga) hgs hgo3 (fun v s₁ gs' hbare hv hsz => ?_) (fun s₁ hf h' hk _ => ?_) fun e s₁ he => he.elim)
  · -- an item
    obtain ⟨hlt, ⟨row, hrow, raw⟩, os1, bare1, keep1, ns1, hk⟩ := hv
    have hsz1 : g < s₁.gens.size := by
      have q : (s₁.setGen g gs').gens.size = s₁.gens.size := GenW.setGen_size _ _ _
      have hsz' : g + 1 ≤ (s₁.setGen g gs').gens.size := hsz
      omega
    have I1 : Inv X pins σ3 H3 s₁ := inv_turn c I3 ⟨keep1.low, keep1.fr, keep1.high⟩ os1 bare1 T3.thin T3.ns
    cases hm : Ws.length - i with
    | zero =>
      rw [hm] at hk
      exact (hk s₁ (slp_of hb c I1 rfl fun _ _ _ e => e)).elim
    | succ m =>
      rw [hm] at hk
      have hidx : Ws[i]? = some row := by
        have e : Ws.length - 1 - (Ws.length - i - 1) = i := by have := T3.hi; omega
        rw [e] at hrow
        exact hrow
      have I4 : Inv X pins σ3 H3 (s₁.setGen g gs') := inv_gens I1 rfl rfl (allBare_setGen bare1 hbare)
      obtain ⟨a, dx, t, its, wp, rfl, W, rv, hwp⟩ := raw_pins (s := s₁.setGen g gs') c I4 T3.thin raw
      refine wpAny_passesOwn hp ?_
      have ga1 : s₁.heap.get? G.a = some G.go := keep1.high _ _ hLa hgo T3.ga
      obtain ⟨vs, hcls, hdat⟩ := hgl
      refine go_of (it := G.a) ga1 hcls hdat (by decide) ?_
      have I5 := inv_pn I4 hwp
      refine wpAny_passesOwn hp ?_
      refine assign_q (X := { X with pn := wp ++ X.pn }) I5 hN hj hx (v := .ref a) rfl fun s5 k5 I6 => ?_
      refine wpAny_passesOwn hp (thn ((hbody wp a dx t its row W rv (List.mem_of_getElem? hidx)).run pins s5 _ H3 _ I6 (step i row σ3 H3 a hidx p3)) fun f s6 q6 => ?_)
      obtain ⟨k6, q6⟩ := q6
      have again : ∀ {σ7 : L2.St} {H7 : Hp}, Inv { X with pn := wp ++ X.pn } pins σ7 H7 s6 → Pv (i + 1) σ7 H7 → ∃ m', m' < m + 1 ∧ ∃ i σ' H', Tst X pins G C Ws g i σ' H' s6 ∧ Pv i σ' H' ∧ m' = Ws.length - i := fun {σ7 H7} I7 p7 => by
        have I8 := inv_unpn I7
        have keep : ∀ (b : Addr) (o : Obj), G.L ≤ b → s₁.heap.get? b = some o → s6.heap.get? b = some o := fun b o hl e =>
          k6.keep b o (fun z => by
            rw [List.mem_singleton.mp z] at hl
            exact absurd (Nat.lt_of_lt_of_le hS hl) (Nat.lt_irrefl _)) (k5.keep b o (fun z => by
              rw [List.mem_singleton.mp z] at hl
              exact absurd (Nat.lt_of_lt_of_le c.loc hl) (Nat.lt_irrefl _)) e)
        refine ⟨m, Nat.lt_succ_self _, i + 1, σ7, H7, ⟨I8, thin _ _ _ p7, ?_, keep _ _ (Nat.le_of_lt hLa) ga1, by omega, gs', ?_, ?_⟩, p7, by omega⟩
        · obtain ⟨mm, hns⟩ := ns1
          exact ⟨mm, hns.at' fun o e => keep _ _ (Nat.le_refl _) e⟩
        · rw [k6.gens, k5.gens]
          exact setGen_at hsz1
        · have e : Ws.length - (i + 1) = m := by omega
          rw [e]
          refine hk _ (slp_gens (slp_of hb c I8 ?_ keep) rfl)
          exact I8.os.trans I1.os.symm
      cases f with
      | next => obtain ⟨σ7, H7, I7, p7⟩ := q6; exact again I7 p7
      | cont => obtain ⟨σ7, H7, I7, p7⟩ := q6; exact again I7 p7
      | brk => obtain ⟨σ7, H7, I7, q7⟩ := q6; exact ⟨σ7, H7, inv_unpn I7, q7⟩
      | ret v => obtain ⟨x7, σ7, H7, I7, r7, q7⟩ := q6; exact ⟨x7, σ7, H7, inv_unpn I7, r7, q7⟩
  · -- the end
    obtain ⟨hz, os1, bare1, keep1⟩ := hf
    have ei : i = Ws.length := by have := T3.hi; omega
    subst ei
    have I1 : Inv X pins σ3 H3 s₁ := inv_turn c I3 ⟨keep1.low, keep1.fr, keep1.high⟩ os1 bare1 T3.thin T3.ns
    have I2 : Inv X pins σ3 H3 (s₁.setGen g .finished) := inv_gens I1 rfl rfl (allBare_setGen bare1 rfl)
    exact wpAny_execs_nil ⟨σ3, H3, I2.kept (t' := s₁.toks) hk, done _ _ p3⟩
end
end WL
namespace WL
open PySem PySem.Spec PyProof.Rows L2
section
variable {X : Cx} {f C : Addr} {st : Stmt} {fd : FuncData} {Ws : Nat → List (List V)} {body : List Stmt} {tb : Addr → Addr → List V → TS} {j : Nat} {x : Str} {xp p pos pos' : Pos} {arg : Expr}
theorem frs_low {pins : List (Addr × Obj)} {σ : L2.St} {H : Hp} {s : Shared} (I : Inv X pins σ H s) : ∀ b ∈ frs X.stack, b < s.heap.objs.size := fun b hb => by
  rcases List.mem_cons.mp (I.stkSub b hb) with z | z
  · rw [z]; exact I.lt
  · obtain ⟨_, o, ho, _⟩ := I.ok.funs.mem z
    exact Nat.lt_of_lt_of_le (Heap.lt_size ho) I.sz
/-- the call worlds(arg): what stands behind it -/
structure Mw (X : Cx) (pins : List (Addr × Obj)) (σ : L2.St) (H : Hp) (st : Stmt) (f : Addr) (v : Value) (G : GenF) (g : Nat) (s : Shared) : Prop where
  inv : Inv X pins σ H s
  con : Con X pins G
  base : G.base = X.base
  thin : ∀ b u, H b = some u → b < G.L
  ns : ∃ m, s.heap.Ns G.L m ∧ m "longest" = some v
  ga : s.heap.get? G.a = some G.go
  isI : isIt G.go = false
  gen : ∀ h : Heap, h.get? G.a = some G.go → h.IsGen G.a g
  ok : G.Ok
  gs : s.gens[g]? = some (.fresh (.func (defBody st) G.env))
  eq : ∃ (cdv : Value) (L a : Addr) (go : Obj), G = mkG X.prog X.w X.K X.mg X.base X.A.in1 X.stack st f cdv L a go
/-- the call -/
theorem call_w {pins : List (Addr × Obj)} {σ : L2.St} {H : Hp} {s : Shared} {E : Value → Shared → Prop} {v : Value} (F : Fun X.K "worlds" "worlds" st f fd) (S : GScope WN ["longest"] (defScope st)) (pl : ∀ y ∈ (defScope st).names, y.2 ≠ .cell ∧ y.2 ≠ .free) (hb : Binds X.K fd ["longest"] []) (hr : Room 10 X.A) (I : Inv X pins σ H s) :
    wpAny (model X.prog X.w) X.A (call (.ref f) [v]) (fun u s' => ∃ G g, u = .ref G.a ∧ Mw X pins σ H st f v G g s') E s := by
  refine wpAny_call (codeAny_mono (made_gen (k := 9) F S hr I.env0 pl (hb s [v] I.kIn rfl)) fun r s' hq => ?_)
  obtain ⟨a, go, cdv, g, rfl, hla, hga, hi, hcell, hgen, hgs, os, bare, keep, m, hns, hm⟩ := hq
  have I1 : Inv X pins σ H s' := I.call' (ch := []) os (Un.kept keep) (I.hok.kept keep) bare fun b z => by simp at z
  refine ⟨mkG X.prog X.w X.K X.mg X.base X.A.in1 X.stack st f cdv s.heap.objs.size a go, g, rfl, I1, ⟨rfl, I.sz, I.lt, fun y c e => ?_, fun q hq => Heap.lt_size (I.pin q hq).1⟩, rfl, fun b u e => (I.hok b u e).lt, ⟨m, hns, hm⟩, hga, hi, hgen,
    ⟨hr.in1.mono (by decide), I.ok.frames, I.ok.mod, Nat.le_trans I.ok.bsz I.sz, S.kind, pl, frs_low I, hla, hcell⟩, hgs, cdv, _, a, go, rfl⟩
  obtain ⟨w, ob, ho, _⟩ := I.cell y c e
  exact Heap.lt_size ho
theorem first_at {pins : List (Addr × Obj)} {σ : L2.St} {H : Hp} {s : Shared} {n : Int} {t : Tok} {G : GenF} {g : Nat} (S : GScope WN ["longest"] (defScope st)) (M : Mw X pins σ H st f (.int n t) G g s) :
    At G [] (s.setGen g .running) [] [some (.int n), none, none, none, none] (wakeH G [] (s.setGen g .running).heap fun _ => none) (s.setGen g .running) := by
  have I := M.inv
  obtain ⟨m, hns, hm⟩ := M.ns
  have hN : G.N = WN := by
    obtain ⟨cdv, L, a, go, rfl⟩ := M.eq
    rfl
  have hz : HOk G.P G.w (fun _ => none) (s.setGen g .running).heap := fun b u e => by cases e
  refine ⟨G.wake M.ok (allBare_setGen I.bare rfl) (fun b o e => I.bk b o (by rw [← M.base]; exact e)) (by rw [M.base, M.con.outer]; exact I.stack) (fun b u e => wakeH_low e) (wakeH_ok hz fun b o _ e => e) (by rw [hN]; rfl) ⟨m, hns, fun i y v h1 h2 h3 => ?_⟩ fun p hp => ?_, .refl, hns.lt, ⟨_, wakeH_cov, Same.refl _⟩, M.ga, fun b hb => (by cases hb), fun b hb => (by cases hb)⟩
  · rw [hN] at h1
    match i, h1, h2 with
    | 0, h1, h2 =>
      cases h1
      cases h2
      exact ⟨_, ⟨_, rfl⟩, hm⟩
    | 1, _, h2 => cases h2
    | 2, _, h2 => cases h2
    | 3, _, h2 => cases h2
    | 4, _, h2 => cases h2
    | k + 5, _, h2 => simp at h2
  · rw [List.mem_singleton.mp hp]
    exact ⟨M.ga, wakeH_out (.inr (.inl rfl)), M.ok.aL, M.ok.goc⟩
/-- for x in worlds(arg): body -/
theorem ps_forW (GG : GenGood X.prog X.w X.K X.mg X.base f st C Ws) (F : Fun X.K "worlds" "worlds" st f fd) (S : GScope WN ["longest"] (defScope st)) (pl : ∀ y ∈ (defScope st).names, y.2 ≠ .cell ∧ y.2 ≠ .free) (hb : Binds X.K fd ["longest"] [])
    (hg : Gl X "worlds") (hm : X.mg "worlds" = some (.ref f)) (hk : PySem.W.keepIn X.K (.ref f) = true) (hr : Room 10 X.A) (hp : PassesOwn (model X.prog X.w) X.A X.env X.xe) (hc : X.calm = true) (hN : X.N.Nodup) (hj : X.N[j]? = some x) (hx : X.env.scope.names.lookup x = some .local) (ha : PE X arg (tVar 0))
    (hbody : ∀ (S : Addr) (wp : List (Addr × Obj)) (a dx t : Addr) (its : List Value) (row : List V), WPin C a dx t its wp → Vals row its → (∃ n, n ≤ 10 ∧ row ∈ Ws n) → QSs { X with pn := wp ++ X.pn } [S] body (tb S a row))
    (he : starEach [arg] X.env = (false, eval arg X.env) :: starEach [] X.env := by rfl) (hpl : (backTo pos' (starEach [] X.env)).any (·.1) = false := by rfl)
    (hs : ∀ y, foldedSetIterable (.Call (.Name "worlds" p) [arg] [] pos') X.env y = pure y := by intro _; rfl) :
    PS X (.For (.Name x xp) (.Call (.Name "worlds" p) [arg] [] pos') body [] pos) (tForW Ws j tb) := by
  refine ⟨fun pins s σ H D I h => ?_⟩
  obtain ⟨n, Sx, Pv, hn, hσ, ⟨uS, hSx⟩, p0, shp, step, done⟩ := h
  refine wpAny_For ?_ hs
  refine wpAny_Call_Name_kw (ld_glob I hg hm ?_ (by decide))
  refine PySem.W.callWith_K (h₀ := X.base) I.ok.mod.kin hk (thn ((pa_cons ha pa_nil (hs := he)).run pos' pins s σ H (fun vs H1 => vs = [.int n] ∧ H1 = H) I ⟨_, hσ, rfl, rfl⟩) fun us s1 ⟨vs, H1, I1, r1, ev, eH⟩ => ⟨I1.kIn, ?_⟩) he hpl
  subst ev
  subst eH
  obtain ⟨u, rfl, ru⟩ := r1.one
  obtain ⟨tk, rfl⟩ := ru
  refine thn (call_w F S pl hb hr I1) fun v s2 ⟨G, g, ev, M⟩ => ?_
  subst ev
  refine wpAny_pyIter_gen (M.gen _ M.ga) ?_
  have hgl : ∃ vs, G.go.cls = .type "generator" ∧ G.go.data = .fields vs := by
    obtain ⟨o, nm, qn, e1, e2, e3, _⟩ := M.gen _ M.ga
    rw [M.ga] at e1
    cases e1
    exact ⟨_, e2, e3⟩
  have thin : ∀ i σ' H', Pv i σ' H' → Thin G H' := fun i σ' H' q b u e => by
    rcases shp i σ' H' q b u e with ⟨v, e0⟩ | z
    · exact .inl (M.thin b v e0)
    · exact .inr z
  have at0 := first_at S M
  obtain ⟨m, hns, hm0⟩ := M.ns
  refine loop_w (G := G) (C := C) (Ws := Ws n) (g := g) (S := Sx) hp hc M.base M.con hN hj hx (M.thin _ _ hSx) M.ok.aL M.isI M.gen hgl (hr.mono (by decide)) (fun wp a dx t its row W rv hm => hbody Sx wp a dx t its row W rv ⟨n, hn, hm⟩) thin step done ⟨M.inv, thin _ _ _ p0, ⟨m, hns⟩, M.ga, Nat.zero_le _, _, M.gs, ?_⟩ p0
  obtain ⟨cdv, L, a, go, eG⟩ := M.eq
  subst eG
  exact ⟨rfl, GG _ _ _ _ _ _ M.ok n _ _ hn at0⟩
end
end WL
namespace WL
open PySem PySem.Spec PyProof.Rows L2 ClX
def top (i : Nat) : Stmt := PySem.Challenge.pw_exitdeeds_k15_whole_worlds_listed.main.body.getD i (.Pass ⟨0, 0, 0, 0⟩)
abbrev sNumI : Stmt := inClass (top 3) 0
abbrev sWorldI : Stmt := inClass (top 9) 0
abbrev sWorldLen : Stmt := inClass (top 9) 3
abbrev sWorldIter : Stmt := inClass (top 9) 4
abbrev sWorlds : Stmt := top 10
abbrev sPool : Stmt := top 12
abbrev sMixed : Stmt := top 13
abbrev sDraw : Stmt := top 14
abbrev sSame : Stmt := top 15
abbrev sSingle : Stmt := top 16
abbrev sRows : Stmt := top 17
abbrev sFound : Stmt := top 18
abbrev sLaw : Stmt := top 19
/-- D.__init__ is the base's own -/
structure DBase (K : PySem.W.Frag) (mg : Str → Option Value) (D : Addr) : Prop where
  g : mg "DeedError" = some (.ref D)
  rd : CRead K D (.type "type")
  at_ : PySem.W.findCls K (.ref D) (.type "type") "__init__" = some (.val (.builtin "ValueError.__init__"))
section
variable {X : Cx} {e : Expr} {es : List Expr} {ta : TA} {p1 p2 pos : Pos} {D : Addr}
theorem pe_dinit {pl : Sem Bool} (B : DBase X.K X.mg D) (hg : Gl X "DeedError") (ha : PA X (e :: es) ta)
    (hc : eval (.Call (.Attribute (.Name "DeedError" p1) "__init__" p2) (e :: es) [] pos) X.env = (do
      let ov ← eval (.Name "DeedError" p1) X.env
      standAt p2.atName
      let (f, first) ← holding [ov] (getMethod ov "__init__" pl)
      callWith pos f first (backTo pos (starEach (e :: es) X.env)) (backToKw pos (keywordEach [] X.env))) := by rfl)
    (he : starEach (e :: es) X.env = (false, eval e X.env) :: starEach es X.env := by rfl) (hpl : (backTo pos (starEach es X.env)).any (·.1) = false := by rfl) :
    PE X (.Call (.Attribute (.Name "DeedError" p1) "__init__" p2) (e :: es) [] pos) (tVeI X.K ta) := by
  refine ⟨fun pins s σ H Q I h => ?_⟩
  refine PySem.W.methodCall_KW (ld_glob I hg B.g ?_ (by decide)) hc
  refine PySem.W.method_cls I.kIn B.rd.ga (PySem.W.cls_value I.kIn B.rd.rd B.at_ (by decide +kernel) ?_)
  show wpAny _ _ (callWith pos (Value.builtin "ValueError.__init__") [] (backTo pos (starEach (e :: es) X.env)) []) _ _ _
  refine PyProof.Rows.callWith_method1 (thn (ha.run pos pins _ σ H _ (I.tok _) h) fun us s1 ⟨vs, H1, I1, r1, a, C, ws, ev, hl, T, ea, q⟩ => ?_) he hpl
  subst ev
  cases r1 with
  | @cons _ u0 _ ur ra rw' =>
    obtain rfl : u0 = Value.ref a := ra
    have hlen : ur.length ≤ sizeLine := by
      rw [← Paired.length rw', sizeLine_eq]
      omega
    exact oinit_ok T I1 ea hlen fun s' J => ⟨.non, H1, J, rfl, q⟩
end
/-- BadNumber.__init__ -/
def spInitX (K : PySem.W.Frag) (C : Addr) : Sp := fun vs H Q _ => ∃ (a : Addr) (y : V), vs = [.ref a, y] ∧ H a = some (exo a C none) ∧ ∀ dx, H dx = none → dx ≠ a → Q .non (upd (upd H dx (exd dx [("number", y)])) a (exo a C (some dx)))
theorem scN : FnScope ["self", "number"] ["self", "number"] (defScope sNumI) := ⟨rfl, rfl, rfl, by decide +kernel, rfl, by decide +kernel, by decide +kernel⟩
theorem ok_initN {P : Program} {w : World} {K : PySem.W.Frag} {mg : Str → Option Value} {base : Heap} {f D C : Addr} {fd : FuncData} (F : Fun K "__init__" "BadNumber.__init__" sNumI f fd) (B : DBase K mg D) (T : OexC K C) (no : PySem.W.findIn K (.ref C) "number" = some none) :
    FnOk P w K mg base CX0 1 f fd ["self", "number"] (spInitX K C) := by
  refine F.ok scN (fun vs H Q E h => ?_) (fun cdv A outer s H vs Q E hr h => ⟨tSeq (tDrop (tVeI K (tCons (tVar 0) (tCons (tC (.str "number out of range")) tNil)))) (tOst K "number" (tVar 0) (tVar 1)), PSs.nox ?_, ?_⟩)
  · obtain ⟨a, y, rfl, _⟩ := h
    rfl
  · exact pss_cons (ps_expr (pe_dinit B rfl (pa_cons (pv 0) (pa_cons pe_str pa_nil)))) (pss_one (ps_ost (pv 0) (pv 1)))
  · obtain ⟨a, y, rfl, ha, q⟩ := h
    refine ⟨_, rfl, a, C, [.str "number out of range"], rfl, by decide, T, ha, ?_⟩
    exact ⟨_, rfl, _, rfl, a, C, rfl, T, no, .inl ⟨ha, fun dx hd ne => q dx hd ne⟩⟩
end WL
namespace WL
open PySem PySem.Spec PyProof.Rows L2 ClX
/-- what the top has written of BadNumber -/
structure NumC (K : PySem.W.Frag) (mg : Str → Option Value) (C fI D : Addr) (fdI : FuncData) : Prop where
  g : mg "BadNumber" = some (.ref C)
  T : OexC K C
  iC : PySem.W.findIn K (.ref C) "__init__" = some (some (.ref fI))
  tI : PySem.W.typeIn K (.ref fI) = some (.type "function")
  F : Fun K "__init__" "BadNumber.__init__" sNumI fI fdI
  b : Binds K fdI ["self", "number"] []
  no : PySem.W.findIn K (.ref C) "number" = some none
  B : DBase K mg D
abbrev stIf : Stmt := (defBody sWorlds).getD 0 (.Pass ⟨0, 0, 0, 0⟩)
def tTestN : TT := tNot (tTest (tChain (rI0 fun i j => .bl (decide (i ≤ j))) (rI0 fun i j => .bl (decide (i ≤ j))) (tC (.int 0)) (tVar 0) (tC (.int 10))))
def tRaiseN (K : PySem.W.Frag) (C : Addr) (W : WX) : TS := fun _ σ H => tMkO C (spInitX K C) [] (tCons (tVar 0) tNil) σ H fun cls d H' => W cls d σ H'
section
variable {X : Cx} {C fI D : Addr} {fdI : FuncData} {W : WX}
theorem ps_ifN (T : NumC X.K X.mg C fI D fdI) (hN : X.N[0]? = some ("longest" : Str)) (hv : X.env.scope = defScope sWorlds) (hL : ∃ t, X.mg "LONGEST" = some (.int 10 t)) (hc : X.calm = true) (hr : Room 2 X.A) (tk : Takes X W) :
    PS X stIf (tIfS tTestN (tSeq (tRaiseN X.K C W) tNext) tNext) := by
  obtain ⟨tL, hL⟩ := hL
  have hl : (defScope sWorlds).names.lookup ("longest" : Str) = some .local := by decide +kernel
  have pv0 : ∀ {p : Pos}, PE X (.Name "longest" p) (tVar 0) := fun {p} => pe_var hN (.inl (by rw [hv]; exact hl))
  refine ps_if (pt_not (pt_chain op_le op_le pe_int pv0 (pe_glob (by show List.lookup _ X.env.scope.names = _; rw [hv]; decide +kernel) hL ⟨_, rfl⟩))) (pss_cons (ps_raise hc tk (pmk_oex T.T T.iC T.tI (ok_initN T.F T.B T.T T.no) hr T.b .nil pass0 (by show List.lookup _ X.env.scope.names = _; rw [hv]; decide +kernel) T.g (pa_cons pv0 pa_nil))) pss_nil) pss_nil
/-- the test of a good number -/
theorem pure_okIf {K : PySem.W.Frag} {C : Addr} {W : WX} {D : Ends} {σ : L2.St} {H : Hp} (h : tOkIf D σ H) : tIfS tTestN (tSeq (tRaiseN K C W) tNext) tNext D σ H := by
  obtain ⟨n, h1, h2, q⟩ := h
  refine ⟨_, h1, 0, (n : Int), rfl, rfl, true, congrArg V.bl (decide_eq_true (Int.natCast_nonneg n)), (n : Int), 10, rfl, rfl, true, congrArg V.bl (decide_eq_true (by omega)), ?_⟩
  exact q
/-- of a bad one -/
def tBadIf (C : Addr) (W : WX) : TS := fun _ σ H => ∃ n : Int, σ[0]? = some (some (.int n)) ∧ ¬ (0 ≤ n ∧ n ≤ 10) ∧ ∀ d, H d = none → W (.ref C) (some d) σ (upd H d (.xd [("number", .int n)]))
theorem pure_badIf {K : PySem.W.Frag} {C : Addr} {W : WX} {D : Ends} {σ : L2.St} {H : Hp} (h : tBadIf C W D σ H) : tIfS tTestN (tSeq (tRaiseN K C W) tNext) tNext D σ H := by
  obtain ⟨n, h1, h2, q⟩ := h
  have mk : tRaiseN K C W { D with nx := tNext D } σ H := by
    refine ⟨_, h1, (by show 1 ≤ 1000; decide), fun a ha => ⟨a, .int n, rfl, upd_same, fun dx hdx hne => ⟨rfl, dx, [(("number" : Str), .int n)], upd_same, ?_, ?_, ?_⟩⟩⟩
    · rw [upd_ne hne]; exact upd_same
    · rw [upd_ne hne] at hdx; exact hdx
    · rw [upd_ne hne] at hdx
      have e : upd (del (upd (upd (upd H a (exo a C none)) dx (exd dx [("number", .int n)])) a (exo a C (some dx))) a) dx (.xd [("number", .int n)]) = upd H dx (.xd [("number", .int n)]) := by
        funext b
        by_cases hb : b = dx
        · rw [hb, upd_same, upd_same]
        · rw [upd_ne hb, upd_ne hb]
          by_cases hba : b = a
          · rw [hba, del_same, ha]
          · rw [del_ne hba, upd_ne hba, upd_ne hb, upd_ne hba]
      rw [e]
      exact q dx hdx
  by_cases h0 : 0 ≤ n
  · refine ⟨_, h1, 0, n, rfl, rfl, true, congrArg V.bl (decide_eq_true h0), n, 10, rfl, rfl, false, congrArg V.bl (decide_eq_false (by omega)), ?_⟩
    exact mk
  · refine ⟨_, h1, 0, n, rfl, rfl, false, congrArg V.bl (decide_eq_false h0), ?_⟩
    exact ⟨false, rfl, mk⟩
end
end WL
namespace WL
open PySem PySem.Spec PyProof.Rows L2 ClX
/-- the call of worlds: the frame that the generator will run in -/
theorem made_genB {P : Program} {w : World} {K : PySem.W.Frag} {mg : Str → Option Value} {base : Heap} {A : Around} {outer : List Env} {s : Shared} {H : Hp} {f : Addr} {st : Stmt} {fd : FuncData} {x : V} {v : Value} {k : Nat} (F : Fun K "worlds" "worlds" st f fd) (S : GScope WN ["longest"] (defScope st)) (hr : Room (k + 1) A) (e0 : Env0 P w K mg base A outer s H)
    (hb : BindsTo s fd ⟨[v], []⟩ ((["longest"] : List Str).zip [v])) (rx : RelV x v) :
    codeAny (model P w) A (.call (.ref f) ⟨[v], []⟩) (fun r s' => ∃ (a : Addr) (go : Obj) (cdv : Value) (g : Nat), r = .ok (.ret (.ref a)) ∧ s.heap.objs.size < a ∧ s'.heap.get? a = some go ∧ (∀ v, go.data ≠ .cell v) ∧ (∀ h : Heap, h.get? a = some go → h.IsGen a g) ∧
      s'.gens[g]? = some (.fresh (.func (defBody st) (envOfC "worlds" (defScope st) s.heap.objs.size f cdv))) ∧ s'.os = s.os ∧ AllBare s'.gens ∧ (∀ b o, s.heap.get? b = some o → s'.heap.get? b = some o) ∧
      ∀ (A' : Around) (E : XK) (s2 : Shared), A'.handled = none → A'.frames = some outer → s2.heap = s'.heap → s2.os = s'.os → AllBare s2.gens → Inv (gcxOf P w K mg base WN "worlds" (defScope st) f cdv A' outer s H E [(a, go)]) [] (start WN [x]) H s2) s := by
  obtain ⟨oc, od, kV, doc, pm, an, cdv, ct, osl, rfl, lk, hcd⟩ := F.ex
  have KX : K.In s.heap := e0.mod.kin.keeps fun b o e => (e0.bs b o e).1
  have lim : s.heap.NoLimit := e0.mod.nolimit.keeps fun b o e => (e0.bs b o e).1
  have hkind : ∀ y ∈ (["longest"] : List Str).zip [v], (defScope st).names.lookup y.1 = some .local ∨ ((defScope st).names.lookup y.1 = some .cell ∧ ((cellsFrom (s.heap.objs.size + 1) (defScope st).names []).lookup y.1).isSome = true) := fun ⟨n, v⟩ hy => by
    rcases S.par n (List.of_mem_zip hy).1 with q | q
    · exact .inl q
    · exact .inr ⟨q, PySem.W.cellsFrom_some _ _ _ (.inl q)⟩
  refine codeAny_call_generator hr.depth (KX _ _ lk) rfl S.co S.gen rfl (PySem.W.codeRec_of KX hcd) (hb _ _ _ _ ?_)
  refine wpAny_newFunctionEnv_cells S.kind hkind fun env he s1 xx => ?_
  subst he
  refine ⟨lim.keeps xx.toInCall.keep, ?_⟩
  have hns := xx.toInCall.ns
  obtain ⟨h1, tk, es1, hk1⟩ := xx.done
  have gen1 : s1.gens = s.gens := by rw [es1]
  have os1 : s1.os = s.os := by rw [es1]
  refine ⟨s1.heap.objs.size, _, cdv, s1.gens.size, rfl, hns.lt, Heap.get?_push_size _ rfl, fun v z => (by cases z), fun h e => ⟨_, _, _, e, rfl, rfl, rfl⟩, Array.getElem?_push_size .., by rw [es1], AllBare.push (by rw [gen1]; exact e0.bare) rfl, fun b o e => Heap.get?_push_of_some _ (xx.toInCall.keep b o e), fun A' E s2 hh hf eh eo hba => ?_⟩
  have e0' : Env0 P w K mg base A' outer s H := ⟨hf, e0.mod, e0.bs, e0.bsz, e0.funs, e0.frf, e0.hok, e0.bare⟩
  have I1 : Inv (gcxOf P w K mg base WN "worlds" (defScope st) f cdv A' outer s H E []) [] (start WN [x]) H s1 := inv_startG S hh e0' rfl (.cons rx .nil) xx
  have kp : ∀ b o, s1.heap.get? b = some o → s2.heap.get? b = some o := fun b o e => by rw [eh]; exact Heap.get?_push_of_some _ e
  have I2 : Inv (gcxOf P w K mg base WN "worlds" (defScope st) f cdv A' outer s H E []) [] (start WN [x]) H s2 :=
    I1.call' (ch := []) (eo.trans (by first | rfl | rw [os1])) (Un.kept kp) (I1.hok.kept kp) hba fun b z => by simp at z
  refine Inv.pinnedG I2 fun p hp => ?_
  rw [List.mem_singleton.mp hp]
  refine ⟨by rw [eh]; exact Heap.get?_push_size _ rfl, I1.hok.fresh (Nat.le_refl _), Nat.ne_of_gt hns.lt, I1.nofs (Nat.le_refl _), fun v z => by cases z⟩
section
variable {X : Cx} {f C fI D : Addr} {fd fdI : FuncData} {body : List Stmt} {x : Str} {xp p pos pos' : Pos} {arg : Expr} {W : WX}
/-- for x in worlds(arg), arg out of bounds: the error -/
theorem ps_forBad (T : NumC X.K X.mg C fI D fdI) (hL : ∃ t, X.mg "LONGEST" = some (.int 10 t)) (F : Fun X.K "worlds" "worlds" sWorlds f fd) (S : GScope WN ["longest"] (defScope sWorlds)) (hb : Binds X.K fd ["longest"] [])
    (hns : PySem.W.subIn X.K (.ref C) (.type "StopIteration") = some false)
    (hg : Gl X "worlds") (hm : X.mg "worlds" = some (.ref f)) (hk : PySem.W.keepIn X.K (.ref f) = true) (hr : Room 10 X.A) (hp : PassesOwn (model X.prog X.w) X.A X.env X.xe) (hc : X.calm = true) (tk : Takes X W) (ha : PE X arg (tVar 0))
    (he : starEach [arg] X.env = (false, eval arg X.env) :: starEach [] X.env := by rfl) (hpl : (backTo pos' (starEach [] X.env)).any (·.1) = false := by rfl)
    (hs : ∀ y, foldedSetIterable (.Call (.Name "worlds" p) [arg] [] pos') X.env y = pure y := by intro _; rfl) :
    PS X (.For (.Name x xp) (.Call (.Name "worlds" p) [arg] [] pos') body [] pos) (tBadIf C W) := by
  refine ⟨fun pins s σ H De I h => ?_⟩
  obtain ⟨n, hσ, hbad, hW⟩ := h
  refine wpAny_For ?_ hs
  refine wpAny_Call_Name_kw (ld_glob I hg hm ?_ (by decide))
  refine PySem.W.callWith_K (h₀ := X.base) I.ok.mod.kin hk (thn ((pa_cons ha pa_nil (hs := he)).run pos' pins s σ H (fun vs H1 => vs = [.int n] ∧ H1 = H) I ⟨_, hσ, rfl, rfl⟩) fun us s1 ⟨vs, H1, I1, r1, ev, eH⟩ => ⟨I1.kIn, ?_⟩) he hpl
  subst ev
  subst eH
  obtain ⟨u, rfl, ru⟩ := r1.one
  refine wpAny_call (codeAny_mono (made_genB (k := 9) F S hr I1.env0 (hb s1 [u] I1.kIn rfl) ru) fun r s2 hq => ?_)
  obtain ⟨a, go, cdv, g, rfl, hla, hga, hcell, hgen, hgs, os, bare, keep, inv⟩ := hq
  have I2 : Inv X pins σ H1 s2 := I1.call' (ch := []) os (Un.kept keep) (I1.hok.kept keep) bare fun b z => by simp at z
  refine wpAny_pyIter_gen (hgen _ hga) ?_
  refine codeAny_forLoop_any (fun _ s' => s' = s2) ?_ 0 rfl
  rintro m s3 rfl
  refine wpAny_passesOwn hp ?_
  have I0 := inv X.A.in1 (fun cls d H' => cls = .ref C ∧ W cls d σ H') (s3.setGen g .running) (I2.ok.hd hc) I2.ok.frames rfl rfl (allBare_setGen I2.bare rfl)
  refine next_genG (n := 0) (Y := fun _ _ _ _ _ => False) (F := fun _ _ _ => False) (Er := fun e s₁ => CX X.prog X.w X.stack H1 s1 (fun cls d H' => cls = .ref C ∧ W cls d σ H') e s₁ ∧ s₁.heap.get? a = some go) (I2.ok.hd hc) I2.nolimit (by have := hr.dp; omega) (hgen _ hga) hgs ⟨rfl, ?_⟩ (fun v s₁ gs' hbare hv => hv.elim) (fun s₁ hf h' hk => hf.elim) fun e s₁ he => ?_
  · refine seg_func ?_
    refine seg_execs_cons ?_
    refine seg_wrap ?_
    rw [GenW.over_func]
    have hif := ps_ifN (X := gcxOf X.prog X.w X.K X.mg X.base WN "worlds" (defScope sWorlds) f cdv X.A.in1 X.stack s1 H1 (fun cls d H' => cls = .ref C ∧ W cls d σ H') [(a, go)]) T rfl rfl hL rfl ((hr.in1.mono (by decide : 3 ≤ 9)).deeper _) takes_gcx
    refine wpAny_mono (hif.run [] _ (start WN [.int n]) H1 { nx := fun _ _ => False, rt := fun _ _ => False } I0 (pure_badIf ⟨n, rfl, hbad, fun d hd => ⟨rfl, hW d hd⟩⟩)) (fun fl s' hs => ?_) fun e s' hx => ?_
    · cases fl with
      | next => obtain ⟨_, _, _, q⟩ := hs; exact False.elim q
      | brk => obtain ⟨_, _, _, q⟩ := hs; exact False.elim q
      | cont => obtain ⟨_, _, _, q⟩ := hs; exact False.elim q
      | ret u => obtain ⟨_, _, _, _, _, q⟩ := hs; exact False.elim q
    · refine seg_wrap ?_
      rw [GenW.over_func]
      refine wpAny_mono (show wpAny (model X.prog X.w) (X.A.in1.deeper (envOfC "worlds" (defScope sWorlds) s1.heap.objs.size f cdv)) (leaving (envOfC "worlds" (defScope sWorlds) s1.heap.objs.size f cdv) e) (fun _ s'' => CX X.prog X.w X.stack H1 s1 (fun cls d H' => cls = .ref C ∧ W cls d σ H') e s'' ∧ ∀ p ∈ [(a, go)], s''.heap.get? p.1 = some p.2) (fun _ _ => False) s' from hx) (fun _ s'' q => ?_) fun _ s'' q => q.elim
      exact seg_end (.error e) (.inr ⟨e, rfl, q.1, q.2 (a, go) (List.mem_singleton_self _)⟩)
  · obtain ⟨hcx, hgo⟩ := he
    have kin : X.K.In s₁.heap := by
      obtain ⟨a', B, H', cls, d, _, fl, _, ub, _⟩ := id hcx
      refine I1.ok.mod.kin.keeps fun b o eb => fl.1 b o (ub.keep b o (I1.bs b o eb).1 (I1.bs b o eb).2 fun hm => ?_)
      rcases List.mem_cons.mp (I1.stkSub b hm) with z | z
      · have h1 := Heap.lt_size eb
        have h2 := Nat.le_trans I1.ok.bsz I1.ok.above
        rw [z] at h1
        exact absurd (Nat.lt_of_lt_of_le h1 h2) (Nat.lt_irrefl _)
      · exact I1.ok.nofr eb z
    refine ⟨hgen _ hgo, notStop_of (fun cls d H' hE => by rw [hE.1]; exact hns) kin hcx, ?_⟩
    refine tk e _ (XE.of_call (W := W) (E := fun cls d H' => cls = .ref C ∧ W cls d σ H') I1 (fun cls d H' hE => hE.2) ?_)
    · obtain ⟨a', B, H', cls, d, z1, fl, z2, ub, z3, z4, z5, z6⟩ := hcx
      exact ⟨a', B, H', cls, d, z1, fl, z2, ub, z3, z4, allBare_setGen z5 rfl, z6⟩
end
end WL
namespace WL
open PySem PySem.Spec PyProof.Rows L2 ClX
section
open PySem.W PySem.Calls
variable {prog : Program} {w : World} {A : Around} {E : Value → Shared → Prop} {s : Shared} {K : Frag} {x D : Addr} {ox : Obj} {od : Obj}
/-- e.__class__ of an own error that has its dict -/
theorem cls_own {Q : Option Value → Shared → Prop} (T : ExcC K D) (X : K.In s.heap) (I : InstAt s.heap x ox D (some od)) (h : Q (some (.ref D)) { s with toks := s.toks + 1 }) : wpAny (model prog w) A (getAttr? (.ref x) "__class__") Q E s := by
  have hc : isClsIn K D = true := by
    obtain ⟨cd, hc, _⟩ := any_some T.hd
    show (clsIn K D).isSome = true
    rw [hc] <;> rfl
  have find := looks_find (M := model prog w) X I (findObj_data (od := od) hc T.ha T.hn T.ht)
  have cl := I.type (M := model prog w)
  have ga := looks_findIn (M := model prog w) X T.hg
  have gt := looks_findIn (M := model prog w) X T.hk
  have base : Looks (model prog w) s.heap (isInstance (.ref x) (.type "BaseException")) true := cl.andThen (looks_subIn X T.hs)
  have other : (Value.builtin "BaseException.__getattribute__" == Value.builtin "object.__getattribute__") = false := by decide +kernel
  obtain ⟨hp, g, d, t, os⟩ := s
  unfold getAttr? getAttrBy? getAttrBy
  refine wpAny_bind (wpAny_mkText (wpAny_bind (wpAny_attempt (wpAny_holding (wpAny_bind (cl.at (wpAny_bind (ga.at ?_))))))))
  show wpAny _ _ (if (onTheHeap (Value.ref D) && Value.builtin "BaseException.__getattribute__" == Value.builtin "object.__getattribute__") = true then _ else _) _ _ _
  rw [if_neg (by rw [other, Bool.and_false]; exact Bool.false_ne_true)]
  unfold getAttrByItsOwn hookBefore
  refine wpAny_bind ?_
  have heapy : onTheHeap (Value.ref D) = true := rfl
  rw [if_pos heapy]
  refine gt.at ?_
  refine wpAny_bind ?_
  refine wpAny_attempt (wpAny_holding ?_)
  unfold callGetattribute
  rw [if_neg (show ¬ (false && onTheHeap (Value.builtin "BaseException.__getattribute__")) = true from fun z => Bool.noConfusion z)]
  unfold boundAndCalled
  rw [PySem.F.excAttr_ValueError.ga.bind (.ref x)]
  refine wpAny_bind (wpAny_pure (wpAny_call (codeAny_call_builtin PySem.F.excAttr_ValueError.ga.plain PySem.F.entry_bexc_ga ?_)))
  refine @check_slot (model prog w) _ _ ⟨hp, g, d, t + 1, os⟩ "BaseException.__getattribute__" "BaseException" "__getattribute__" (.ref x) [.str "__class__" t] [] _ (by decide +kernel) (by decide +kernel) base (PySem.F.args_bexc_ga (.ref x) (.str "__class__" t)) ?_
  unfold Builtin.«object.__getattribute__»
  refine wpAny_bind (wpAny_of_eq (a := ((Value.ref x : Value), [Value.str "__class__" t])) (by first | rfl | (simp only [slotArgs]; rfl)) ?_)
  refine wpAny_bind (wpAny_pure (wpAny_bind (cl.at (wpAny_bind (find.at ?_)))))
  show wpAny _ _ (holding [Value.builtin "object.__class__"] (call (.builtin "getset_descriptor.__get__") [.builtin "object.__class__", .ref x, .ref D]) >>= ret) _ _ _
  refine wpAny_bind (wpAny_holding (wpAny_call (class_get (s := ⟨hp, g, d, t + 1, os⟩) (ox := ox) (od := some od) X I T.hm (wpAny_pure ?_))))
  show wpAny _ _ (handedOut (.ref D)) _ _ _
  rw [handedOut_of (v := .ref D) rfl]
  first
    | exact wpAny_pure (wpAny_pure h)
    | exact wpAny_pure h
    | exact wpAny_pure (wpAny_bind (wpAny_pure (wpAny_pure h)))
theorem kit_own (T : ExcC K D) : KitX K (.ref x) (.ref D) (fun h => InstAt h x ox D (some od)) where
  ty := fun _ _ _ I => I.type
  it := fun _ _ X _ => by
    obtain ⟨cdD, hcD, _⟩ := any_some T.hd
    unfold clsIn at hcD
    split at hcD
    · rename_i ho
      exact fun A' Q' E' s' k q => by
        unfold isType loadHead
        exact wpAny_bind (wpAny_loadPart (k _ _ (X _ _ ho)) (wpAny_pure q))
    · exact nomatch hcD
  ne := (handS_kitx_exc (x := x) (ox := ox) T.hg T.hk T.hs T.hd T.ha T.hn T.ht T.hm).ne
  ca := fun X I k => cls_own T X I k
end
/-- isinstance(e, c), e the error at a, its dict at dd -/
def rIsO (K : PySem.W.Frag) (D a dd : Addr) : List V → Hp → VK → Prop := fun xs H Q => ∃ (c : V) (cv : Value) (b : Bool), xs = [.ref a, c] ∧ (∃ fs, H dd = some (.xd fs)) ∧ (∀ u, RelV c u → u = cv) ∧ PySem.W.kitOne K (.ref D) cv = some b ∧ Q (.bl b) H
theorem call_isO {X : Cx} {a D dd : Addr} {oe : Obj} (C : ExcC X.K D) (hp : (a, oe) ∈ X.pn) (hz : Zc (.ref D) (some dd) oe) (hf : ∃ vs, oe.data = .fields vs) : CallR X (.builtin "isinstance") (rIsO X.K D a dd) := by
  intro pins s σ H xs us Q I r h
  obtain ⟨c, cv, b, rfl, ⟨fs, hd⟩, hcv, e, q⟩ := h
  obtain ⟨u1, u2, rfl, r1, r2⟩ := r.two
  cases r1
  cases hcv _ r2
  have ga := (I.pin (a, oe) (List.mem_append_left _ hp)).1
  have okd : ObjOk X.prog X.w H s.heap dd (.xd fs) := I.hok dd _ hd
  obtain ⟨mA, hns, _⟩ := okd
  obtain ⟨od, ho, _⟩ := lookIn_ns hns
  obtain ⟨vs, hv⟩ := hf
  have J : PySem.W.InstAt s.heap a oe D (some od) := ⟨ga, hz.1, by unfold PySem.W.notCls; rw [hv] <;> rfl, by rw [hz.2]; exact ho⟩
  exact PySem.W.kia_one (kit_own C) I.kIn J e (fun z => nomatch z) fun tk => ⟨.bl b, H, I.tok tk, rfl, q⟩
end WL
namespace WL
open PySem PySem.Spec PyProof.Rows L2 ClX
theorem pe_imp {X : Cx} {e : Expr} {t t' : TE} (h : PE X e t) (i : ∀ σ H Q, t' σ H Q → t σ H Q) : PE X e t' := ⟨fun pins s σ H Q I q => h.run pins s σ H Q I (i σ H Q q)⟩
theorem ps_imp {X : Cx} {e : Stmt} {t t' : TS} (h : PS X e t) (i : ∀ D σ H, t' D σ H → t D σ H) : PS X e t' := ⟨fun pins s σ H D I q => h.run pins s σ H D I (i D σ H q)⟩
theorem pss_imp {X : Cx} {e : List Stmt} {t t' : TS} (h : PSs X e t) (i : ∀ D σ H, t' D σ H → t D σ H) : PSs X e t' := ⟨fun pins s σ H D I q => h.run pins s σ H D I (i D σ H q)⟩
/-- what the law's test of the error asks of the classes -/
structure SinC (K : PySem.W.Frag) (mg : Str → Option Value) (C : Addr) : Prop where
  ex : ExcC K C
  isi : mg "isinstance" = none
  int : mg "int" = none
  line : ∃ a, mg "BadLine" = some (.ref a) ∧ PySem.W.kitOne K (.ref C) (.ref a) = some false
  name : ∃ a, mg "BadName" = some (.ref a) ∧ PySem.W.kitOne K (.ref C) (.ref a) = some false
  num : mg "BadNumber" = some (.ref C) ∧ PySem.W.kitOne K (.ref C) (.ref C) = some true
  world : ∃ a, mg "BadWorld" = some (.ref a) ∧ PySem.W.kitOne K (.ref C) (.ref a) = some false
  large : ∃ a, mg "TooLarge" = some (.ref a) ∧ PySem.W.kitOne K (.ref C) (.ref a) = some false
  deed : ∃ a, mg "DeedError" = some (.ref a) ∧ PySem.W.kitOne K (.ref C) (.ref a) = some true
  val : mg "ValueError" = none ∧ PySem.W.kitOne K (.ref C) (.type "ValueError") = some true
def tIsE (a dd : Addr) (b : Bool) : TE := fun σ H Q => σ[0]? = some (some (.ref a)) ∧ (∃ fs, H dd = some (.xd fs)) ∧ Q (.bl b) H
def tIntE (a dd : Addr) (b : Bool) : TE := fun σ H Q => σ[0]? = some (some (.ref a)) ∧ (∃ fs, H dd = some (.xd fs)) ∧ Q (.int (if b then 1 else 0)) H
section
variable {X : Cx} {a C dd : Addr} {oe : Obj} {nm : Str} {p p2 p3 p4 pos pos2 : Pos} {b : Bool} {c : V} {cv : Value}
theorem pe_isE (T : ExcC X.K C) (hi : X.mg "isinstance" = none) (hp : (a, oe) ∈ X.pn) (hz : Zc (.ref C) (some dd) oe) (hf : ∃ vs, oe.data = .fields vs) (hg : Gl X "isinstance") (he : PE X (.Name "_law_e" p2) (tVar 0)) (hn : PE X (.Name nm p3) (tC c)) (hcv : ∀ u, RelV c u → u = cv) (hk : PySem.W.kitOne X.K (.ref C) cv = some b) :
    PE X (.Call (.Name "isinstance" p) [.Name "_law_e" p2, .Name nm p3] [] pos) (tIsE a dd b) :=
  pe_imp (pe_callB (call_isO T hp hz hf) hg hi PyProof.Rows.Boot.«isinstance» (pa_cons he (pa_cons hn pa_nil))) fun σ H Q ⟨h1, h2, q⟩ => ⟨_, h1, c, cv, b, rfl, h2, hcv, hk, q⟩
theorem pe_intE {e : Expr} (hi : X.mg "int" = none) (hg : Gl X "int") (he : PE X e (tIsE a dd b)) (hst : starEach (e :: []) X.env = (false, eval e X.env) :: starEach [] X.env := by rfl) (hpl : (backTo pos (starEach [] X.env)).any (·.1) = false := by rfl) :
    PE X (.Call (.Name "int" p) [e] [] pos) (tIntE a dd b) :=
  pe_imp (pe_callTy call_int1 hg hi PyProof.Rows.Boot.«int» (pa_cons he pa_nil (hs := hst)) (he := hst) (hpl := hpl)) fun σ H Q ⟨h1, h2, q⟩ => ⟨h1, h2, .inr ⟨b, rfl, q⟩⟩
end
abbrev rAdd : R2 := rI0 fun i j => .int (i + j)
theorem scE : FnScope ["_law_e", "_law_many"] ["_law_e"] (defScope sSingle) := ⟨rfl, rfl, rfl, by decide +kernel, rfl, by decide +kernel, by decide +kernel⟩
def tSingleB (a dd : Addr) : TS := tSeq (tAsg (tOp rAdd (tOp rAdd (tIntE a dd false) (tIntE a dd false)) (tIntE a dd true)) (gName 1)) (tSeq (tAsg (tOp rAdd (tOp rAdd (tVar 1) (tIntE a dd false)) (tIntE a dd false)) (gName 1))
  (tRet (tAndV (tOp rEq (tVar 1) (tC (.int 1))) (tAndV (tIsE a dd true) (tIsE a dd true)))))
section
variable {P : Program} {w : World} {K : PySem.W.Frag} {mg : Str → Option Value} {base : Heap} {f a C dd : Addr} {oe : Obj} {cd : Value} {A : Around} {outer : List Env} {s : Shared} {H : Hp}
theorem pss_single (T : SinC K mg C) (hz : Zc (.ref C) (some dd) oe) (hf : ∃ vs, oe.data = .fields vs) :
    PSs (L2H.cxH CX0 P w K mg base ["_law_e", "_law_many"] "_law_single" (defScope sSingle) f cd A outer s H E0 (a, oe)) (defBody sSingle) (tSingleB a dd) := by
  obtain ⟨aL, gL, kL⟩ := T.line
  obtain ⟨aN, gN, kN⟩ := T.name
  obtain ⟨gM, kM⟩ := T.num
  obtain ⟨aW, gW, kW⟩ := T.world
  obtain ⟨aT, gT, kT⟩ := T.large
  obtain ⟨aD, gD, kD⟩ := T.deed
  obtain ⟨gV, kV⟩ := T.val
  have hp : (a, oe) ∈ (L2H.cxH CX0 P w K mg base ["_law_e", "_law_many"] "_law_single" (defScope sSingle) f cd A outer s H E0 (a, oe)).pn := List.mem_singleton_self _
  have rr : ∀ {x : Addr} (u : Value), RelV (.ref x) u → u = .ref x := fun u r => r
  refine pss_cons (ps_set (i := 1) scE.nd rfl (Or.inl rfl) (pe_op op_add (pe_op op_add (pe_intE T.int rfl (pe_isE T.ex T.isi hp hz hf rfl (pv 0) (pe_glob (v := .ref aL) rfl gL rfl) rr kL)) (pe_intE T.int rfl (pe_isE T.ex T.isi hp hz hf rfl (pv 0) (pe_glob (v := .ref aN) rfl gN rfl) rr kN)))
    (pe_intE T.int rfl (pe_isE T.ex T.isi hp hz hf rfl (pv 0) (pe_glob (v := .ref C) rfl gM rfl) rr kM)))) ?_
  refine pss_cons (ps_set (i := 1) scE.nd rfl (Or.inl rfl) (pe_op op_add (pe_op op_add (pv 1) (pe_intE T.int rfl (pe_isE T.ex T.isi hp hz hf rfl (pv 0) (pe_glob (v := .ref aW) rfl gW rfl) rr kW))) (pe_intE T.int rfl (pe_isE T.ex T.isi hp hz hf rfl (pv 0) (pe_glob (v := .ref aT) rfl gT rfl) rr kT)))) ?_
  exact pss_one (ps_ret (pe_and (pe_cmpR op_eq (pv 1) pe_int (nomark _)) (pe_and (pe_isE T.ex T.isi hp hz hf rfl (pv 0) (pe_glob (v := .ref aD) rfl gD rfl) rr kD) (pe_one (pe_isE T.ex T.isi hp hz hf rfl (pv 0) (pe_bltn (v := .ty "ValueError") rfl gV PyProof.Rows.Boot.«ValueError» rfl) (fun u r => r) kV)))))
theorem pure_single {H : Hp} {Q : VK} (hd : ∃ fs, H dd = some (.xd fs)) (q : Q (.bl true) H) : tSingleB a dd { nx := fun _ H' => Q .non H', rt := Q } (start ["_law_e", "_law_many"] [.ref a]) H := by
  refine ⟨rfl, hd, rfl, hd, 0, 0, rfl, rfl, rfl, hd, _, 1, rfl, rfl, ?_⟩
  refine ⟨_, rfl, rfl, hd, _, 0, rfl, rfl, rfl, hd, _, 0, rfl, rfl, ?_⟩
  exact ⟨_, rfl, rfl, true, rfl, rfl, hd, true, rfl, rfl, hd, q⟩
end
/-- a def is called where an error is handled; p stands all the while -/
theorem run_pin {X : Cx} {k : Nat} {f : Addr} {x qual : Str} {st : Stmt} {fd : FuncData} {N ps : List Str} {pins : List (Addr × Obj)} {σ : L2.St} {H : Hp} {s : Shared} {us : List Value} {vs : List V} {Q : VK} {p : Addr × Obj} (hp : p ∈ X.pn) (F : Fun X.K x qual st f fd) (S : FnScope N ps (defScope st)) (hr : L2H.RoomH (k + 1) X.A)
    (hb : Binds X.K fd ps []) (I : Inv X pins σ H s) (r : Vals vs us) (hl : vs.length = ps.length)
    (hbody : ∀ cdv, ∃ t, PSs (L2H.cxH CX0 X.prog X.w X.K X.mg X.base N qual (defScope st) f cdv X.A X.stack s H E0 p) (defBody st) t ∧ t { nx := fun _ H' => Q .non H', rt := Q } (start N vs) H) :
    wpAny (model X.prog X.w) X.A (call (.ref f) us) (EP X pins σ Q) X.xe s := by
  have e0 := I.env0
  have b := hb s us I.kIn (by rw [List.append_nil]; exact r.length.symm.trans hl)
  rw [List.append_nil] at b
  obtain ⟨oc, od, kV, doc, pm, an, cdv, ct, osl, rfl, lk, hcd⟩ := F.ex
  have kinds : ∀ y ∈ ps.zip us, (defScope st).names.lookup y.1 = some .local ∨ ((defScope st).names.lookup y.1 = some .cell ∧ ((cellsFrom (s.heap.objs.size + 1) (defScope st).names []).lookup y.1).isSome = true) := fun ⟨n, v⟩ hy => by
    rcases S.par n (List.of_mem_zip hy).1 with q | q
    · exact .inl q
    · exact .inr ⟨q, PySem.W.cellsFrom_some _ _ _ (.inl q)⟩
  have pin1 := I.pin p (List.mem_append_left _ hp)
  have hpin : L2H.PinOk X.stack H s p := ⟨pin1.1, pin1.2.1, fun hm => (List.mem_cons.mp (I.stkSub p.1 hm)).elim pin1.2.2.1 pin1.2.2.2.1, pin1.2.2.2.2⟩
  refine wpAny_call (codeAny_mono (R := CR CX0 X.stack X.prog X.w H s Q E0) (codeAny_call_function hr.depth (I.kIn _ _ lk) rfl S.co S.gen rfl (PySem.W.codeRec_of I.kIn hcd) (b _ _ _ _ ?_)) fun r s' hq => ?_)
  · refine wpAny_newFunctionEnv_cells S.kind kinds fun env he s1 xx => ?_
    subst he
    refine ⟨I.nolimit.keeps xx.toInCall.keep, codeAny_func ?_⟩
    obtain ⟨t, ht, hq⟩ := hbody cdv
    refine wpAny_mono (ht.run [] s1 (start N vs) H _ (L2H.inv_startH S hpin e0 hl r xx) hq) (fun fl s' hs => ?_) fun e s' hs => hs
    cases fl with
    | ret u =>
      obtain ⟨v, σ', H', J, rv, q⟩ := hs
      exact ⟨v, H', J.os, J.bare, J.base, J.hok, rv, q⟩
    | next =>
      obtain ⟨σ', H', J, q⟩ := hs
      exact ⟨.non, H', J.os, J.bare, J.base, J.hok, rfl, q⟩
    | brk => obtain ⟨_, _, _, q⟩ := hs; exact q.elim
    | cont => obtain ⟨_, _, _, q⟩ := hs; exact q.elim
  · cases r with
    | error e => exact False.elim hq
    | ok fl =>
      cases fl with
      | ret u => exact I.after hq
      | next => exact False.elim hq
      | brk => exact False.elim hq
      | cont => exact False.elim hq
/-- _law_single(_law_e) in the suite: true -/
theorem pe_single {X : Cx} {a C dd f : Addr} {oe : Obj} {fd : FuncData} {e : Expr} {te : TE} {p pos : Pos} (hp : (a, oe) ∈ X.pn) (T : SinC X.K X.mg C) (hz : Zc (.ref C) (some dd) oe) (hf : ∃ vs, oe.data = .fields vs) (F : Fun X.K "_law_single" "_law_single" sSingle f fd) (hb : Binds X.K fd ["_law_e"] []) (hk : PySem.W.keepIn X.K (.ref f) = true)
    (hr : L2H.RoomH 2 X.A) (hg : Gl X "_law_single") (hm : X.mg "_law_single" = some (.ref f)) (he : PE X e te) (hst : starEach (e :: []) X.env = (false, eval e X.env) :: starEach [] X.env := by rfl) (hpl : (backTo pos (starEach [] X.env)).any (·.1) = false := by rfl) :
    PE X (.Call (.Name "_law_single" p) [e] [] pos) (fun σ H Q => tCons te tNil σ H fun vs H1 => vs = [.ref a] ∧ (∃ fs, H1 dd = some (.xd fs)) ∧ Q (.bl true) H1) := by
  refine ⟨fun pins s σ H Q I h => ?_⟩
  refine wpAny_Call_Name_kw (ld_glob I hg hm ?_ (by decide))
  refine PySem.W.callWith_K (h₀ := X.base) I.ok.mod.kin hk (thn ((pa_cons he pa_nil (hs := hst)).run pos pins s σ H (fun vs H1 => vs = [.ref a] ∧ (∃ fs, H1 dd = some (.xd fs)) ∧ Q (.bl true) H1) I h) fun us s1 ⟨vs, H1, I1, r1, ev, hd, q⟩ => ⟨I1.kIn, ?_⟩) hst hpl
  subst ev
  exact run_pin (k := 1) hp F scE hr hb I1 r1 rfl fun cdv => ⟨_, pss_single T hz hf, pure_single hd q⟩
end WL
namespace WL
open PySem PySem.Spec PyProof.Rows L2 ClX
theorem call_q0 {P : Program} {w : World} {K : PySem.W.Frag} {mg : Str → Option Value} {base : Heap} {k : Nat} {f : Addr} {x qual : Str} {st : Stmt} {fd : FuncData} {N ps : List Str} {A : Around} {outer : List Env} {s : Shared} {H : Hp} {us : List Value} {vs : List V} {R : Value → Shared → Prop} {wp : List (Addr × Obj)}
    (F : Fun K x qual st f fd) (S : FnScope N ps (defScope st)) (hr : Room (k + 1) A) (e0 : Env0 P w K mg base A outer s H) (hb : BindsTo s fd ⟨us, []⟩ (ps.zip us)) (r : Vals vs us) (hl : vs.length = ps.length) (hwp : ∀ p ∈ wp, L2H.PinOk outer H s p)
    (hbody : ∀ cdv s1, Inv (cxW P w K mg base N qual (defScope st) f cdv A outer s H wp) [] (start N vs) H s1 → Kp [] s s1 → Hl s s1 → wpAny (model P w) (cxW P w K mg base N qual (defScope st) f cdv A outer s H wp).A (execs (defBody st) (cxW P w K mg base N qual (defScope st) f cdv A outer s H wp).env) (fun fl s' => ∃ u, fl = .ret u ∧ R u s') (fun _ _ => False) s1) :
    codeAny (model P w) A (.call (.ref f) ⟨us, []⟩) (fun r s' => ∃ u, r = .ok (.ret u) ∧ R u s') s := by
  obtain ⟨oc, od, kV, doc, pm, an, cdv, ct, osl, rfl, lk, hcd⟩ := F.ex
  have KX : K.In s.heap := e0.mod.kin.keeps fun b o e => (e0.bs b o e).1
  have lim : s.heap.NoLimit := e0.mod.nolimit.keeps fun b o e => (e0.bs b o e).1
  have kinds : ∀ y ∈ ps.zip us, (defScope st).names.lookup y.1 = some .local ∨ ((defScope st).names.lookup y.1 = some .cell ∧ ((cellsFrom (s.heap.objs.size + 1) (defScope st).names []).lookup y.1).isSome = true) := fun ⟨n, v⟩ hy => by
    rcases S.par n (List.of_mem_zip hy).1 with q | q
    · exact .inl q
    · exact .inr ⟨q, PySem.W.cellsFrom_some _ _ _ (.inl q)⟩
  refine codeAny_call_function hr.depth (KX _ _ lk) rfl S.co S.gen rfl (PySem.W.codeRec_of KX hcd) (hb _ _ _ _ ?_)
  refine wpAny_hl Hl.refl (wpAny_newFunctionEnv_cells S.kind kinds fun env he s1 x k1 => ?_)
  subst he
  refine ⟨lim.keeps x.toInCall.keep, codeAny_func ?_⟩
  have I0 := inv_start (CX := CX0) (E := E0) S hr.hd e0 hl r x
  have I1 : Inv (cxW P w K mg base N qual (defScope st) f cdv A outer s H wp) [] (start N vs) H s1 := by
    have J := I0.wish fun _ _ => False
    refine ⟨⟨J.ok.mod, J.ok.kind, J.ok.glob, J.ok.blt, J.ok.above, J.ok.inj, J.ok.has, J.ok.cab, J.ok.hd, J.ok.frames, J.ok.stk, J.ok.exf, J.ok.bs, J.ok.bsz, J.ok.noex, J.ok.exfs, J.ok.funs, J.ok.frf⟩, J.os, J.bare, J.base, J.loc, J.cell, J.free, J.freeC, fun p hp => ?_, J.hok, J.len⟩
    have hp' : p ∈ wp := (List.mem_append.mp hp).elim (fun z => z) fun z => by simp at z
    have z := hwp p hp'
    exact ⟨x.toInCall.keep _ _ z.get, z.free, Nat.ne_of_lt (Heap.lt_size z.get), z.nofs, z.nocell⟩
  have kp : Kp [] s s1 := by
    obtain ⟨h1, tk, rfl, hk⟩ := x.done
    exact ⟨rfl, fun b o _ e => hk b o e⟩
  refine wpAny_mono (hbody cdv s1 I1 kp k1) (fun fl s' hs => ?_) fun e s' hs => False.elim hs
  obtain ⟨u, rfl, q⟩ := hs
  exact ⟨u, rfl, q⟩
theorem scS : FnScope ["self"] ["self"] (defScope sWorldIter) := ⟨rfl, rfl, rfl, by decide +kernel, rfl, by decide +kernel, by decide +kernel⟩
theorem scSl : FnScope ["self"] ["self"] (defScope sWorldLen) := ⟨rfl, rfl, rfl, by decide +kernel, rfl, by decide +kernel, by decide +kernel⟩
section
variable {P : Program} {w : World} {K : PySem.W.Frag} {mg : Str → Option Value} {base : Heap} {C fi fl : Addr} {fd : FuncData}
theorem ok_len (F : Fun K "__len__" "World.__len__" sWorldLen fl fd) (b : Binds K fd ["self"] []) (cl : Cls K C) (na : NoAttr K C "answers") (g : mg "len" = none) : LenOk P w K mg base C fl := by
  intro A outer s H a dx t its wp hr e0 hwp W hz
  have KX : K.In s.heap := e0.mod.kin.keeps fun b o e => (e0.bs b o e).1
  refine codeAny_mono (call_q (k := 0) (Q := fun v _ => v = .int its.length) F scSl hr e0 (b s [.ref a] KX rfl) (vs := [.ref a]) (.cons rfl .nil) rfl hwp fun cdv => ⟨tRet (tCB _ (tCons _ tNil)), qss_one (qs_ret (qe_callB (call_lenT W hz) rfl g PyProof.Rows.Boot.«len» (qa_cons (qe_answers W cl na (qe_var (i := 0))) qa_nil))), ⟨_, rfl, rfl, rfl, rfl⟩⟩) fun r s' h => ?_
  obtain ⟨u, rfl, k, v, H', os, _, _, _, rv, ev⟩ := h
  subst ev
  obtain ⟨tk, rfl⟩ := rv
  exact ⟨tk, rfl, k, os⟩
theorem ok_iter (F : Fun K "__iter__" "World.__iter__" sWorldIter fi fd) (b : Binds K fd ["self"] []) (cl : Cls K C) (na : NoAttr K C "answers") (g : mg "iter" = none) : IterOk P w K mg base C fi := by
  intro A outer s H a dx t its wp hr e0 hwp W hz
  have KX : K.In s.heap := e0.mod.kin.keeps fun b o e => (e0.bs b o e).1
  refine codeAny_mono (call_q0 (k := 0) (R := fun u s' => ∃ it, u = .ref it ∧ Kp [] s s' ∧ s'.os = s.os ∧ s.heap.objs.size ≤ it ∧ s'.heap.IsTupleIter it t 0) F scS hr e0 (b s [.ref a] KX rfl) (vs := [.ref a]) (.cons rfl .nil) rfl hwp fun cdv s1 I1 k1 l1 => ?_) fun r s' h => ?_
  · refine wpAny_execs_cons ?_
    refine wpAny_Return_some ?_
    refine wpAny_Call_Name_kw (ld_blt I1 (by rfl) g PyProof.Rows.Boot.«iter» (PyProof.Rows.callWith_builtin1 ?_ rfl rfl) (by decide) (by decide))
    have hA := (qa_cons (X := cxW P w K mg base ["self"] "World.__iter__" (defScope sWorldIter) fi cdv A outer s H wp) (Z := []) (qe_answers (pos := ⟨52, 20, 52, 32⟩) W cl na (qe_var (i := 0) (x := "self") (pos := ⟨52, 20, 52, 24⟩))) qa_nil).run
    refine wpAny_hl l1 (wpAny_mono (hA _ [] s1 _ H (fun vs H1 => vs = [.ref t]) I1 ⟨_, rfl, rfl, rfl⟩) (fun us s2 h2 l2 => ?_) fun _ _ (z : False) _ => z.elim)
    obtain ⟨k2, vs, H2, I2, r2, rfl⟩ := h2
    obtain ⟨u, rfl, ru⟩ := r2.one
    cases ru
    refine Calls.call_function_entry (by decide +kernel) (by decide +kernel) PySem.W.kdk_entry_iter (PySem.W.kdk_args_iter _) ?_
    unfold Builtin.«iter»
    refine wpAny_bind (m := someArgs "iter" 1 2 _) (wpAny_of_eq (a := [Value.ref t]) (by first | rfl | kernel_rfl!) ?_)
    show wpAny _ _ (pyIter (.ref t) >>= _) _ _ _
    refine wpAny_bind (wpAny_pyIter_tuple (W.tuple I2) (wpAny_pure ⟨_, rfl, _, rfl, _, rfl, (k1.trans k2).trans ⟨rfl, fun b o _ e => Heap.get?_push_of_some _ e⟩, I2.os, l2.size, ⟨_, Heap.get?_push_size _ rfl, rfl, rfl⟩⟩))
  · obtain ⟨u, rfl, it, rfl, h1, h2, h3, h4⟩ := h
    exact ⟨it, rfl, h1, h2, h3, h4⟩
end
end WL
namespace WL
open PySem PySem.Spec PyProof.Rows L2 ClX
theorem iT {c : Bool} {A B : Prop} (hc : c = true) (h : A) : if c = true then A else B := by subst hc; exact h
theorem iF {c : Bool} {A B : Prop} (hc : c = false) (h : B) : if c = true then A else B := by subst hc; exact h
theorem qss_imp {X : Cx} {Z : List Addr} {e : List Stmt} {t t' : TS} (h : QSs X Z e t) (i : ∀ D σ H, t' D σ H → t D σ H) : QSs X Z e t' := ⟨fun pins s σ H D I q => h.run pins s σ H D I (i D σ H q)⟩
theorem qss_false {X : Cx} {Z : List Addr} {e : List Stmt} : QSs X Z e (fun _ _ _ => False) := ⟨fun _ _ _ _ _ _ q => q.elim⟩
theorem pss_false {X : Cx} {e : List Stmt} : PSs X e (fun _ _ _ => False) := ⟨fun _ _ _ _ _ _ q => q.elim⟩
theorem callq_mono {X : Cx} {Z Y : List Addr} {f : Value} {r : List V → Hp → VK → Prop} (h : CallQ X Z f r) (i : ∀ b ∈ Z, b ∈ Y) : CallQ X Y f r := fun pins s σ H xs us Q I rv q => thn (h pins s σ H xs us Q I rv q) fun _ _ ⟨k, q⟩ => ⟨k.mono i, q⟩
theorem wpin_mono {C a dx t : Addr} {its : List Value} {wp pn : List (Addr × Obj)} (W : WPin C a dx t its wp) (i : ∀ p ∈ wp, p ∈ pn) : WPin C a dx t its pn :=
  ⟨W.ne, i _ W.obj, (let ⟨od, mA, h1, h2⟩ := W.dict; ⟨od, mA, i _ h1, h2⟩), (let ⟨ot, h1, h2⟩ := W.tup; ⟨ot, i _ h1, h2⟩)⟩
abbrev FN : List Str := ["_law_longest", "_law_most", "_law_rows_here", "_law_world", "_law_e"]
def loopB : List Stmt := match (defBody sFound).getD 1 (.Pass ⟨0, 0, 0, 0⟩) with
  | .Try [.For _ _ bb _ _] _ _ _ _ => bb
  | _ => []
/-- one turn of the law's loop -/
def tStepW (S a : Addr) (row : List V) : TS := fun D σ H => σ[3]? = some (some (.ref a)) ∧ σ[2]? = some (some (.ref S)) ∧ ∃ (xs : List V) (most : Int), σ[1]? = some (some (.int most)) ∧ H S = some (.lst xs) ∧ xs.length < 5000 ∧
  ∀ l, H l = none → if ((xs ++ [V.ref l]).length : Int) = most then D.rt (.ref S) (upd (upd H l (.lst row)) S (.lst (xs ++ [.ref l]))) else D.nx σ (upd (upd H l (.lst row)) S (.lst (xs ++ [.ref l])))
/-- what the top has written of World -/
structure WoT (K : PySem.W.Frag) (mg : Str → Option Value) (C fi fl : Addr) : Prop where
  g : mg "World" = some (.ref C)
  W : WCls K C fi fl
  isi : IsiC K C
  gIsi : mg "isinstance" = none
  gList : mg "list" = none
  gLen : mg "len" = none
theorem qss_body {X : Cx} {C fi fl S a dx t : Addr} {its : List Value} {row : List V} (T : WoT X.K X.mg C fi fl) (FI : IterOk X.prog X.w X.K X.mg X.base C fi) (FL : LenOk X.prog X.w X.K X.mg X.base C fl) (hN : X.N = FN) (hv : X.env.scope = defScope sFound) (W : WPin C a dx t its X.pn) (rv : Vals row its) (hz : row.length ≤ 1000) (hr : Room 5 X.A) :
    QSs X [S] loopB (tStepW S a row) := by
  have loc : ∀ {i : Nat} {x : Str} {p : Pos}, FN[i]? = some x → (defScope sFound).names.lookup x = some .local → (x == ("__debug__" : Str)) = false → (x == ("__classdict__" : Str)) = false → QE X [S] (.Name x p) (tVar i) := fun {i x p} h1 h2 h3 h4 => qe_var (by rw [hN]; exact h1) (.inl (by rw [hv]; exact h2)) h3 h4
  have gl : ∀ {x : Str}, (defScope sFound).names.lookup x = some .globalImplicit → Gl X x := fun {x} h => by show List.lookup _ X.env.scope.names = _; rw [hv]; exact h
  have v3 : ∀ {p : Pos}, QE X [S] (.Name "_law_world" p) (tVar 3) := fun {p} => loc rfl (by decide +kernel) (by decide) (by decide)
  have v2 : ∀ {p : Pos}, QE X [S] (.Name "_law_rows_here" p) (tVar 2) := fun {p} => loc rfl (by decide +kernel) (by decide) (by decide)
  have v1 : ∀ {p : Pos}, QE X [S] (.Name "_law_most" p) (tVar 1) := fun {p} => loc rfl (by decide +kernel) (by decide) (by decide)
  have Z0 : ∀ b ∈ ([] : List Addr), b ∈ [S] := fun b hb => by cases hb
  have s1 := fun {p1 p2 p3 p4 p5 p6 : Pos} (bd : List Stmt) => qs_if (pos := p6) (qt_not (pos := p5) (qt_val (qe_callB (pos := p4) (p := p3) (x := "isinstance") (call_isiW (Z := [S]) W T.W.cl T.isi) (gl (by decide +kernel)) T.gIsi PyProof.Rows.Boot.«isinstance» (qa_cons (v3 (p := p1)) (qa_cons (qe_glob (x := "World") (v := .ref C) (pos := p2) (gl (by decide +kernel)) T.g rfl) qa_nil))))) (qss_false (X := X) (Z := [S]) (e := bd)) qss_nil
  have cw := callq_mono (call_listW W T.W FI FL rv hz hr) Z0
  refine qss_imp (qss_cons (s1 _) (qss_cons (qs_expr (qe_append v2 (qe_callTy cw (gl (by decide +kernel)) T.gList PyProof.Rows.Boot.«list» (qa_cons v3 qa_nil)))) (qss_one (qs_if (qt_eqI (qe_callB call_lenL (gl (by decide +kernel)) T.gLen PyProof.Rows.Boot.«len» (qa_cons v2 qa_nil)) v1) (qss_one (qs_ret v2)) qss_nil)))) fun D σ H h => ?_
  obtain ⟨h3, h2, xs, most, h1, hS, hl, q⟩ := h
  refine ⟨_, h3, rfl, true, rfl, ?_⟩
  refine ⟨_, h2, rfl, ⟨xs, hS⟩, _, h3, rfl, fun l hl0 => ?_⟩
  have hne : S ≠ l := fun z => by rw [z, hl0] at hS; cases hS
  refine ⟨xs, (by rw [upd_ne hne]; exact hS), (by rw [sizeLine_eq]; omega), ?_⟩
  refine ⟨_, h2, S, _, rfl, upd_same, _, h1, _, most, rfl, rfl, _, rfl, ?_⟩
  have z := q l hl0
  by_cases c : ((xs ++ [V.ref l]).length : Int) = most
  · rw [if_pos c] at z
    exact iT (decide_eq_true c) ⟨_, h2, z⟩
  · rw [if_neg c] at z
    exact iF (decide_eq_false c) z
end WL
namespace WL
open PySem PySem.Spec PyProof.Rows L2 ClX
/-! ### the rows, in plain Lean -/
def WsI (n : Nat) : List (List Int) := (List.range (n + 1)).flatMap lev
def Ws (n : Nat) : List (List V) := (WsI n).map (·.map V.int)
theorem lev_len : ∀ k, (lev k).length = 2 ^ k
  | 0 => rfl
  | k + 1 => by
    have h : ∀ l : List (List Int), (nextRows l).length = l.length * 2 := by
      intro l
      induction l with
      | nil => rfl
      | cons r l ih =>
        show ([r ++ [0], r ++ [1]] ++ nextRows l).length = _
        rw [List.length_append, ih]
        simp only [List.length_cons, List.length_nil]
        omega
    show (nextRows (lev k)).length = _
    rw [h, lev_len k, Nat.pow_succ]
theorem lev_row : ∀ k, ∀ r ∈ lev k, (∀ z ∈ r, z = 0 ∨ z = 1) ∧ r.length = k
  | 0, r, h => by
    rw [List.mem_singleton.mp h]
    exact ⟨fun z hz => (by cases hz), rfl⟩
  | k + 1, r, h => by
    obtain ⟨q, hq, hr⟩ := List.mem_flatMap.mp h
    obtain ⟨h1, h2⟩ := lev_row k q hq
    have : ∃ c : Int, (c = 0 ∨ c = 1) ∧ r = q ++ [c] := by
      rcases List.mem_cons.mp hr with e | e
      · exact ⟨0, .inl rfl, e⟩
      · exact ⟨1, .inr rfl, List.mem_singleton.mp e⟩
    obtain ⟨c, hc, rfl⟩ := this
    refine ⟨fun z hz => ?_, by rw [List.length_append, h2]; rfl⟩
    rcases List.mem_append.mp hz with e | e
    · exact h1 z e
    · rw [List.mem_singleton.mp e]; exact hc
theorem WsI_len (n : Nat) : (WsI n).length + 1 = 2 ^ (n + 1) := by
  induction n with
  | zero => rfl
  | succ n ih =>
    have e : WsI (n + 1) = WsI n ++ lev (n + 1) := by
      unfold WsI
      rw [List.range_succ (n := n + 1), List.flatMap_append]
      simp
    rw [e, List.length_append, lev_len, Nat.pow_succ 2 (n + 1)]
    omega
theorem WsI_succ (n : Nat) : WsI (n + 1) = WsI n ++ lev (n + 1) := by
  unfold WsI
  rw [List.range_succ (n := n + 1), List.flatMap_append]
  simp
theorem Ws_len (n : Nat) : (Ws n).length = (WsI n).length := List.length_map _
theorem Ws_le {n : Nat} (h : n ≤ 10) : (Ws n).length ≤ 2047 := by
  have h1 := WsI_len n
  have h2 : 2 ^ (n + 1) ≤ 2 ^ 11 := Nat.pow_le_pow_right (by decide) (by omega)
  rw [Ws_len]
  omega
theorem Ws_row {n : Nat} {row : List V} (h : row ∈ Ws n) : row.length ≤ n := by
  obtain ⟨r, hr, rfl⟩ := List.mem_map.mp h
  obtain ⟨k, hk, hr⟩ := List.mem_flatMap.mp hr
  have := (lev_row k r hr).2
  rw [List.length_map, this]
  have := List.mem_range.mp hk
  omega
/-! ### the list of rows -/
structure Lws (H : Hp) (S : Addr) (rows : List (Addr × List V)) : Prop where
  hs : H S = some (.lst (rows.map fun p => V.ref p.1))
  ht : ∀ p ∈ rows, H p.1 = some (.lst p.2) ∧ p.1 ≠ S
theorem Lws.add {H : Hp} {S l : Addr} {rows : List (Addr × List V)} {row : List V} (x : Lws H S rows) (hl : H l = none) : Lws (upd (upd H l (.lst row)) S (.lst ((rows.map fun p => V.ref p.1) ++ [V.ref l]))) S (rows ++ [(l, row)]) := by
  have ne : l ≠ S := fun z => by
    have := x.hs
    rw [← z, hl] at this
    cases this
  refine ⟨by rw [upd_same, List.map_append]; rfl, fun p hp => ?_⟩
  rcases List.mem_append.mp hp with h | h
  · obtain ⟨h1, h2⟩ := x.ht p h
    refine ⟨?_, h2⟩
    have h3 : p.1 ≠ l := fun z => by rw [z, hl] at h1; cases h1
    rw [upd_ne h2, upd_ne h3]
    exact h1
  · rw [List.mem_singleton.mp h]
    exact ⟨by rw [upd_ne ne]; exact upd_same, ne⟩
/-- _law_found -/
def spFound : Sp := fun vs H Q _ => (∃ (n most : Nat), vs = [.int n, .int most] ∧ n ≤ 10 ∧ 1 ≤ most ∧ ∀ (S : Addr) (rows : List (Addr × List V)) (H' : Hp), Same H H' → Lws H' S rows → rows.map (·.2) = (Ws n).take most → Q (.ref S) H') ∨
  (∃ (n : Int) (most : V), vs = [.int n, most] ∧ ¬ (0 ≤ n ∧ n ≤ 10) ∧ ∀ (p : Addr) (H' : Hp), Same H H' → H' p = some (.tup [.str "BadNumber", .int n]) → Q (.ref p) H')
theorem same_add {H H' : Hp} {S l : Addr} {u v : HO} (e : Same H H') (hS : H S = none) (hl : H' l = none) : Same H (upd (upd H' l u) S v) := fun b o q => by
  have h1 : b ≠ S := fun z => by rw [z, hS] at q; cases q
  have h2 : b ≠ l := fun z => by rw [z] at q; rw [e _ _ q] at hl; cases hl
  rw [upd_ne h1, upd_ne h2]
  exact e _ _ q
theorem pure_good {n most : Nat} {H : Hp} {Q : VK} (hn : n ≤ 10) (hm : 1 ≤ most) (hQ : ∀ (S : Addr) (rows : List (Addr × List V)) (H' : Hp), Same H H' → Lws H' S rows → rows.map (·.2) = (Ws n).take most → Q (.ref S) H') :
    tSeq (tAsg (tLst tNil) (gName 2)) (tSeq (tForW Ws 3 tStepW) (tRet (tVar 2))) { nx := fun _ H' => Q .non H', rt := Q } (start FN [.int n, .int most]) H := by
  refine ⟨(by decide), fun S hS => ?_⟩
  refine ⟨n, S, fun i σ H' => i < most ∧ ∃ v rows, σ = [some (.int n), some (.int most), some (.ref S), v, none] ∧ Lws H' S rows ∧ rows.map (·.2) = (Ws n).take i ∧ Same H H' ∧ Shp (upd H S (.lst [])) H', hn, rfl, ⟨_, upd_same⟩, ⟨hm, none, [], rfl, ⟨upd_same, fun p hp => (by cases hp)⟩, rfl, fun b o q => ?_, fun b u q => .inl ⟨u, q⟩⟩, fun i σ H' ⟨_, v, rows, _, _, _, _, h⟩ => h, fun i row σ H' a hrow ⟨hi, v, rows, eσ, L, hr, sm, sh⟩ => ?_, fun σ H' ⟨hi, v, rows, eσ, L, hr, sm, sh⟩ => ?_⟩
  · have h1 : b ≠ S := fun z => by rw [z, hS] at q; cases q
    rw [upd_ne h1]
    exact q
  · subst eσ
    have hlt : i < (Ws n).length := (List.getElem?_eq_some_iff.mp hrow).1
    have hlen : rows.length = i := by
      have := congrArg List.length hr
      rw [List.length_map, List.length_take] at this
      omega
    have hT := Ws_le hn
    refine ⟨rfl, rfl, rows.map (fun p => V.ref p.1), (most : Int), rfl, L.hs, by rw [List.length_map]; omega, fun l hl => ?_⟩
    have LA := L.add (row := row) hl
    have hr' : (rows ++ [(l, row)]).map (·.2) = (Ws n).take (i + 1) := by
      rw [List.map_append, hr, List.take_add_one, hrow]
      rfl
    have sm' : Same H (upd (upd H' l (.lst row)) S (.lst ((rows.map fun p => V.ref p.1) ++ [V.ref l]))) := same_add sm hS hl
    by_cases c : (((rows.map fun p => V.ref p.1) ++ [V.ref l]).length : Int) = most
    · rw [if_pos c]
      refine hQ S _ _ sm' LA ?_
      rw [List.length_append, List.length_map] at c
      simp only [List.length_cons, List.length_nil] at c
      have : most = i + 1 := by omega
      rw [this]
      exact hr'
    · rw [if_neg c]
      rw [List.length_append, List.length_map] at c
      simp only [List.length_cons, List.length_nil] at c
      refine ⟨by omega, some (.ref a), _, rfl, LA, hr', sm', fun b u q => ?_⟩
      by_cases hb : b = S
      · exact .inl ⟨_, by rw [hb]; exact upd_same⟩
      · rw [upd_ne hb] at q
        by_cases hb2 : b = l
        · rw [hb2, upd_same] at q
          cases q
          exact .inr ⟨row, rfl⟩
        · rw [upd_ne hb2] at q
          exact sh b u q
  · subst eσ
    refine ⟨_, rfl, hQ S rows H' sm L ?_⟩
    rw [hr, List.take_length, List.take_of_length_le (by omega)]
end WL
namespace WL
open PySem PySem.Spec PyProof.Rows L2 ClX
theorem scF : FnScope FN ["_law_longest", "_law_most"] (defScope sFound) := ⟨rfl, rfl, rfl, by decide +kernel, rfl, by decide +kernel, by decide +kernel⟩
theorem scW : GScope WN ["longest"] (defScope sWorlds) := ⟨rfl, rfl, rfl, by decide +kernel, rfl, by decide +kernel, by decide +kernel⟩
theorem plW : ∀ y ∈ (defScope sWorlds).names, y.2 ≠ .cell ∧ y.2 ≠ .free := by decide +kernel
/-- what the top has written for _law_found -/
structure FoT (K : PySem.W.Frag) (mg : Str → Option Value) (CB fI D C fi fl fw fs : Addr) (fdI fdi fdl fdw fds : FuncData) : Prop where
  num : NumC K mg CB fI D fdI
  sin : SinC K mg CB
  xf : XfC K CB
  nstop : PySem.W.subIn K (.ref CB) (.type "StopIteration") = some false
  exm : PySem.W.exmOne K (.ref CB) (.ref CB) = some true
  wo : WoT K mg C fi fl
  na : NoAttr K C "answers"
  gIter : mg "iter" = none
  Fi : Fun K "__iter__" "World.__iter__" sWorldIter fi fdi
  bi : Binds K fdi ["self"] []
  Fl : Fun K "__len__" "World.__len__" sWorldLen fl fdl
  bl : Binds K fdl ["self"] []
  Fw : Fun K "worlds" "worlds" sWorlds fw fdw
  bw : Binds K fdw ["longest"] []
  gw : mg "worlds" = some (.ref fw)
  kw : PySem.W.keepIn K (.ref fw) = true
  Fs : Fun K "_law_single" "_law_single" sSingle fs fds
  bs : Binds K fds ["_law_e"] []
  gs : mg "_law_single" = some (.ref fs)
  ks : PySem.W.keepIn K (.ref fs) = true
  gL : ∃ t, mg "LONGEST" = some (.int 10 t)
/-- the suite -/
def tSuite (CB : Addr) (a : Addr) (cls : Value) (d : Option Addr) : TS := fun D σ H => cls = .ref CB ∧ ∃ (dd : Addr) (fs : List (Str × V)) (v : V), d = some dd ∧ σ[4]? = some (some (.ref a)) ∧ H dd = some (.xd fs) ∧ fs.lookup ("number" : Str) = some v ∧ ∀ p, H p = none → D.rt (.ref p) (upd H p (.tup [.str "BadNumber", v]))
def sTry : Stmt := (defBody sFound).getD 1 (.Pass ⟨0, 0, 0, 0⟩)
def suiteB : List Stmt := match sTry with
  | .Try _ [.ExceptHandler _ _ b _] _ _ _ => b
  | _ => []
section
variable {P : Program} {w : World} {K : PySem.W.Frag} {mg : Str → Option Value} {base : Heap} {CB fI D C fi fl fw fs f : Addr} {fdI fdi fdl fdw fds fd : FuncData}
theorem pss_suite {X : Cx} {a : Addr} {oe : Obj} {cls : Value} {d : Option Addr} {pn : List (Addr × Obj)} (T : FoT X.K X.mg CB fI D C fi fl fw fs fdI fdi fdl fdw fds) (hN : X.N = FN) (hv : X.env.scope = defScope sFound) (hr : Room 4 X.A) (hz : Zc cls d oe) (hf : ∃ vs, oe.data = .fields vs) :
    PSs (X.suite a ((a, oe) :: pn)) suiteB (tSuite CB a cls d) := by
  have v4 : ∀ {p : Pos}, PE (X.suite a ((a, oe) :: pn)) (.Name "_law_e" p) (tVar 4) := fun {p} => pe_var (by show X.N[4]? = _; rw [hN]; rfl) (.inl (by show X.env.scope.names.lookup _ = _; rw [hv]; decide +kernel)) (by decide) (by decide)
  refine ⟨fun pins s σ H De I h => ?_⟩
  obtain ⟨rfl, dd, fs, v, rfl, h4, hd, hl, q⟩ := h
  refine (pss_one (ps_ret (pe_ifExp (pt_val (pe_single (X := X.suite a ((a, oe) :: pn)) (by exact List.mem_cons_self) T.sin hz hf T.Fs T.bs T.ks ⟨by have := hr.dp; show X.A.depth + 3 * 2 + 5 < _; omega, by have := hr.un; show X.A.units + 16 * 2 + 200 < _; omega⟩ (by show List.lookup _ X.env.scope.names = _; rw [hv]; decide +kernel) T.gs v4)) (pe_tup (pa_cons pe_str (pa_cons (pe_xf T.xf T.num.no hz hf v4) pa_nil))) (pe_tup pa_nil)))).run pins s σ H De I ?_
  refine ⟨_, h4, rfl, ⟨fs, hd⟩, true, rfl, ?_⟩
  refine iT rfl ⟨_, h4, rfl, rfl, dd, fs, v, rfl, hd, hl, (by show 2 ≤ sizeLine; decide), fun p hp => q p hp⟩
theorem pure_bad {n : Int} {most : V} {H : Hp} {Q : VK} (T : FoT K mg CB fI D C fi fl fw fs fdI fdi fdl fdw fds) (hn : ¬ (0 ≤ n ∧ n ≤ 10)) (hQ : ∀ (p : Addr) (H' : Hp), Same H H' → H' p = some (.tup [.str "BadNumber", .int n]) → Q (.ref p) H') :
    tSeq (tAsg (tLst tNil) (gName 2)) (tSeq (fun D' σ H' => tBadIf CB (wAs K (.ref CB) 4 (tSuite CB) (fun _ _ _ _ => False) D') D' σ H') (tRet (tVar 2))) { nx := fun _ H' => Q .non H', rt := Q } (start FN [.int n, most]) H := by
  refine ⟨(by decide), fun S hS => ?_⟩
  refine ⟨n, rfl, hn, fun d hd => ⟨true, T.exm, fun _ a ha => ⟨rfl, d, _, .int n, rfl, rfl, upd_same, (by simp [List.lookup]), fun p hp => ?_⟩, fun z => Bool.noConfusion z⟩⟩
  refine hQ p _ (fun b o q => ?_) upd_same
  have h1 : b ≠ S := fun z => by rw [z, hS] at q; cases q
  have h2 : upd H S (.lst []) b = some o := by rw [upd_ne h1]; exact q
  have h3 : b ≠ d := fun z => by rw [z, hd] at h2; cases h2
  have h4 : upd (upd H S (.lst [])) d (.xd [(("number" : Str), .int n)]) b = some o := by rw [upd_ne h3]; exact h2
  have h5 : b ≠ p := fun z => by rw [z, hp] at h4; cases h4
  rw [upd_ne h5]
  exact h4
theorem ok_found (F : Fun K "_law_found" "_law_found" sFound f fd) (T : FoT K mg CB fI D C fi fl fw fs fdI fdi fdl fdw fds) (GG : GenGood P w K mg base fw sWorlds C Ws) : FnOk P w K mg base CX0 14 f fd ["_law_longest", "_law_most"] spFound := by
  have FI : IterOk P w K mg base C fi := ok_iter T.Fi T.bi T.wo.W.cl T.na T.gIter
  have FL : LenOk P w K mg base C fl := ok_len T.Fl T.bl T.wo.W.cl T.na T.wo.gLen
  refine F.ok scF (fun vs H Q E h => ?_) (fun cdv A outer s H vs Q E hr h => ?_)
  · rcases h with ⟨n, m, rfl, _⟩ | ⟨n, m, rfl, _⟩ <;> rfl
  · have hr1 : Room 12 (A.deeper (envOfC "_law_found" (defScope sFound) s.heap.objs.size f cdv)) := hr.mono (by decide)
    rcases h with ⟨n, m, rfl, hn, hm, hQ⟩ | ⟨n, m, rfl, hn, hQ⟩
    · refine ⟨_, PSs.nox ?_, pure_good hn hm hQ⟩
      refine pss_cons (ps_set (i := 2) scF.nd rfl (Or.inl rfl) (pe_lst pa_nil)) (pss_cons ?_ (pss_one (ps_ret (pv 2))))
      exact ps_try_as (i := 4) (tb := fun W => tForW Ws 3 tStepW) (ts := fun _ _ _ => fun _ _ _ => False) (Wout := fun _ _ _ _ => False) rfl rfl scF.nd rfl rfl ⟨rfl, by decide, Or.inl T.num.g⟩ takes0
        (fun W pn xe tk po => pss_one (ps_forW (j := 3) GG T.Fw scW plW T.bw rfl T.gw T.kw (hr1.mono (by decide)) po rfl scF.nd rfl rfl (pv 0)
          (fun S wp a dx t its row W' rv ⟨n', hn', hm'⟩ => qss_body T.wo FI FL rfl rfl (wpin_mono W' fun p hp => List.mem_append_left _ hp) rv (Nat.le_trans (Ws_row hm') (by omega)) (hr1.mono (by decide)))))
        (fun a oe cls d pn hz hf => pss_false)
    · refine ⟨_, PSs.nox ?_, pure_bad T hn hQ⟩
      refine pss_cons (ps_set (i := 2) scF.nd rfl (Or.inl rfl) (pe_lst pa_nil)) (pss_cons ?_ (pss_one (ps_ret (pv 2))))
      exact ps_try_as (i := 4) (tb := fun W => tBadIf CB W) (ts := tSuite CB) (Wout := fun _ _ _ _ => False) rfl rfl scF.nd rfl rfl ⟨rfl, by decide, Or.inl T.num.g⟩ takes0
        (fun W pn xe tk po => pss_one (ps_forBad T.num T.gL T.Fw scW T.bw T.nstop rfl T.gw T.kw (hr1.mono (by decide)) po rfl tk (pv 0)))
        (fun a oe cls d pn hz hf => pss_suite T rfl rfl (hr1.mono (by decide)) hz hf)
end
end WL
namespace WL
open PySem PySem.Spec PyProof.Rows L2 ClX
/-! ### enumerate(tuple) -/
set_option maxHeartbeats 4000000 in
theorem meets_enumT (l : Addr) (items : Array Value) :
    Meets (Builtin.«enumerate.__new__» ⟨[.type "enumerate", .ref l], []⟩) (fun _ R s => s.heap.IsTuple l items ∧
      R (.ok (.ret (.ref (s.heap.push { cls := .type "tuple_iterator", data := .fields #[.ref l, .int 0 0] }).objs.size)))
        { s with heap := (s.heap.push { cls := .type "tuple_iterator", data := .fields #[.ref l, .int 0 0] }).push { cls := .type "enumerate", data := .fields #[.none, .bool false, .ref s.heap.objs.size, rawInt 0, .none, .none] } }) :=
  .of_wp fun prog w A R s h => by
    obtain ⟨hp, g, d, tk, os⟩ := s; obtain ⟨hl, h⟩ := h
    have hsub := sub_enumerate
    have q1 : ∀ {A' : Around} {E : Value → Shared → Prop} {Q : Value → Shared → Prop}, Q (.ref hp.objs.size) ⟨hp.push { cls := .type "tuple_iterator", data := .fields #[.ref l, .int 0 0] }, g, d, tk, os⟩ → wpAny (model prog w) A' (pyIter (.ref l)) Q E ⟨hp, g, d, tk, os⟩ := fun q => wpAny_pyIter_tuple hl q
    wp_walk using q1
    refine wpAny_stack_any fun st => wpAny_pure ?_
    split
    · rename_i c _ _ _ _ _
      cases (c == Value.type "enumerate")
      · wp_walk using q1
        exact ⟨_, rfl, h⟩
      · wp_walk using q1
        exact ⟨_, rfl, h⟩
    · wp_walk using q1
      exact ⟨_, rfl, h⟩
theorem call_enumT {prog : Program} {w : World} {A : Around} {E : Value → Shared → Prop} {s : Shared} {l : Addr} {items : Array Value} {Q : Value → Shared → Prop} (hL : s.heap.IsTuple l items)
    (h : ∀ h', IsEnum h' (s.heap.objs.size + 1) s.heap.objs.size 0 .none → h'.IsTupleIter s.heap.objs.size l 0 → (∀ b o, s.heap.get? b = some o → h'.get? b = some o) → Q (.ref (s.heap.objs.size + 1)) { s with heap := h' }) :
    wpAny (model prog w) A (call (.type "enumerate") [.ref l]) Q E s := by
  refine callType_new F.called_enumerate (by decide) (F.typeCall_enumerate_1 _) (F.newCall_enumerate_1 _) (fun obj => F.args_object_init_2 obj _) F.entry_enumerate_new
    (meets_enumT l items) ⟨hL, ?_⟩
  have hz : (s.heap.push { cls := .type "tuple_iterator", data := .fields #[.ref l, .int 0 0] }).objs.size = s.heap.objs.size + 1 := Heap.size_push ..
  show _ ∧ _
  rw [hz]
  have he : IsEnum ((s.heap.push { cls := .type "tuple_iterator", data := .fields #[.ref l, .int 0 0] }).push { cls := .type "enumerate", data := .fields #[.none, .bool false, .ref s.heap.objs.size, rawInt 0, .none, .none] }) (s.heap.objs.size + 1) s.heap.objs.size 0 .none := by
    have q := Heap.get?_push_size (s.heap.push { cls := .type "tuple_iterator", data := .fields #[.ref l, .int 0 0] }) (o := { cls := .type "enumerate", data := .fields #[.none, .bool false, .ref s.heap.objs.size, rawInt 0, .none, .none] }) rfl
    rw [hz] at q
    exact q
  exact ⟨⟨_, he, rfl⟩, h _ he ⟨_, Heap.get?_push_of_some _ (Heap.get?_push_size _ rfl), rfl, rfl⟩ fun b o x => Heap.get?_push_of_some _ (Heap.get?_push_of_some _ x)⟩
/-- the tuple at a, each item in a new pair -/
def IteT (K : PySem.W.Frag) (a : Addr) : It :=
  ⟨fun i H => ∃ (xs : List V) (x : V), SqT K H a xs ∧ xs[i]? = some x, fun i H v H' => ∃ T x, v = .ref T ∧ H T = none ∧ H' = upd H T (.tup [.int (i : Nat), x]) ∧ ∀ xs, SqT K H a xs → xs[i]? = some x, fun i H => ∃ xs : List V, SqT K H a xs ∧ xs.length = i⟩
theorem turn_enumT {P : Program} {w : World} {K : PySem.W.Frag} {elts : List Expr} {kk : Nat} {tpos : Pos} (a e it : Addr) (hat : a ≠ it) (hae : e ≠ a) :
    Turn P w K (.Tuple elts kk tpos) (IteT K a) [e, it] e (fun i h => (∃ old, IsEnum h e it ((i : Nat) : Int) old) ∧ h.IsTupleIter it a i ∧ e ≠ it) where
  mem := by simp
  obj := fun i h st b hb => by
    obtain ⟨⟨old, he⟩, ⟨o, ho, hc, hd⟩, _⟩ := st
    have e' : b = e ∨ b = it := by simpa using hb
    rcases e' with z | z
    · rw [z]; exact ⟨_, he, fun v q => nomatch q⟩
    · rw [z]; exact ⟨o, ho, fun v q => by rw [hd] at q; cases q⟩
  keep := fun i h h' st k => let ⟨⟨old, he⟩, hi, hne⟩ := st; ⟨⟨old, k e (by simp) _ he⟩, hi.at fun o q => k it (by simp) o q, hne⟩
  item := by
    intro X hP hw hK hc i pins s σ H E I hf st hg
    subst hP hw hK
    obtain ⟨⟨old, he⟩, hit, hne⟩ := st
    obtain ⟨xs, x, hq, hx⟩ := hg
    obtain ⟨its, rv, p, hz⟩ := I.tuple hq
    obtain ⟨u, hu, ru⟩ := rv.get hx
    have hel : e < s.heap.objs.size := Heap.lt_size he
    have hil : it < s.heap.objs.size := by obtain ⟨_, q, _⟩ := hit; exact Heap.lt_size q
    have hlt : i < its.toArray.size := by
      have := (List.getElem?_eq_some_iff.mp hu).1
      simpa using this
    refine wpAny_pyNext_enum_itemD (Draws.tuple (A := X.A.in1) (I.ok.hd hc) it a hat its.toArray) he ⟨hit, p⟩ hlt hne (by simp [hne, hae]) fun y h' tk hy ho hs' hT hsz hk => ?_
    have ey : y = u := by
      have q : its.toArray[i]? = some y := hy
      have q2 : its[i]? = some y := by simpa using q
      rw [hu] at q2
      exact (Option.some.inj q2).symm
    subst ey
    refine ⟨_, rfl, wpAny_letOwnedTupleGo_enum (s := { s with heap := h', toks := tk + 1 }) ho fun h'' he' sb => ?_⟩
    have hT2 : h''.get? s.heap.objs.size = some { cls := .type "tuple", data := .seq #[.int i tk, y] } := (sb.2 _ (Nat.ne_of_gt hel)).trans hT
    have new : ObjOk X.prog X.w (upd H s.heap.objs.size (.tup [.int (i : Nat), x])) h'' s.heap.objs.size (.tup [.int (i : Nat), x]) :=
      ⟨(show 2 ≤ sizeLine by decide), [.int i tk, y], .cons ⟨_, rfl⟩ (.cons ru .nil), ⟨_, hT2, rfl, _, rfl⟩⟩
    have I1 : Inv X pins σ (upd H s.heap.objs.size (.tup [.int (i : Nat), x])) { s with heap := h'', toks := tk + 1 } :=
      I.turnedNew (ch := [e, it]) (fun b ob hb q => (sb.2 b (fun z => hb (by simp [z]))).trans (hk b ob (fun z => hb (by simp [z])) (fun z => hb (by simp [z])) q)) hf (Nat.le_refl _) new
    refine ⟨.ref s.heap.objs.size, _, I1, rfl, ⟨_, x, rfl, I.hok.fresh (Nat.le_refl _), rfl, fun ys hy => ?_⟩, ⟨⟨y, ?_⟩, hs'.1.at fun o q => (sb.2 it (Ne.symm hne)).trans q, hne⟩, fun b hb => ?_⟩
    · rw [I.tuple_inj hy hq]; exact hx
    · have e1 : ((i + 1 : Nat) : Int) = (i : Int) + 1 := by omega
      rw [e1]; exact he'
    · have hb' : b < s.heap.objs.size := by
        have e' : b = e ∨ b = it := by simpa using hb
        rcases e' with z | z
        · rw [z]; exact hel
        · rw [z]; exact hil
      rw [upd_ne (Nat.ne_of_lt hb')]
      exact (hf b hb).1
  done := by
    intro X hP hw hK hc i pins s σ H E I hf st hg
    subst hP hw hK
    obtain ⟨⟨old, he⟩, hit, hne⟩ := st
    obtain ⟨xs, hq, hx⟩ := hg
    obtain ⟨its, rv, p, hz⟩ := I.tuple hq
    obtain ⟨f0, f1, f2, f3, f4, f5⟩ := hf it (by simp)
    have hl : i = its.toArray.size := by rw [List.size_toArray, ← rv.length]; exact hx.symm
    subst hl
    exact wpAny_pyNext_enum_endD (Draws.tuple (A := X.A.in1) (I.ok.hd hc) it a hat its.toArray) he ⟨hit, p⟩ fun h' eb => ⟨rfl, I.turned (t' := s.toks) (fun b o hb q => eb b o hb q) f0 f1 f3 f4 f5⟩
  self := fun A i s Q E st h => let ⟨⟨_, he⟩, _⟩ := st; wpAny_pyIter_enum he h
def iEnumT (K : PySem.W.Frag) (ta : TA) : TI := fun σ H R => ta σ H fun vs H1 => ∃ a xs, vs = [.ref a] ∧ SqT K H1 a xs ∧ R (IteT K a) H1
theorem pi_enumT {X : Cx} {e : Expr} {ta : TA} {p pos tpos : Pos} {elts : List Expr} {kk : Nat} (hg : Gl X "enumerate") (hm : X.mg "enumerate" = none) (ha : PA X [e] ta) (hs : starEach [e] X.env = [(false, eval e X.env)] := by rfl) :
    PI X (.Tuple elts kk tpos) (.Call (.Name "enumerate" p) [e] [] pos) (iEnumT X.K ta) := by
  refine ⟨fun pins s σ H R I h => ?_⟩
  refine Call_ (ld_blt I hg hm boot_enumerate (PyProof.Rows.callWith_type1 (thn (ha.run pos pins s σ H _ I h) fun us s1 ⟨vs, H1, I1, r1, q1⟩ => ?_) hs rfl))
  obtain ⟨a, xs, rfl, hq, q⟩ := q1
  obtain ⟨u, rfl, ru⟩ := r1.one
  cases ru
  obtain ⟨its, rv, p', hz⟩ := I1.tuple hq
  have la : a < s1.heap.objs.size := p'.lt
  refine call_enumT p' fun h' he hit hk => wpAny_pyIter_enum he ?_
  have I2 : Inv X pins σ H1 { s1 with heap := h' } := I1.kept (t' := s1.toks) hk
  refine ⟨s1.heap.objs.size + 1, [s1.heap.objs.size + 1, s1.heap.objs.size], _, _, H1, rfl, I2, turn_enumT a (s1.heap.objs.size + 1) s1.heap.objs.size (Nat.ne_of_lt la) (Nat.ne_of_gt (Nat.lt_succ_of_lt la)), ⟨⟨.none, he⟩, hit, Nat.succ_ne_self _⟩, fun b hb => ?_, q⟩
  have hle : s1.heap.objs.size ≤ b := by
    have e' : b = s1.heap.objs.size + 1 ∨ b = s1.heap.objs.size := by simpa using hb
    rcases e' with z | z
    · rw [z]; exact Nat.le_add_right _ _
    · rw [z]; exact Nat.le_refl _
  exact I1.fpOk hle (I1.hok.fresh hle)
end WL
namespace WL
open PySem PySem.Spec PyProof.Rows L2 ClX
abbrev IN : List Str := ["self", "answers", "index", "answer"]
theorem scI : FnScope IN ["self", "answers"] (defScope sWorldI) := ⟨rfl, rfl, rfl, by decide +kernel, rfl, by decide +kernel, by decide +kernel⟩
abbrev tup01 : TE := tTup (tCons (tC (.int 0)) (tCons (tC (.int 1)) tNil))
def t_wI (K : PySem.W.Frag) : TS :=
  tSeq (tFor (iEnumT K (tCons (tVar 1) tNil)) (gTup K 2 (gCons (gName 2) (gCons (gName 3) gNil))) (tSeq (tIfS (tTest (tOp (rIn K true) (tVar 3) tup01)) (fun _ _ _ => False) tNext) tNext))
  (tSeq (sFld K (tVar 0) (tCB (fun xs H Q => ∃ p ys, xs = [.ref p] ∧ ((SqL K H p ys ∧ ∀ l, H l = none → Q (.ref l) (upd H l (.tup ys))) ∨ (SqT K H p ys ∧ Q (.ref p) H))) (tCons (tVar 1) tNil)) "answers")
  (sFld K (tVar 0) (tTup (tCons (tCB (rLen K) (tCons (tVar 1) tNil)) (tCons (tCB (fun xs H Q => ∃ p ys, xs = [.ref p] ∧ ((SqL K H p ys ∧ ∀ l, H l = none → Q (.ref l) (upd H l (.tup ys))) ∨ (SqT K H p ys ∧ Q (.ref p) H))) (tCons (tVar 1) tNil)) tNil))) "place"))
/-- World.__init__ -/
def spWI (K : PySem.W.Frag) (C : Addr) : Sp := fun vs H Q _ => ∃ (x dx t : Addr) (row : List Int), vs = [.ref x, .ref t] ∧ H x = some (.ins C dx []) ∧ Rd H t (.tup (row.map V.int)) ∧ (∀ z ∈ row, z = 0 ∨ z = 1) ∧
  ∀ (p : Addr) (H' : Hp), (∀ b u, b ≠ x → H b = some u → H' b = some u) → H' x = some (.ins C dx [("answers", .ref t), ("place", .ref p)]) → Q .non H'
section
variable {P : Program} {w : World} {K : PySem.W.Frag} {mg : Str → Option Value} {base : Heap} {f C : Addr} {fd : FuncData}
theorem ok_wI (F : Fun K "__init__" "World.__init__" sWorldI f fd) (cl : Cls K C) (n1 : NoAttr K C "answers") (n2 : NoAttr K C "place") (ge : mg "enumerate" = none) (gt : mg "tuple" = none) (gl : mg "len" = none) : FnOk P w K mg base CX0 1 f fd ["self", "answers"] (spWI K C) := by
  refine F.ok scI (fun vs H Q E h => ?_) (fun cdv A outer s H vs Q E hr h => ⟨t_wI K, PSs.nox ?_, ?_⟩)
  · obtain ⟨x, dx, t, row, rfl, _⟩ := h
    rfl
  · refine pss_cons (ps_for PassesOwn.never rfl (pi_enumT rfl ge (pa_cons (pv 1) pa_nil)) (pg_tup rfl (pgs_cons (pg_name (i := 2) scI.nd rfl (Or.inl rfl)) (pgs_cons (pg_name (i := 3) scI.nd rfl (Or.inl rfl)) pgs_nil))) (pss_cons (ps_if (pt_cmpR op_notIn_seq (pv 3) (pe_tup (pa_cons pe_int (pa_cons pe_int pa_nil))) (by with_unfolding_all rfl)) pss_false pss_nil) pss_nil)) ?_
    exact pss_cons (ps_fld (pv 0) (pe_callTy call_tuple_of rfl gt PyProof.Rows.Boot.«tuple» (pa_cons (pv 1) pa_nil)) rfl) (pss_one (ps_fld (pv 0) (pe_tup (pa_cons (pe_callB call_len rfl gl PyProof.Rows.Boot.«len» (pa_cons (pv 1) pa_nil)) (pa_cons (pe_callTy call_tuple_of rfl gt PyProof.Rows.Boot.«tuple» (pa_cons (pv 1) pa_nil)) pa_nil))) rfl))
  · obtain ⟨x, dx, t, row, rfl, hx, ht, h01, q⟩ := h
    have hxt : t ≠ x := fun z => by
      rcases ht with z2 | ⟨o, z2⟩ <;> (rw [z, hx] at z2; cases z2)
    refine ⟨_, rfl, t, row.map V.int, rfl, .inl ht, for_it (J := IteT K t) (n := (row.map V.int).length) (G := fun H' => SqT K H' t (row.map V.int)) (Y := fun i H v H' => ∃ T y, v = .ref T ∧ H T = none ∧ H' = upd H T (.tup [.int (i : Nat), y]) ∧ (row.map V.int)[i]? = some y)
      ⟨fun i H' hi hs => ⟨_, (row.map V.int)[i], hs, by simp [hi]⟩, fun H' hs => ⟨_, hs, rfl⟩, fun i H' v H'' hi hs ⟨T, y, e1, e2, e3, e4⟩ => ⟨T, y, e1, e2, e3, e4 _ hs⟩⟩
      (fun i σ H' => ∃ v2 v3, σ = [some (.ref x), some (.ref t), v2, v3] ∧ Same H H') ⟨none, none, rfl, Same.refl _⟩ (fun i σ H' hi ⟨_, _, _, sm⟩ => Same.seqT sm (.inl ht)) (fun i v σ H' H'' hi ⟨v2, v3, eσ, sm⟩ ⟨T, y, ev, hT, eH, hy⟩ => ?_) (fun σ H' ⟨v2, v3, eσ, sm⟩ => ?_)⟩
    · subst eσ ev eH
      have hy2 : y = .int 0 ∨ y = .int 1 := by
        rw [List.getElem?_map] at hy
        cases e : row[i]? with
        | none => rw [e] at hy; cases hy
        | some z =>
          rw [e] at hy
          cases hy
          rcases h01 z (List.mem_of_getElem? e) with rfl | rfl
          · exact .inl rfl
          · exact .inr rfl
      have sm2 : Same H (upd H' T (.tup [.int (i : Nat), y])) := fun b u e => by
        have h1 : b ≠ T := fun z => by have := sm b u e; rw [z, hT] at this; cases this
        rw [upd_ne h1]
        exact sm b u e
      refine ⟨T, _, rfl, .inl (.inl upd_same), rfl, _, _, rfl, _, _, rfl, rfl, ?_⟩
      refine ⟨_, rfl, (show 2 ≤ sizeLine by decide), fun p hp => ?_⟩
      have sm3 : Same H (upd (upd H' T (.tup [.int (i : Nat), y])) p (.tup [.int 0, .int 1])) := fun b u e => by
        have h1 : b ≠ p := fun z => by have := sm2 b u e; rw [z, hp] at this; cases this
        rw [upd_ne h1]
        exact sm2 b u e
      rcases hy2 with rfl | rfl
      · exact ⟨p, _, rfl, .inr (.inl (.inl upd_same)), rfl, rfl, false, rfl, _, _, rfl, sm3⟩
      · exact ⟨p, _, rfl, .inr (.inl (.inl upd_same)), rfl, rfl, false, rfl, _, _, rfl, sm3⟩
    · subst eσ
      have hx' := sm x _ hx
      have ht' : Rd H' t (.tup (row.map V.int)) := rd_same sm ht
      refine ⟨_, rfl, t, _, rfl, .inr ⟨.inl ht', ?_⟩⟩
      refine ⟨_, rfl, x, C, dx, [], rfl, hx', cl, n1, by decide, ?_⟩
      have ht2 : ∀ u, Rd (upd H' x u) t (.tup (row.map V.int)) := fun u => by
        rcases ht' with z | ⟨o, z⟩
        · exact .inl (by rw [upd_ne hxt]; exact z)
        · exact .inr ⟨o, by rw [upd_ne hxt]; exact z⟩
      refine ⟨_, rfl, _, (row.map V.int).length, rfl, ?_, _, rfl, t, _, rfl, .inr ⟨.inl (ht2 _), (show 2 ≤ sizeLine by decide), fun p hp => ?_⟩⟩
      · exact .inr ⟨_, .inl (ht2 _), rfl⟩
      · have hpx : p ≠ x := fun z => by rw [z, upd_same] at hp; cases hp
        refine ⟨_, rfl, x, C, dx, [(("answers" : Str), .ref t)], rfl, (by rw [upd_ne (Ne.symm hpx)]; exact upd_same), cl, n2, (show 1 < 1000 by decide), ?_⟩
        refine q p _ (fun b u hb e => ?_) ?_
        · have h1 : H' b = some u := sm b u e
          have h2 : b ≠ p := fun z => by rw [upd_ne hpx, ← z, h1] at hp; cases hp
          rw [upd_ne hb, upd_ne h2, upd_ne hb]
          exact h1
        · rw [upd_same]
          rfl
end
end WL
namespace WL
open PySem PySem.Spec PyProof.Rows L2 ClX
def wFor : Stmt := (defBody sWorlds).getD 2 (.Pass ⟨0, 0, 0, 0⟩)
def wInner : Stmt := match wFor with
  | .For _ _ (b :: _) _ _ => b
  | _ => .Pass ⟨0, 0, 0, 0⟩
def wGrow : Stmt := match wFor with
  | .For _ _ [_, b] _ _ => b
  | _ => .Pass ⟨0, 0, 0, 0⟩
section
variable {X : Cx} {C fI : Addr} {fd : FuncData}
/-- World(row) -/
theorem pe_world {p q pos : Pos} (M : Mk X.K C fI) (F : Fun X.K "__init__" "World.__init__" sWorldI fI fd) (b : Binds X.K fd ["self", "answers"] []) (cl : Cls X.K C) (n1 : NoAttr X.K C "answers") (n2 : NoAttr X.K C "place") (ge : X.mg "enumerate" = none) (gt : X.mg "tuple" = none) (gl : X.mg "len" = none)
    (g : X.mg "World" = some (.ref C)) (hg : Gl X "World") (hr : Room 2 X.A) (v3 : PE X (.Name "row" q) (tVar 3)) : PE X (.Call (.Name "World" p) [.Name "row" q] [] pos) (tWorld X.K C) := by
  refine pe_imp (pe_make (E := E0) (CX := CX0) M (ok_wI F cl n1 n2 ge gt gl) hr hg g b .nil pass0 (pa_cons v3 pa_nil)) fun σ H Q ⟨t, row, h3, ht, h01, hl, q⟩ => ?_
  refine ⟨_, h3, fun x dx hx hdx hne => ?_⟩
  have nx : ∀ {b : Addr} {u : HO}, H b = some u → b ≠ x ∧ b ≠ dx := fun {b u} e => ⟨ne_of_none e hx, ne_of_none e hdx⟩
  have keep : ∀ {b : Addr} {u : HO}, H b = some u → upd (upd H dx (.own x)) x (.ins C dx []) b = some u := fun {b u} e => by
    rw [upd_ne (nx e).1, upd_ne (nx e).2]
    exact e
  refine ⟨x, dx, t, row, rfl, upd_same, ?_, h01, fun p H' hk hx' => ⟨rfl, q x dx p H' (fun b u e => hk b u (nx e).1 (keep e)) hx'⟩⟩
  rcases ht with z | ⟨o, z⟩
  · exact .inl (keep z)
  · exact .inr ⟨o, keep z⟩
/-- list(rows) -/
theorem pe_copy {p q pos : Pos} (gl : X.mg "list" = none) (hg : Gl X "list") (v1 : PE X (.Name "rows" q) (tVar 1)) : PE X (.Call (.Name "list" p) [.Name "rows" q] [] pos) tCopy := by
  refine pe_imp (pe_callTy call_list_of hg gl PyProof.Rows.Boot.«list» (pa_cons v1 pa_nil)) fun σ H Q ⟨r, xs, h1, hr, q⟩ => ⟨_, h1, r, xs, rfl, .inl (.inl hr), fun l hl => q l _ (fun b u e => ?_) upd_same⟩
  rw [upd_ne (ne_of_none e hl)]
  exact e
/-- range(longest + 1) -/
theorem prg_n {p q pos pos2 pos3 : Pos} {j : Nat} (gr : X.mg "range" = none) (hg : Gl X "range") (v0 : PE X (.Name "longest" q) (tVar 0)) : PRg X (.Call (.Name "range" p) [.BinOp (.Name "longest" q) .Add (.Constant (.int 1) j pos3) pos2] [] pos) tRngN := by
  intro pins s σ H Q I h
  obtain ⟨n, h0, hn, q⟩ := h
  have P := prg_1 (p := p) (pos := pos) hg gr (pe_op (pos := pos2) op_add v0 (pe_int (i := 1) (j := j) (pos := pos3)))
  exact P pins s σ H Q I ⟨_, h0, (n : Int), 1, rfl, rfl, _, rfl, by rw [Int.natCast_add] at q; exact q⟩
/-- rows = [()] -/
theorem ps_rows0 {p q q1 pos : Pos} {j : Nat} (hN : X.N.Nodup) (h1 : X.N[1]? = some ("rows" : Str)) (hl : X.env.scope.names.lookup ("rows" : Str) = some .local) : PS X (.Assign [.Name "rows" p] (.List [.Tuple [] j q1] q) pos) tRows0 := by
  refine ps_imp (ps_set (i := 1) hN h1 (Or.inl hl) (hf := .inr hl) (pe_lst (pa_cons (pe_tup pa_nil) pa_nil))) fun D σ H h => ⟨by decide, fun t ht => ⟨(show 1 ≤ sizeLine by decide), fun r hr => ?_⟩⟩
  have hrt : t ≠ r := fun z => by rw [← z, upd_same] at hr; cases hr
  refine h r t _ (fun b u e => ?_) ⟨.inl upd_same, fun p hp => ?_⟩
  · have h2 : b ≠ t := ne_of_none e ht
    have h3 : upd H t (.tup []) b = some u := by rw [upd_ne h2]; exact e
    rw [upd_ne (ne_of_none h3 hr)]
    exact h3
  · rw [List.mem_singleton.mp hp]
    exact .inl (by rw [upd_ne hrt]; exact upd_same)
end
end WL
namespace WL
open PySem PySem.Spec PyProof.Rows L2 ClX
theorem next_len : ∀ l : List (List Int), (nextRows l).length = 2 * l.length
  | [] => rfl
  | r :: l => by
    show ([r ++ [0], r ++ [1]] ++ nextRows l).length = _
    rw [List.length_append, next_len l]
    simp only [List.length_cons, List.length_nil]
    omega
theorem next_take {l : List (List Int)} {i : Nat} {r : List Int} (h : l[i]? = some r) : nextRows (l.take (i + 1)) = nextRows (l.take i) ++ [r ++ [0], r ++ [1]] := by
  rw [List.take_add_one, h]
  unfold nextRows
  rw [List.flatMap_append]
  simp
/-- the new list, as far as it has grown -/
structure Acc (H0 H : Hp) (D : Addr) (rows : List (Addr × List Int)) : Prop where
  hd : H D = some (.lst (rows.map fun p => V.ref p.1))
  ht : ∀ p ∈ rows, H p.1 = some (.tup (p.2.map V.int)) ∧ p.1 ≠ D
  sm : ∀ b u, b ≠ D → H0 b = some u → H b = some u
theorem Acc.same {H0 H H' : Hp} {D : Addr} {rows : List (Addr × List Int)} (x : Acc H0 H D rows) (e : Same H H') : Acc H0 H' D rows :=
  ⟨e _ _ x.hd, fun p hp => ⟨e _ _ (x.ht p hp).1, (x.ht p hp).2⟩, fun b u hb q => e _ _ (x.sm b u hb q)⟩
theorem Acc.add {H0 H : Hp} {D p : Addr} {v : List Int} {rows : List (Addr × List Int)} (x : Acc H0 H D rows) (hp : H p = some (.tup (v.map V.int))) : Acc H0 (upd H D (.lst ((rows.map fun p => V.ref p.1) ++ [V.ref p]))) D (rows ++ [(p, v)]) := by
  have ne : p ≠ D := fun z => by rw [z, x.hd] at hp; cases hp
  refine ⟨by rw [upd_same, List.map_append]; rfl, fun q hq => ?_, fun b u hb q => by rw [upd_ne hb]; exact x.sm b u hb q⟩
  rcases List.mem_append.mp hq with h | h
  · obtain ⟨h1, h2⟩ := x.ht q h
    exact ⟨by rw [upd_ne h2]; exact h1, h2⟩
  · rw [List.mem_singleton.mp h]
    exact ⟨by rw [upd_ne ne]; exact hp, ne⟩
abbrev tCat (K : PySem.W.Frag) : TE := tOp (rCatA K) (tVar 3) (tTup (tCons (tVar 4) tNil))
theorem same_upd {H : Hp} {p : Addr} {u : HO} (h : H p = none) : Same H (upd H p u) := fun b w e => by
  rw [upd_ne (ne_of_none e h)]
  exact e
/-- row + (answer,) -/
theorem cat_row {K : PySem.W.Frag} {n r a : Option V} {t : Addr} {v : List Int} {c : Int} {H : Hp} {Q : VK} (ht : Rd H t (.tup (v.map V.int))) (hv : v.length ≤ 20) (q : ∀ p H', Same H H' → H' p = some (.tup ((v ++ [c]).map V.int)) → Q (.ref p) H') : tCat K [n, r, a, some (.ref t), some (.int c)] H Q := by
  refine ⟨_, rfl, _, rfl, (show 1 ≤ sizeLine by decide), fun p hp => ?_⟩
  have sm := same_upd (u := .tup [V.int c]) hp
  refine ⟨t, p, v.map V.int, [.int c], rfl, rfl, .inl (rd_same sm ht), .inl (.inl upd_same), ?_, fun hx => ?_, fun _ hy => (by cases hy), fun _ _ p2 hp2 => ?_⟩
  · rw [List.length_map, sizeLine_eq]
    show v.length + 1 ≤ _
    omega
  · have hv0 : v = [] := by cases v with
      | nil => rfl
      | cons z l => cases hx
    subst hv0
    exact q p _ sm upd_same
  · refine q p2 _ (fun b u e => same_upd hp2 b u (sm b u e)) ?_
    rw [upd_same, List.map_append]
    rfl
theorem tyes_t {σ : L2.St} {H : Hp} {A B : Hp → Prop} (h : A H) : tYes σ H (fun b H3 => if b = true then A H3 else B H3) := by
  show if true = true then A H else B H
  rw [if_pos rfl]
  exact h
theorem pure_grow {K : PySem.W.Frag} {k : Nat} {D : Ends} {σ : L2.St} {H : Hp} (h : tGrow k D σ H) :
    tAsg (tLc2 (iList K (tVar 1)) (gName 3) tYes (iTup K tup01) (gName 4) tYes (tCat K) [3, 4] [4]) (gName 1) D σ H := by
  obtain ⟨n, r, a, b, rows, rfl, R, hk, hk10, q⟩ := h
  have hlen : rows.length = 2 ^ k := by
    have := congrArg List.length hk
    rw [List.length_map, lev_len] at this
    exact this
  have h1024 : rows.length ≤ 1024 := by
    rw [hlen]
    exact Nat.pow_le_pow_right (by decide) hk10
  refine ⟨_, rfl, r, rfl, ⟨_, .inl R.hr⟩, fun Dl hD => ?_⟩
  have hrl : ∀ {H' : Hp} {rs : List (Addr × List Int)}, Acc H H' Dl rs → SqL K H' r (rows.map fun p => V.ref p.1) := fun {H' rs} x => by
    have step : ∀ {u : HO}, H r = some u → H' r = some u := fun {u} e => x.sm r u (ne_of_none e hD) e
    rcases R.hr with z | ⟨o, z⟩
    · exact .inl (.inl (step z))
    · exact .inl (.inr ⟨o, step z⟩)
  refine ⟨fun i m H' => m = rows.length - i ∧ i ≤ rows.length ∧ ∃ rs, Acc H H' Dl rs ∧ rs.map (·.2) = nextRows ((lev k).take i), ⟨rows.length, rfl, Nat.zero_le _, [], ⟨upd_same, fun p hp => (by cases hp), fun b u hb e => by rw [upd_ne hb]; exact e⟩, rfl⟩, ?_⟩
  rintro i m H1 ⟨rfl, hi, rs, x, hrs⟩
  by_cases hlt : i < rows.length
  · refine .inr ⟨⟨_, V.ref rows[i].1, hrl x, by simp [hlt]⟩, fun H' => ∃ rs, Acc H H' Dl rs ∧ rs.map (·.2) = nextRows ((lev k).take (i + 1)), fun H' hN => ⟨rows.length - (i + 1), by omega, rfl, hlt, hN⟩, fun v H' ⟨eH, hv⟩ => ?_⟩
    subst eH
    have ev := hv _ (hrl x)
    rw [List.getElem?_map, List.getElem?_eq_getElem hlt] at ev
    have ev' : v = V.ref rows[i].1 := (Option.some.inj ev).symm
    subst ev'
    have hrow : (lev k)[i]? = some rows[i].2 := by
      rw [← hk, List.getElem?_map, List.getElem?_eq_getElem hlt]
      rfl
    have hmem : rows[i] ∈ rows := List.getElem_mem hlt
    have hlr : rows[i].2.length ≤ 20 := by
      have := (lev_row k _ (List.mem_of_getElem? hrow)).2
      omega
    refine ⟨rfl, tyes_t ?_⟩
    refine ⟨(show 2 ≤ sizeLine by decide), fun p hp => ⟨p, rfl, ⟨_, .inl (.inl upd_same)⟩, ?_⟩⟩
    have x2 := x.same (same_upd (u := .tup [V.int 0, V.int 1]) hp)
    refine ⟨fun j m' H' => m' = 2 - j ∧ j ≤ 2 ∧ H' p = some (.tup [V.int 0, V.int 1]) ∧ ∃ rs, Acc H H' Dl rs ∧ rs.map (·.2) = nextRows ((lev k).take i) ++ ([rows[i].2 ++ [0], rows[i].2 ++ [1]] : List (List Int)).take j, ⟨2, rfl, by omega, upd_same, rs, x2, by rw [hrs]; simp⟩, ?_⟩
    rintro j m' H2 ⟨rfl, hj, hp2, rs2, x3, hrs2⟩
    by_cases hj2 : j < 2
    · have hc : ∃ c : Int, ([V.int 0, V.int 1] : List V)[j]? = some (.int c) ∧ ([rows[i].2 ++ [0], rows[i].2 ++ [1]] : List (List Int))[j]? = some (rows[i].2 ++ [c]) := by
        rcases j with _ | _ | j
        · exact ⟨0, rfl, rfl⟩
        · exact ⟨1, rfl, rfl⟩
        · omega
      obtain ⟨c, hc1, hc2⟩ := hc
      refine .inr ⟨⟨_, _, .inl (.inl hp2), hc1⟩, fun H' => H' p = some (.tup [V.int 0, V.int 1]) ∧ ∃ rs, Acc H H' Dl rs ∧ rs.map (·.2) = nextRows ((lev k).take i) ++ ([rows[i].2 ++ [0], rows[i].2 ++ [1]] : List (List Int)).take (j + 1), fun H' hN => ⟨2 - (j + 1), by omega, rfl, hj2, hN⟩, fun v H' ⟨eH, hv⟩ => ?_⟩
      subst eH
      have ev := hv _ (.inl (.inl hp2))
      rw [hc1] at ev
      have ev' : v = V.int c := (Option.some.inj ev).symm
      subst ev'
      refine ⟨rfl, tyes_t ?_⟩
      have htq : Rd H' rows[i].1 (.tup (rows[i].2.map V.int)) := by
        have step : ∀ {u : HO}, H rows[i].1 = some u → H' rows[i].1 = some u := fun {u} e => x3.sm _ u (ne_of_none e hD) e
        rcases R.ht _ hmem with z | ⟨o, z⟩
        · exact .inl (step z)
        · exact .inr ⟨o, step z⟩
      refine cat_row htq hlr fun p3 H3 sm hp3 => ?_
      have x4 := x3.same sm
      have hl2 := congrArg List.length hrs2
      rw [List.length_map, List.length_append, next_len, List.length_take, List.length_take] at hl2
      refine ⟨_, x4.hd, ?_, ?_, rs2 ++ [(p3, rows[i].2 ++ [c])], x4.add hp3, ?_⟩
      · rw [List.length_map, sizeLine_eq]
        simp only [List.length_cons, List.length_nil] at hl2
        rw [lev_len, ← hlen] at hl2
        omega
      · have ne : p ≠ Dl := fun z => by
          have z2 := x3.hd
          rw [← z, hp2] at z2
          cases z2
        rw [upd_ne ne]
        exact sm _ _ hp2
      · rw [List.map_append, hrs2, List.take_add_one, hc2, List.append_assoc]
        rfl
    · have ej : j = 2 := by omega
      subst ej
      refine .inl ⟨⟨_, .inl (.inl hp2), by decide⟩, rs2, x3, ?_⟩
      rw [hrs2, next_take hrow]
      rfl
  · have ei : i = rows.length := by omega
    subst ei
    refine .inl ⟨⟨_, hrl x, by rw [List.length_map]; exact Nat.le_refl _⟩, ?_⟩
    refine q Dl rs H1 (fun b' u e => x.sm b' u (ne_of_none e hD) e) ⟨.inl x.hd, fun p hp => .inl (x.ht p hp).1⟩ ?_
    rw [hrs, List.take_of_length_le (by rw [lev_len]; omega)]
    rfl
end WL
namespace WL
open PySem PySem.Spec PyProof.Rows L2 ClX
theorem pow_pos2 (k : Nat) : 1 ≤ 2 ^ k := Nat.one_le_two_pow
theorem pow_mono {a b : Nat} (h : a ≤ b) : 2 ^ a ≤ 2 ^ b := Nat.pow_le_pow_right (by decide) h
theorem WsI_at : ∀ (n k j : Nat), k ≤ n → j < 2 ^ k → (WsI n)[2 ^ k - 1 + j]? = (lev k)[j]?
  | 0, k, j, hk, hj => by
    have e : k = 0 := by omega
    subst e
    have e : j = 0 := by have : 2 ^ 0 = 1 := rfl; omega
    subst e
    rfl
  | n + 1, k, j, hk, hj => by
    rw [WsI_succ]
    have hl := WsI_len n
    by_cases h : k ≤ n
    · have h1 : 2 ^ (k + 1) ≤ 2 ^ (n + 1) := pow_mono (by omega)
      have h2 : 2 ^ (k + 1) = 2 ^ k * 2 := Nat.pow_succ 2 k
      have h3 := pow_pos2 k
      rw [List.getElem?_append_left (by omega)]
      exact WsI_at n k j h hj
    · have e : k = n + 1 := by omega
      subst e
      rw [List.getElem?_append_right (by omega)]
      congr 1
      omega
/-- what is still to come ahead of level k -/
def remW (n k : Nat) : Nat := 2 ^ (n + 1) - 2 ^ k
theorem rem_step {n k : Nat} (h : k ≤ n) : remW n k = remW n (k + 1) + (lev k).length := by
  rw [lev_len]
  unfold remW
  have h1 : 2 ^ (k + 1) ≤ 2 ^ (n + 1) := pow_mono (by omega)
  have h2 : 2 ^ (k + 1) = 2 ^ k * 2 := Nat.pow_succ 2 k
  omega
theorem rem_end (n : Nat) : remW n (n + 1) = 0 := Nat.sub_self _
theorem Ws_len2 (n : Nat) : (Ws n).length = 2 ^ (n + 1) - 1 := by
  have := WsI_len n
  rw [Ws_len]
  omega
theorem rem_le (n k : Nat) : remW n k ≤ (Ws n).length := by
  rw [Ws_len2]
  unfold remW
  have := pow_pos2 k
  omega
theorem rem_all (n : Nat) : remW n 0 = (Ws n).length := by
  rw [Ws_len2]
  rfl
theorem Ws_at {n k j : Nat} (hk : k ≤ n) (hj : j < (lev k).length) : ∃ q, (lev k)[j]? = some q ∧ (Ws n)[(Ws n).length - (remW n (k + 1) + ((lev k).length - j))]? = some (q.map V.int) := by
  refine ⟨_, List.getElem?_eq_getElem hj, ?_⟩
  have e : (Ws n).length - (remW n (k + 1) + ((lev k).length - j)) = 2 ^ k - 1 + j := by
    rw [lev_len] at hj
    rw [Ws_len2, lev_len]
    unfold remW
    have h1 : 2 ^ (k + 1) ≤ 2 ^ (n + 1) := pow_mono (by omega)
    have h2 : 2 ^ (k + 1) = 2 ^ k * 2 := Nat.pow_succ 2 k
    have h3 := pow_pos2 k
    omega
  rw [e]
  unfold Ws
  rw [List.getElem?_map, WsI_at n k j hk (by rw [← lev_len]; exact hj), List.getElem?_eq_getElem hj]
  rfl
section
variable {P : Program} {w : World} {K : PySem.W.Frag} {mg : Str → Option Value} {base : Heap} {CB fN D C fI fw : Addr} {fdN fd : FuncData}
abbrev wBody (i : Nat) : Stmt := (defBody sWorlds).getD i (.Pass ⟨0, 0, 0, 0⟩)
def stGrow : Stmt := match wBody 2 with
  | .For _ _ [_, b] _ _ => b
  | _ => .Pass ⟨0, 0, 0, 0⟩
theorem ndWN : WN.Nodup := by decide +kernel
def scB : Scope := { kind := ScopeKind.function, names := [(".0", NameKind.local), ("row", NameKind.local), ("answer", NameKind.local)], isGenerator := false, isCoroutine := false, more := [] }
theorem okB : BlkOk WN (defScope sWorlds) scB [("row", 3), ("answer", 4)] := ⟨rfl, by decide +kernel, by decide +kernel, by decide +kernel, by decide +kernel⟩
theorem ps_grow {A : Around} {outer : List Env} {cd : Value} {L a : Addr} {go : Obj} (k : Nat) (s₀ : Shared) : PS ((mkG P w K mg base A outer sWorlds fw cd L a go).cx s₀ xF) stGrow (tGrow k) := by
  refine ps_imp (ps_setLc2 (i := 1) (own := [("row", 3), ("answer", 4)]) (vs1 := [4]) rfl ndWN rfl rfl rfl (pi_list (pv 1)) okB (by decide)
    (fun _ _ _ _ _ => pg_name (i := 3) ndWN rfl (Or.inl rfl)) (fun _ _ _ _ _ => pts_nil) (fun _ _ _ _ _ => pi_tup (pe_tup (pa_cons pe_int (pa_cons pe_int pa_nil)))) (fun _ _ _ _ _ => pg_name (i := 4) ndWN rfl (Or.inl rfl)) (fun _ _ _ _ _ => pts_nil)
    (fun _ _ _ _ _ => pe_op op_catA (pv 3) (pe_tup (pa_cons (pv 4) pa_nil)))) fun D σ H h => pure_grow h
/-- what the top has written of World's making -/
structure WoM (K : PySem.W.Frag) (mg : Str → Option Value) (C fI : Addr) (fd : FuncData) : Prop where
  M : Mk K C fI
  F : Fun K "__init__" "World.__init__" sWorldI fI fd
  b : Binds K fd ["self", "answers"] []
  cl : Cls K C
  n1 : NoAttr K C "answers"
  n2 : NoAttr K C "place"
  ge : mg "enumerate" = none
  gt : mg "tuple" = none
  gl : mg "len" = none
  gli : mg "list" = none
  gr : mg "range" = none
  g : mg "World" = some (.ref C)
theorem gen_good (T : NumC K mg CB fN D fdN) (hL : ∃ t, mg "LONGEST" = some (.int 10 t)) (M : WoM K mg C fI fd) : GenGood P w K mg base fw sWorlds C Ws := by
  intro A outer cd L a go ok n s₀ H hn x
  have room : Room 7 (A.deeper (mkG P w K mg base A outer sWorlds fw cd L a go).env) := ok.room.deeper _
  exact gen_start (C := C) (n := n) (rem := remW n) (stC := stGrow) ok rfl (fun s₀ => pe_world M.M M.F M.b M.cl M.n1 M.n2 M.ge M.gt M.gl M.g rfl (room.mono (by decide)) (pv 3)) (fun s₀ => pg_name (i := 3) ndWN rfl (Or.inl rfl)) (fun s₀ => pg_name (i := 2) ndWN rfl (Or.inl rfl)) (fun s₀ => pe_copy M.gli rfl (pv 1))
    (fun k s₀ => ps_grow k s₀) (by intro _; rfl) (by intro _; rfl) (fun s₀ => ps_imp (ps_ifN (X := (mkG P w K mg base A outer sWorlds fw cd L a go).cx s₀ xF) T rfl rfl hL rfl (room.mono (by decide)) takes0) fun D σ H h => pure_okIf h) (fun s₀ => ps_rows0 ndWN rfl rfl) (fun s₀ => prg_n M.gr rfl (pv 0))
    (fun k p hp => ⟨(lev_row k p hp).1, fun hk => by have := (lev_row k p hp).2; omega⟩) (fun k hk => rem_step hk) (rem_end n) (rem_le n) hn (fun k j hk hj => Ws_at hk hj) (rem_all n) x
end
end WL
namespace WL
open PySem PySem.Spec PyProof.Rows L2 ClX
/-- a list of lists of whole numbers -/
structure RwL (H : Hp) (r : Addr) (rows : List (Addr × List Int)) : Prop where
  hr : H r = some (.lst (rows.map fun p => V.ref p.1))
  ht : ∀ p ∈ rows, H p.1 = some (.lst (p.2.map V.int))
theorem RwL.same {H H' : Hp} {r : Addr} {rows : List (Addr × List Int)} (x : RwL H r rows) (e : Same H H') : RwL H' r rows := ⟨e _ _ x.hr, fun p hp => e _ _ (x.ht p hp)⟩
abbrev RN : List Str := ["_law_longest", "_law_rows_here", "_law_last", "_law_k", "_law_fresh", "_law_row"]
theorem scR : FnScope RN ["_law_longest"] (defScope sRows) := ⟨rfl, rfl, rfl, by decide +kernel, rfl, by decide +kernel, by decide +kernel⟩
abbrev tOneMore (c : Int) : TE := tOp rCat (tVar 5) (tLst (tCons (tC (.int c)) tNil))
abbrev tFreshTurn : TS := tAsg (tOp rCat (tVar 4) (tLst (tCons (tOneMore 0) (tCons (tOneMore 1) tNil)))) (gName 4)
abbrev tRowsTurn (K : PySem.W.Frag) : TS := tSeq (tAsg (tLst tNil) (gName 4)) (tSeq (tFor (iList K (tVar 2)) (gName 5) tFreshTurn)
  (tSeq (tAsg (tOp rCat (tVar 1) (tVar 4)) (gName 1)) (tAsg (tVar 4) (gName 2))))
abbrev t_rows (K : PySem.W.Frag) : TS := tSeq (tAsg (tLst (tCons (tLst tNil) tNil)) (gName 1)) (tSeq (tAsg (tLst (tCons (tLst tNil) tNil)) (gName 2)) (tSeq (tFor (iRng1 (tCons (tVar 0) tNil)) (gName 3) (tRowsTurn K)) (tRet (tVar 1))))
/-- _law_rows -/
def spRows : Sp := fun vs H Q _ => ∃ n : Nat, vs = [.int n] ∧ n ≤ 10 ∧ ∀ (r : Addr) (rows : List (Addr × List Int)) (H' : Hp), Same H H' → RwL H' r rows → rows.map (·.2) = WsI n → Q (.ref r) H'
theorem sUpd {H H' : Hp} {p : Addr} {u : HO} (e : Same H H') (h : H' p = none) : Same H (upd H' p u) := fun b w q => by
  have q' := e b w q
  rw [upd_ne (ne_of_none q' h)]
  exact q'
/-- row + [c] -/
theorem one_more {n a b k f : Option V} {t : Addr} {v : List Int} {c : Int} {H : Hp} {Q : VK} (ht : H t = some (.lst (v.map V.int))) (hv : v.length ≤ 20) (q : ∀ p H', Same H H' → H' p = some (.lst ((v ++ [c]).map V.int)) → Q (.ref p) H') : tOneMore c [n, a, b, k, f, some (.ref t)] H Q := by
  refine ⟨_, rfl, (show 1 ≤ sizeLine by decide), fun p hp => ?_⟩
  have s1 : Same H (upd H p (.lst [V.int c])) := sUpd (Same.refl H) hp
  refine ⟨t, p, _, _, rfl, rfl, s1 _ _ ht, upd_same, ?_, fun p2 hp2 => ?_⟩
  · rw [List.length_map, sizeLine_eq]
    show v.length + 1 ≤ _
    omega
  · refine q p2 _ (sUpd s1 hp2) ?_
    rw [upd_same, List.map_append]
    rfl
theorem fresh_turn {n a b k : Option V} {f t : Addr} {v : List Int} {rows : List (Addr × List Int)} {H : Hp} {D : Ends} (hf : RwL H f rows) (hl : rows.length ≤ 5000) (ht : H t = some (.lst (v.map V.int))) (hv : v.length ≤ 20)
    (q : ∀ f' rows' H', Same H H' → RwL H' f' rows' → rows'.map (·.2) = rows.map (·.2) ++ [v ++ [0], v ++ [1]] → D.nx [n, a, b, k, some (.ref f'), some (.ref t)] H') : tFreshTurn D [n, a, b, k, some (.ref f), some (.ref t)] H := by
  refine ⟨_, rfl, one_more ht hv fun p1 H1 s1 h1 => one_more (s1 _ _ ht) hv fun p2 H2 s2 h2 => ⟨(show 2 ≤ sizeLine by decide), fun p3 hp3 => ?_⟩⟩
  have s3 : Same H2 (upd H2 p3 (.lst [V.ref p1, V.ref p2])) := sUpd (Same.refl H2) hp3
  have s13 : Same H (upd H2 p3 (.lst [V.ref p1, V.ref p2])) := (s1.trans s2).trans s3
  refine ⟨f, p3, _, _, rfl, rfl, s13 _ _ hf.hr, upd_same, ?_, fun p4 hp4 => ?_⟩
  · rw [List.length_map, sizeLine_eq]
    show rows.length + 2 ≤ _
    omega
  · have s4 := sUpd s13 (u := .lst ((rows.map fun p => V.ref p.1) ++ [V.ref p1, V.ref p2])) hp4
    have s5 := sUpd s3 (u := .lst ((rows.map fun p => V.ref p.1) ++ [V.ref p1, V.ref p2])) hp4
    refine q p4 (rows ++ [(p1, v ++ [0]), (p2, v ++ [1])]) _ s4 ⟨?_, fun p hp => ?_⟩ ?_
    · rw [upd_same, List.map_append]
      rfl
    · rcases List.mem_append.mp hp with h | h
      · exact s4 _ _ (hf.ht p h)
      · rcases List.mem_cons.mp h with h | h
        · rw [h]; exact s5 _ _ (s2 _ _ h1)
        · rw [List.mem_singleton.mp h]; exact s5 _ _ h2
    · rw [List.map_append]
      rfl
theorem mk_one {H : Hp} {t r : Addr} (ht : H t = none) (hr : upd H t (.lst []) r = none) : Same H (upd (upd H t (.lst [])) r (.lst [V.ref t])) ∧ RwL (upd (upd H t (.lst [])) r (.lst [V.ref t])) r [(t, [])] := by
  have s1 := sUpd (Same.refl H) (u := .lst []) ht
  have hrt : t ≠ r := fun z => by rw [← z, upd_same] at hr; cases hr
  refine ⟨sUpd s1 hr, upd_same, fun p hp => ?_⟩
  rw [List.mem_singleton.mp hp, upd_ne hrt]
  exact upd_same
theorem pure_rows {K : PySem.W.Frag} {n : Nat} {H : Hp} {Q : VK} (hn : n ≤ 10) (q : ∀ (r : Addr) (rows : List (Addr × List Int)) (H' : Hp), Same H H' → RwL H' r rows → rows.map (·.2) = WsI n → Q (.ref r) H') :
    t_rows K { nx := fun _ H' => Q .non H', rt := Q } (start RN [.int n]) H := by
  refine ⟨by decide, fun t1 ht1 => ⟨(show 1 ≤ sizeLine by decide), fun rh hrh => ?_⟩⟩
  obtain ⟨s1, R1⟩ := mk_one ht1 hrh
  generalize upd (upd H t1 (.lst [])) rh (.lst [V.ref t1]) = H1 at s1 R1
  refine ⟨by decide, fun t2 ht2 => ⟨(show 1 ≤ sizeLine by decide), fun la hla => ?_⟩⟩
  obtain ⟨s2, R2⟩ := mk_one ht2 hla
  have e1 : ([(t1, [])] : List (Addr × List Int)).map (·.2) = WsI 0 := rfl
  have e2 : ([(t2, [])] : List (Addr × List Int)).map (·.2) = lev 0 := rfl
  refine ⟨_, rfl, (n : Int), rfl, by omega, by omega, for_range (n := ((n : Int)).toNat) (fun i σ H' => ∃ rh la v3 v4 v5 rowsH rowsL, σ = [some (.int n), some (.ref rh), some (.ref la), v3, v4, v5] ∧ Same H H' ∧ RwL H' rh rowsH ∧ RwL H' la rowsL ∧ rowsH.map (·.2) = WsI i ∧ rowsL.map (·.2) = lev i)
    ⟨rh, la, none, none, none, _, _, rfl, s1.trans s2, R1.same s2, R2, e1, e2⟩ (fun i σ H' hi ⟨rh, la, v3, v4, v5, rowsH, rowsL, eσ, sm, RH, RL, eH, eL⟩ => ?_) fun σ H' ⟨rh, la, v3, v4, v5, rowsH, rowsL, eσ, sm, RH, RL, eH, eL⟩ => ?_⟩
  · subst eσ
    rw [Int.toNat_natCast] at hi
    have hLl : rowsL.length = 2 ^ i := by
      have := congrArg List.length eL
      rw [List.length_map, lev_len] at this
      exact this
    have hHl : rowsH.length + 1 = 2 ^ (i + 1) := by
      have := congrArg List.length eH
      rw [List.length_map] at this
      rw [this]
      exact WsI_len i
    have hb1 : 2 ^ (i + 1) ≤ 2 ^ 10 := pow_mono (by omega)
    have hb0 : 2 ^ (i + 1) = 2 ^ i * 2 := Nat.pow_succ 2 i
    refine ⟨by decide, fun fr hfr => ?_⟩
    have sf := sUpd (Same.refl H') (u := .lst []) hfr
    refine ⟨_, rfl, la, rfl, ⟨_, .inl (.inl (RL.same sf).hr)⟩, for_it (walk_list (K := K) (a := la) (xs := rowsL.map fun p => V.ref p.1)) (fun j σ H3 => ∃ fr v5 rowsF, σ = [some (.int n), some (.ref rh), some (.ref la), some (.int (0 + (i : Nat))), some (.ref fr), v5] ∧ Same H' H3 ∧ RwL H3 fr rowsF ∧ rowsF.map (·.2) = nextRows ((lev i).take j))
      ⟨fr, v5, [], rfl, sf, ⟨upd_same, fun p hp => (by cases hp)⟩, rfl⟩ (fun j σ H3 _ ⟨fr, v5, rowsF, _, s3, _⟩ => .inl (.inl (RL.same s3).hr)) (fun j y σ H3 H4 hj ⟨fr, v5, rowsF, eσ, s3, RF, eF⟩ ⟨e4, hy⟩ => ?_) fun σ H3 ⟨fr, v5, rowsF, eσ, s3, RF, eF⟩ => ?_⟩
    · subst eσ e4
      rw [List.length_map] at hj
      rw [List.getElem?_map, List.getElem?_eq_getElem hj] at hy
      have ey : y = V.ref rowsL[j].1 := (Option.some.inj hy).symm
      subst ey
      have hrow : (lev i)[j]? = some rowsL[j].2 := by
        rw [← eL, List.getElem?_map, List.getElem?_eq_getElem hj]
        rfl
      have hFl : rowsF.length ≤ 5000 := by
        have := congrArg List.length eF
        rw [List.length_map, next_len, List.length_take, lev_len] at this
        omega
      have hrl := (lev_row i _ (List.mem_of_getElem? hrow)).2
      refine fresh_turn RF hFl ((RL.same s3).ht _ (List.getElem_mem hj)) (by omega) fun f' rows' H5 s5 R5 e5 => ⟨f', _, rows', rfl, s3.trans s5, R5, ?_⟩
      rw [e5, eF, next_take hrow]
    · subst eσ
      have eF' : rowsF.map (·.2) = lev (i + 1) := by
        rw [eF, List.length_map, hLl, List.take_of_length_le (by rw [lev_len]; exact Nat.le_refl _)]
        rfl
      have hFl : rowsF.length ≤ 5000 := by
        have := congrArg List.length eF'
        rw [List.length_map, lev_len] at this
        omega
      refine ⟨_, rfl, _, rfl, rh, fr, _, _, rfl, rfl, (RH.same s3).hr, RF.hr, ?_, fun p hp => ?_⟩
      · rw [List.length_map, List.length_map, sizeLine_eq]
        omega
      · have s4 := sUpd (Same.refl H3) (u := .lst ((rowsH.map fun p => V.ref p.1) ++ (rowsF.map fun p => V.ref p.1))) hp
        refine ⟨_, rfl, p, fr, _, _, _, rowsH ++ rowsF, rowsF, rfl, (sm.trans s3).trans s4, ⟨by rw [upd_same, List.map_append], fun q hq => ?_⟩, RF.same s4, ?_, eF'⟩
        · rcases List.mem_append.mp hq with h | h
          · exact ((RH.same s3).same s4).ht q h
          · exact (RF.same s4).ht q h
        · rw [List.map_append, eH, eF', WsI_succ]
  · subst eσ
    rw [Int.toNat_natCast] at eH
    exact ⟨_, rfl, q rh rowsH H' sm RH eH⟩
section
variable {P : Program} {w : World} {K : PySem.W.Frag} {mg : Str → Option Value} {base : Heap} {f : Addr} {fd : FuncData}
theorem ok_rows (F : Fun K "_law_rows" "_law_rows" sRows f fd) (gr : mg "range" = none) : FnOk P w K mg base CX0 2 f fd ["_law_longest"] spRows := by
  refine F.ok scR (fun vs H Q E h => ?_) (fun cdv A outer s H vs Q E hr h => ?_)
  · obtain ⟨n, rfl, _⟩ := h
    rfl
  · obtain ⟨n, rfl, hn, q⟩ := h
    refine ⟨t_rows K, PSs.nox ?_, pure_rows hn q⟩
    refine pss_cons (ps_set (i := 1) scR.nd rfl (Or.inl rfl) (pe_lst (pa_cons (pe_lst pa_nil) pa_nil))) (pss_cons (ps_set (i := 2) scR.nd rfl (Or.inl rfl) (pe_lst (pa_cons (pe_lst pa_nil) pa_nil))) (pss_cons (ps_for PassesOwn.never rfl (pi_range1 rfl gr (pa_cons (pv 0) pa_nil)) (pg_name (i := 3) scR.nd rfl (Or.inl rfl)) ?_) (pss_one (ps_ret (pv 1)))))
    refine pss_cons (ps_set (i := 4) scR.nd rfl (Or.inl rfl) (pe_lst pa_nil)) (pss_cons (ps_for PassesOwn.never rfl (pi_list (pv 2)) (pg_name (i := 5) scR.nd rfl (Or.inl rfl)) (pss_one (ps_set (i := 4) scR.nd rfl (Or.inl rfl) ?_))) (pss_cons (ps_set (i := 1) scR.nd rfl (Or.inl rfl) (pe_op op_cat (pv 1) (pv 4))) (pss_one (ps_set (i := 2) scR.nd rfl (Or.inl rfl) (pv 4)))))
    exact pe_op op_cat (pv 4) (pe_lst (pa_cons (pe_op op_cat (pv 5) (pe_lst (pa_cons pe_int pa_nil))) (pa_cons (pe_op op_cat (pv 5) (pe_lst (pa_cons pe_int pa_nil))) pa_nil)))
end
end WL
namespace WL
open PySem PySem.Spec PyProof.Rows L2 ClX
abbrev MN : List Str := ["_law_cell", "_law_turn", "_law_limit", "_law_first", "_law_second", "_law_third"]
theorem scM : FnScope MN ["_law_cell", "_law_turn", "_law_limit"] (defScope sMixed) := ⟨rfl, rfl, rfl, by decide +kernel, rfl, by decide +kernel, by decide +kernel⟩
/-- _law_mixed: some number below the limit -/
def spMixed : Sp := fun vs H Q _ => ∃ c t l : Int, vs = [.int c, .int t, .int l] ∧ 0 < l ∧ ∀ r, 0 ≤ r → r < l → Q (.int r) H
section
variable {P : Program} {w : World} {K : PySem.W.Frag} {mg : Str → Option Value} {base : Heap} {f : Addr} {fd : FuncData}
theorem ok_mixed (F : Fun K "_law_mixed" "_law_mixed" sMixed f fd) (gi : mg "int" = none) : FnOk P w K mg base CX0 1 f fd ["_law_cell", "_law_turn", "_law_limit"] spMixed := by
  refine F.ok scM (fun vs H Q E h => ?_) (fun cdv A outer s H vs Q E hr h => ⟨_, PSs.nox (pss_cons (ps_set (i := 3) scM.nd rfl (Or.inl rfl) (pe_op op_mod (pe_callTy call_int1 rfl gi PyProof.Rows.Boot.«int» (pa_cons (pe_op op_add (pe_op op_add (pe_op op_mul (pv 0) pe_int) (pe_op op_mul (pv 1) pe_int)) pe_int) pa_nil)) pe_int))
    (pss_cons (ps_set (i := 4) scM.nd rfl (Or.inl rfl) (pe_op op_mod (pe_callTy call_int1 rfl gi PyProof.Rows.Boot.«int» (pa_cons (pe_op op_add (pe_op op_add (pe_op op_mul (pv 3) pe_int) (pe_op op_mul (pv 0) pe_int)) (pe_op op_mul (pv 1) pe_int)) pa_nil)) pe_int))
    (pss_cons (ps_set (i := 5) scM.nd rfl (Or.inl rfl) (pe_op op_mod (pe_callTy call_int1 rfl gi PyProof.Rows.Boot.«int» (pa_cons (pe_op op_add (pe_op op_mul (pv 4) pe_int) (pe_op op_fdiv (pv 3) pe_int)) pa_nil)) pe_int))
    (pss_one (ps_ret (pe_op op_mod (pe_callTy call_int1 rfl gi PyProof.Rows.Boot.«int» (pa_cons (pv 5) pa_nil)) (pv 2))))))), ?_⟩)
  · obtain ⟨c, t, l, rfl, _⟩ := h
    rfl
  · obtain ⟨c, t, l, rfl, hl, q⟩ := h
    refine ⟨_, rfl, _, _, rfl, rfl, .inr ⟨by decide, by decide⟩, _, rfl, _, _, rfl, rfl, .inr ⟨by decide, by decide⟩, _, _, rfl, rfl, _, _, rfl, rfl, .inl ⟨_, rfl, _, _, rfl, rfl, (by show (0 : Int) < _; decide), ?_⟩⟩
    refine ⟨_, rfl, _, _, rfl, rfl, .inr ⟨by decide, by decide⟩, _, rfl, _, _, rfl, rfl, .inr ⟨by decide, by decide⟩, _, _, rfl, rfl, _, rfl, _, _, rfl, rfl, .inr ⟨by decide, by decide⟩, _, _, rfl, rfl, .inl ⟨_, rfl, _, _, rfl, rfl, (by show (0 : Int) < _; decide), ?_⟩⟩
    refine ⟨_, rfl, _, _, rfl, rfl, .inr ⟨by decide, by decide⟩, _, rfl, _, _, rfl, rfl, ⟨by decide, by decide⟩, _, _, rfl, rfl, .inl ⟨_, rfl, _, _, rfl, rfl, (by show (0 : Int) < _; decide), ?_⟩⟩
    refine ⟨_, rfl, .inl ⟨_, rfl, _, rfl, _, l, rfl, rfl, hl, ?_⟩⟩
    exact q _ (Int.emod_nonneg _ (by omega)) (Int.emod_lt_of_pos _ hl)
end
/-! ### the pool -/
structure PoolX (H : Hp) (p l : Addr) (ns : List Int) (i : Nat) (d c t : Int) : Prop where
  ne : l ≠ p
  hp : H p = some (.lst [.ref l, .int i, .int d, .int c, .int t])
  hl : H l = some (.lst (ns.map V.int))
theorem PoolX.set {H : Hp} {p l : Addr} {ns : List Int} {i i' : Nat} {d c t d' c' t' : Int} (x : PoolX H p l ns i d c t) : PoolX (upd H p (.lst [.ref l, .int i', .int d', .int c', .int t'])) p l ns i' d' c' t' :=
  ⟨x.ne, upd_same, by rw [upd_ne x.ne]; exact x.hl⟩
theorem but_upd {H H' : Hp} {p : Addr} {u : HO} (e : ∀ b v, b ≠ p → H b = some v → H' b = some v) : ∀ b v, b ≠ p → H b = some v → upd H' p u b = some v := fun b v hb q => by
  rw [upd_ne hb]
  exact e b v hb q
abbrev DN : List Str := ["_law_pool_here", "_law_limit", "_law_digit", "_law_cell"]
theorem scD : FnScope DN ["_law_pool_here", "_law_limit"] (defScope sDraw) := ⟨rfl, rfl, rfl, by decide +kernel, rfl, by decide +kernel, by decide +kernel⟩
theorem pe_ixc {X : Cx} {o : Expr} {to : TE} {k : Int} {j : Nat} {p2 p3 : Pos} (ho : PE X o to) : PE X (.Subscript o (.Constant (.int k) j p2) p3) (tOp (rIx X.K) to (tC (.int k))) := pe_ix ix_seq ho pe_int (fun _ _ => rfl)
theorem ps_stc {X : Cx} {o e : Expr} {to te : TE} {k : Int} {j : Nat} {p2 p3 p4 : Pos} (ho : PE X o to) (he : PE X e te) (h1 : swapsWithSole [.Subscript o (.Constant (.int k) j p2) p3] e p4.line X.env = pure false := by rfl) (h2 : swappedStores [.Subscript o (.Constant (.int k) j p2) p3] e X.env = pure none := by rfl)
    (h3 : (assignEach [.Subscript o (.Constant (.int k) j p2) p3] X.env).map (·.2) = [assign (.Subscript o (.Constant (.int k) j p2) p3) X.env] := by rfl) : PS X (.Assign [.Subscript o (.Constant (.int k) j p2) p3] e p4) (tAsg te (gSub to (tC (.int k)) rSetL)) :=
  ps_asg he (pg_sub ho pe_int set_list) h1 h2 h3
/-- _law_draw: some number below the limit, the pool as a pool -/
def spDraw : Sp := fun vs H Q _ => ∃ (p l : Addr) (ns : List Int) (i : Nat) (d c t lim : Int), vs = [.ref p, .int lim] ∧ 0 < lim ∧ lim < 1073741824 ∧ PoolX H p l ns i d c t ∧
  ∀ (r : Int) (H' : Hp) (i' : Nat) (d' c' t' : Int), 0 ≤ r → r < lim → (∀ b v, b ≠ p → H b = some v → H' b = some v) → PoolX H' p l ns i' d' c' t' → Q (.int r) H'
section
variable {P : Program} {w : World} {K : PySem.W.Frag} {mg : Str → Option Value} {base : Heap} {f fm : Addr} {fd fdm : FuncData}
theorem ok_draw (F : Fun K "_law_draw" "_law_draw" sDraw f fd) (FM : Fun K "_law_mixed" "_law_mixed" sMixed fm fdm) (bm : Binds K fdm ["_law_cell", "_law_turn", "_law_limit"] []) (gm : mg "_law_mixed" = some (.ref fm)) (gi : mg "int" = none) (gl : mg "len" = none) : FnOk P w K mg base CX0 3 f fd ["_law_pool_here", "_law_limit"] spDraw := by
  have GM : FnOk P w K mg base CX0 1 fm fdm ["_law_cell", "_law_turn", "_law_limit"] spMixed := ok_mixed FM gi
  refine F.ok scD (fun vs H Q E h => ?_) (fun cdv A outer s H vs Q E hr h => ?_)
  · obtain ⟨p, l, ns, i, d, c, t, lim, rfl, _⟩ := h
    rfl
  have hr1 : Room 1 (A.deeper (envOfC "_law_draw" (defScope sDraw) s.heap.objs.size f cdv)) := hr.mono (by decide)
  refine ⟨_, PSs.nox (pss_cons (ps_if (pt_cmpR op_gt (pe_ixc (pv 0)) pe_int (nomark _)) (pss_cons (ps_set (i := 2) scD.nd rfl (Or.inl rfl) (pe_op op_mod (pe_callTy call_int1 rfl gi PyProof.Rows.Boot.«int» (pa_cons (pe_ixc (pv 0)) pa_nil)) (pv 1))) (pss_cons (ps_stc (pv 0) (pe_op op_fdiv (pe_ixc (pv 0)) (pv 1))) (pss_one (ps_ret (pv 2))))) pss_nil)
    (pss_cons (ps_if (pt_cmpR op_gt (pe_ixc (pv 0)) pe_int (nomark _)) (pss_cons (ps_stc (pv 0) (pe_op op_sub (pe_ixc (pv 0)) pe_int)) (pss_one (ps_ret (pe_call GM hr1 rfl gm FM.kp bm .nil pass0 (pa_cons (pe_ixc (pv 0)) (pa_cons (pe_ixc (pv 0)) (pa_cons (pv 1) pa_nil))))))) pss_nil)
    (pss_cons (ps_if (pt_cmpR op_ge (pe_ixc (pv 0)) (pe_callB call_len rfl gl PyProof.Rows.Boot.«len» (pa_cons (pe_ixc (pv 0)) pa_nil)) (nomark _)) (pss_one (ps_ret pe_int)) pss_nil)
    (pss_cons (ps_set (i := 3) scD.nd rfl (Or.inl rfl) (pe_ix ix_seq (pe_ixc (pv 0)) (pe_ixc (pv 0)) (fun _ _ => rfl)))
    (pss_cons (ps_stc (pv 0) (pe_op op_add (pe_ixc (pv 0)) pe_int))
    (pss_cons (ps_if (pt_cmpR op_lt (pv 3) pe_int (nomark _)) (pss_one (ps_set (i := 3) scD.nd rfl (Or.inl rfl) (pe_op op_sub (pe_un un_neg pe_int) (pv 3)))) pss_nil)
    (pss_cons (ps_if (pt_cmpR op_ge (pv 3) (pe_op op_pow pe_int pe_int) (nomark _)) (pss_cons (ps_stc (pv 0) (pe_op op_fdiv (pv 3) (pv 1))) (pss_one (ps_ret (pe_op op_mod (pe_callTy call_int1 rfl gi PyProof.Rows.Boot.«int» (pa_cons (pv 3) pa_nil)) (pv 1))))) pss_nil)
    (pss_cons (ps_stc (pv 0) (pv 3))
    (pss_cons (ps_stc (pv 0) pe_int)
    (pss_one (ps_ret (pe_call GM hr1 rfl gm FM.kp bm .nil pass0 (pa_cons (pv 3) (pa_cons pe_int (pa_cons (pv 1) pa_nil))))))))))))))), ?_⟩
  obtain ⟨p, l, ns, i, d, c, t, lim, rfl, hl0, hl1, PX, q⟩ := h
  have lt : ∀ z : Int, 0 ≤ z % lim ∧ z % lim < lim := fun z => ⟨Int.emod_nonneg _ (by omega), Int.emod_lt_of_pos _ hl0⟩
  have k0 : ∀ b v, b ≠ p → H b = some v → H b = some v := fun _ _ _ e => e
  refine ⟨_, rfl, .inl ⟨p, _, 2, .int d, rfl, rfl, .inl (.inl PX.hp), rfl, d, 0, rfl, rfl, _, rfl, ?_⟩⟩
  by_cases hd : 0 < d
  · refine iT (decide_eq_true hd) ⟨_, rfl, .inl ⟨p, _, 2, .int d, rfl, rfl, .inl (.inl PX.hp), rfl, .inl ⟨d, rfl, _, rfl, d, lim, rfl, rfl, hl0, ?_⟩⟩⟩
    exact ⟨_, rfl, .inl ⟨p, _, 2, .int d, rfl, rfl, .inl (.inl PX.hp), rfl, _, rfl, d, lim, rfl, rfl, ⟨hl0, hl1⟩, _, rfl, p, _, 2, 2, rfl, rfl, PX.hp, rfl, _, rfl, q (d % lim) _ i (d / lim) c t (lt d).1 (lt d).2 (but_upd k0) PX.set⟩⟩
  refine iF (decide_eq_false hd) ?_
  refine ⟨_, rfl, .inl ⟨p, _, 4, .int t, rfl, rfl, .inl (.inl PX.hp), rfl, t, 0, rfl, rfl, _, rfl, ?_⟩⟩
  by_cases ht : 0 < t
  · refine iT (decide_eq_true ht) ⟨_, rfl, .inl ⟨p, _, 4, .int t, rfl, rfl, .inl (.inl PX.hp), rfl, t, 1, rfl, rfl, _, rfl, p, _, 4, 4, rfl, rfl, PX.hp, rfl, ?_⟩⟩
    exact ⟨_, rfl, .inl ⟨p, _, 3, .int c, rfl, rfl, .inl (.inl upd_same), rfl, _, rfl, .inl ⟨p, _, 4, .int (t - 1), rfl, rfl, .inl (.inl upd_same), rfl, _, rfl, c, t - 1, lim, rfl, hl0, fun r h0 h1 => q r _ i d c (t - 1) h0 h1 (but_upd k0) PX.set⟩⟩⟩
  refine iF (decide_eq_false ht) ?_
  refine ⟨_, rfl, .inl ⟨p, _, 1, .int i, rfl, rfl, .inl (.inl PX.hp), rfl, _, rfl, .inl ⟨p, _, 0, .ref l, rfl, rfl, .inl (.inl PX.hp), rfl, .ref l, (ns.map V.int).length, rfl, .inl ⟨_, .inl (.inl PX.hl), rfl⟩, (i : Int), _, rfl, rfl, _, rfl, ?_⟩⟩⟩
  by_cases hi : (((ns.map V.int).length : Nat) : Int) ≤ (i : Int)
  · exact iT (decide_eq_true hi) (q 0 H i d c t (Int.le_refl _) hl0 k0 PX)
  refine iF (decide_eq_false hi) ?_
  have hi2 : i < ns.length := by rw [List.length_map] at hi; omega
  refine ⟨_, rfl, .inl ⟨p, _, 0, .ref l, rfl, rfl, .inl (.inl PX.hp), rfl, _, rfl, .inl ⟨p, _, 1, .int i, rfl, rfl, .inl (.inl PX.hp), rfl, .inl ⟨l, _, (i : Int), .int ns[i], rfl, rfl, .inl (.inl PX.hl), atI_nat (by rw [List.getElem?_map, List.getElem?_eq_getElem hi2]; rfl), ?_⟩⟩⟩⟩
  refine ⟨_, rfl, .inl ⟨p, _, 1, .int i, rfl, rfl, .inl (.inl PX.hp), rfl, (i : Int), 1, rfl, rfl, _, rfl, p, _, 1, 1, rfl, rfl, PX.hp, rfl, ?_⟩⟩
  have PX1 : PoolX (upd H p (.lst [.ref l, .int ((i : Int) + 1), .int d, .int c, .int t])) p l ns (i + 1) d c t := ⟨PX.ne, upd_same, by rw [upd_ne PX.ne]; exact PX.hl⟩
  have k1 : ∀ b v, b ≠ p → H b = some v → upd H p (.lst [.ref l, .int ((i : Int) + 1), .int d, .int c, .int t]) b = some v := but_upd k0
  refine ⟨_, rfl, ns[i], 0, rfl, rfl, _, rfl, ?_⟩
  by_cases hz : ns[i] < 0
  · refine iT (decide_eq_true hz) ?_
    refine ⟨1, rfl, _, rfl, _, _, rfl, rfl, ?_⟩
    refine ⟨_, rfl, 10, 18, rfl, rfl, ⟨by decide, by decide, by decide⟩, _, _, rfl, rfl, _, rfl, ?_⟩
    by_cases hb : (10 : Int) ^ (18 : Int).toNat ≤ -1 - ns[i]
    · refine iT (decide_eq_true hb) ?_
      exact ⟨_, rfl, _, rfl, -1 - ns[i], lim, rfl, rfl, ⟨hl0, hl1⟩, _, rfl, p, _, 2, 2, rfl, rfl, PX1.hp, rfl, _, rfl, .inl ⟨-1 - ns[i], rfl, _, rfl, -1 - ns[i], lim, rfl, rfl, hl0, q _ _ (i + 1) ((-1 - ns[i]) / lim) c t (lt (-1 - ns[i])).1 (lt (-1 - ns[i])).2 (but_upd k1) PX1.set⟩⟩
    · refine iF (decide_eq_false hb) ?_
      exact ⟨_, rfl, _, rfl, p, _, 3, 3, rfl, rfl, PX1.hp, rfl, _, rfl, p, _, 4, 4, rfl, rfl, upd_same, rfl, _, rfl, _, rfl, -1 - ns[i], 7, lim, rfl, hl0, fun r h0 h1 => q r _ (i + 1) d (-1 - ns[i]) 7 h0 h1 (but_upd (but_upd k1)) PX1.set.set⟩
  · refine iF (decide_eq_false hz) ?_
    generalize ns[i] = z
    refine ⟨_, rfl, 10, 18, rfl, rfl, ⟨by decide, by decide, by decide⟩, _, _, rfl, rfl, _, rfl, ?_⟩
    by_cases hb : (10 : Int) ^ (18 : Int).toNat ≤ z
    · refine iT (decide_eq_true hb) ?_
      exact ⟨_, rfl, _, rfl, z, lim, rfl, rfl, ⟨hl0, hl1⟩, _, rfl, p, _, 2, 2, rfl, rfl, PX1.hp, rfl, _, rfl, .inl ⟨z, rfl, _, rfl, z, lim, rfl, rfl, hl0, q _ _ (i + 1) (z / lim) c t (lt z).1 (lt z).2 (but_upd k1) PX1.set⟩⟩
    · refine iF (decide_eq_false hb) ?_
      exact ⟨_, rfl, _, rfl, p, _, 3, 3, rfl, rfl, PX1.hp, rfl, _, rfl, p, _, 4, 4, rfl, rfl, upd_same, rfl, _, rfl, _, rfl, z, 7, lim, rfl, hl0, fun r h0 h1 => q r _ (i + 1) d z 7 h0 h1 (but_upd (but_upd k1)) PX1.set.set⟩
end
end WL
namespace WL
open PySem PySem.Spec PyProof.Rows L2 ClX
abbrev SN : List Str := ["_law_actual", "_law_expected", "_law_k"]
theorem scSa : FnScope SN ["_law_actual", "_law_expected"] (defScope sSame) := ⟨rfl, rfl, rfl, by decide +kernel, rfl, by decide +kernel, by decide +kernel⟩
/-- the same, down to that depth -/
def Eqd : Nat → Hp → V → V → Prop
  | 0, _, x, y => x = y ∧ ((∃ i, x = .int i) ∨ ∃ s, x = .str s)
  | n + 1, H, x, y => ∃ (a b : Addr) (xs ys : List V), x = .ref a ∧ y = .ref b ∧ ((H a = some (.lst xs) ∧ H b = some (.lst ys)) ∨ (H a = some (.tup xs) ∧ H b = some (.tup ys))) ∧ xs.length = ys.length ∧ ys.length ≤ 5000 ∧ ∀ (i : Nat) (u v : V), xs[i]? = some u → ys[i]? = some v → Eqd n H u v
def spSame (n : Nat) : Sp := fun vs H Q _ => ∃ x y, vs = [x, y] ∧ Eqd n H x y ∧ Q (.bl true) H
/-- isinstance(x, T), T a built-in type -/
def tIsi (K : PySem.W.Frag) (i : Nat) (n : String) : TE := fun σ H Q => ∃ (x : V) (a : String) (b : Bool), σ[i]? = some (some x) ∧ TyX K H x (.type a) ∧ kitB a n = some b ∧ Q (.bl b) H
theorem pe_isi {X : Cx} {i : Nat} {v : Expr} {nm : Str} {n : String} {p p2 pos : Pos} (hg : Gl X "isinstance") (hm : X.mg "isinstance" = none) (hv : PE X v (tVar i)) (hg2 : Gl X nm) (hm2 : X.mg nm = none) (hb : bootBuiltins nm = some (.type n)) (h1 : nm ≠ "__name__" := by decide) (h2 : (nm == ("__debug__" : Str)) = false := by decide)
    (hst : starEach [v, .Name nm p2] X.env = (false, eval v X.env) :: starEach [.Name nm p2] X.env := by rfl) (hpl : (backTo pos (starEach [.Name nm p2] X.env)).any (·.1) = false := by rfl) : PE X (.Call (.Name "isinstance" p) [v, .Name nm p2] [] pos) (tIsi X.K i n) :=
  pe_imp (pe_callB call_isi hg hm PyProof.Rows.Boot.«isinstance» (pa_cons hv (pa_cons (pe_bltn (v := .ty n) hg2 hm2 hb rfl h1 h2) pa_nil) (hs := hst)) (he := hst) (hpl := hpl)) fun σ H Q ⟨x, a, b, h1, h2, h3, q⟩ => ⟨x, h1, x, .ty n, .type a, .type n, b, rfl, .ty n, h2, kit_ty h3, q⟩
structure SaT (mg : Str → Option Value) : Prop where
  isi : mg "isinstance" = none
  bool : mg "bool" = none
  int : mg "int" = none
  str : mg "str" = none
  tuple : mg "tuple" = none
  list : mg "list" = none
  len : mg "len" = none
  range : mg "range" = none
section
variable {P : Program} {w : World} {K : PySem.W.Frag} {mg : Str → Option Value} {base : Heap} {f : Addr} {fd : FuncData}
theorem ok_same (F : Fun K "_law_same" "_law_same" sSame f fd) (b : Binds K fd ["_law_actual", "_law_expected"] []) (g : mg "_law_same" = some (.ref f)) (T : SaT mg) : ∀ n, FnOk P w K mg base CX0 (2 * n + 2) f fd ["_law_actual", "_law_expected"] (spSame n) := by
  intro n
  induction n with
  | zero =>
    refine F.ok scSa (fun vs H Q E h => ?_) (fun cdv A outer s H vs Q E hr h => ?_)
    · obtain ⟨x, y, rfl, _⟩ := h
      rfl
    · obtain ⟨x, y, rfl, ⟨rfl, hx⟩, q⟩ := h
      rcases hx with ⟨i, rfl⟩ | ⟨z, rfl⟩
      · refine ⟨_, PSs.nox (pss_cons (ps_if (pt_cmp (pc_isN (pv 1))) pss_false pss_nil) (pss_cons (ps_if (pt_val (pe_isi rfl T.isi (pv 1) rfl T.bool PyProof.Rows.Boot.«bool»)) pss_false pss_nil)
          (pss_cons (ps_if (pt_val (pe_isi rfl T.isi (pv 1) rfl T.int PyProof.Rows.Boot.«int»)) (pss_one (ps_ret (pe_and (pe_isi rfl T.isi (pv 0) rfl T.int PyProof.Rows.Boot.«int») (pe_and (pe_not (pe_isi rfl T.isi (pv 0) rfl T.bool PyProof.Rows.Boot.«bool»)) (pe_one (pe_cmpR op_eq (pv 0) (pv 1) (nomark _))))))) pss_nil) pss_false))), ?_⟩
        refine ⟨_, rfl, _, rfl, iF (decide_eq_false (fun z => by cases z)) ?_⟩
        refine ⟨_, "int", false, rfl, .base (.int i), by decide +kernel, _, rfl, ?_⟩
        refine ⟨_, "int", true, rfl, .base (.int i), by decide +kernel, _, rfl, ?_⟩
        refine ⟨_, "int", true, rfl, .base (.int i), by decide +kernel, true, rfl, ?_⟩
        refine ⟨_, "int", false, rfl, .base (.int i), by decide +kernel, false, rfl, true, rfl, _, rfl, _, rfl, rfl, ?_⟩
        show Q (.bl (decide (V.int i = V.int i))) H
        rw [decide_eq_true rfl]
        exact q
      · refine ⟨_, PSs.nox (pss_cons (ps_if (pt_cmp (pc_isN (pv 1))) pss_false pss_nil) (pss_cons (ps_if (pt_val (pe_isi rfl T.isi (pv 1) rfl T.bool PyProof.Rows.Boot.«bool»)) pss_false pss_nil)
          (pss_cons (ps_if (pt_val (pe_isi rfl T.isi (pv 1) rfl T.int PyProof.Rows.Boot.«int»)) pss_false pss_nil)
          (pss_cons (ps_if (pt_val (pe_isi rfl T.isi (pv 1) rfl T.str PyProof.Rows.Boot.«str»)) (pss_one (ps_ret (pe_and (pe_isi rfl T.isi (pv 0) rfl T.str PyProof.Rows.Boot.«str») (pe_one (pe_cmpR op_eq (pv 0) (pv 1) (nomark _)))))) pss_nil) pss_false)))), ?_⟩
        refine ⟨_, rfl, _, rfl, iF (decide_eq_false (fun z => by cases z)) ?_⟩
        refine ⟨_, "str", false, rfl, .base (.str z), by decide +kernel, _, rfl, ?_⟩
        refine ⟨_, "str", false, rfl, .base (.str z), by decide +kernel, _, rfl, ?_⟩
        refine ⟨_, "str", true, rfl, .base (.str z), by decide +kernel, _, rfl, ?_⟩
        refine ⟨_, "str", true, rfl, .base (.str z), by decide +kernel, true, rfl, _, rfl, _, rfl, rfl, ?_⟩
        show Q (.bl (decide (V.str z = V.str z))) H
        rw [decide_eq_true rfl]
        exact q
  | succ n ih =>
    refine F.ok scSa (fun vs H Q E h => ?_) (fun cdv A outer s H vs Q E hr h => ?_)
    · obtain ⟨x, y, rfl, _⟩ := h
      rfl
    · obtain ⟨x, y, rfl, hE, q⟩ := h
      have hr1 : Room (2 * n + 2) (A.deeper (envOfC "_law_same" (defScope sSame) s.heap.objs.size f cdv)) := hr.mono (by omega)
      refine ⟨_, PSs.nox (pss_cons (ps_if (pt_cmp (pc_isN (pv 1))) pss_false pss_nil) (pss_cons (ps_if (pt_val (pe_isi rfl T.isi (pv 1) rfl T.bool PyProof.Rows.Boot.«bool»)) pss_false pss_nil)
          (pss_cons (ps_if (pt_val (pe_isi rfl T.isi (pv 1) rfl T.int PyProof.Rows.Boot.«int»)) pss_false pss_nil)
          (pss_cons (ps_if (pt_val (pe_isi rfl T.isi (pv 1) rfl T.str PyProof.Rows.Boot.«str»)) pss_false pss_nil)
          (pss_cons (ps_if (PW.pt (pw_and (pt_val (pe_isi rfl T.isi (pv 1) rfl T.tuple PyProof.Rows.Boot.«tuple»)) (pw_and1 (pt_not (pt_val (pe_isi rfl T.isi (pv 0) rfl T.tuple PyProof.Rows.Boot.«tuple»)))))) pss_false pss_nil)
          (pss_cons (ps_if (PW.pt (pw_and (pt_val (pe_isi rfl T.isi (pv 1) rfl T.list PyProof.Rows.Boot.«list»)) (pw_and1 (pt_not (pt_val (pe_isi rfl T.isi (pv 0) rfl T.list PyProof.Rows.Boot.«list»)))))) pss_false pss_nil)
          (pss_cons (ps_if (pt_cmpR op_ne (pe_callB call_len rfl T.len PyProof.Rows.Boot.«len» (pa_cons (pv 0) pa_nil)) (pe_callB call_len rfl T.len PyProof.Rows.Boot.«len» (pa_cons (pv 1) pa_nil)) (nomark _)) pss_false pss_nil)
          (pss_cons (ps_for PassesOwn.never rfl (pi_range1 rfl T.range (pa_cons (pe_callB call_len rfl T.len PyProof.Rows.Boot.«len» (pa_cons (pv 1) pa_nil)) pa_nil)) (pg_name (i := 2) scSa.nd rfl (Or.inl rfl))
            (pss_one (ps_if (pt_not (pt_val (pe_call ih hr1 rfl g F.kp b .nil pass0 (pa_cons (pe_ix ix_seq (pv 0) (pv 2) (fun _ _ => rfl)) (pa_cons (pe_ix ix_seq (pv 1) (pv 2) (fun _ _ => rfl)) pa_nil))))) pss_false pss_nil)))
          (pss_one (ps_ret pe_bl)))))))))), ?_⟩
      obtain ⟨a, b, xs, ys, rfl, rfl, hs, hl, hz, hE⟩ := hE
      rcases hs with ⟨ha, hb⟩ | ⟨ha, hb⟩
      · skip
        refine ⟨_, rfl, _, rfl, iF (decide_eq_false (fun z => by cases z)) ?_⟩
        refine ⟨_, "list", false, rfl, .base (.lst hb), by decide +kernel, _, rfl, ?_⟩
        refine ⟨_, "list", false, rfl, .base (.lst hb), by decide +kernel, _, rfl, ?_⟩
        refine ⟨_, "list", false, rfl, .base (.lst hb), by decide +kernel, _, rfl, ?_⟩
        refine ⟨_, "list", false, rfl, .base (.lst hb), by decide +kernel, _, rfl, ?_⟩
        refine ⟨_, "list", true, rfl, .base (.lst hb), by decide +kernel, _, rfl, _, "list", true, rfl, .base (.lst ha), by decide +kernel, _, rfl, ?_⟩
        refine ⟨_, rfl, .ref a, xs.length, rfl, .inl ⟨_, .inl (.inl ha), rfl⟩, _, rfl, .ref b, ys.length, rfl, .inl ⟨_, .inl (.inl hb), rfl⟩, rfl, _, rfl, iF ?_ ?_⟩
        · show (!decide (V.int xs.length = V.int ys.length)) = false
          rw [hl, decide_eq_true rfl]
          rfl
        refine ⟨_, rfl, .ref b, ys.length, rfl, .inl ⟨_, .inl (.inl hb), rfl⟩, (ys.length : Int), rfl, by omega, by omega, for_range (n := ((ys.length : Int)).toNat) (fun i σ H' => H' = H ∧ ∃ v, σ = [some (.ref a), some (.ref b), v]) ⟨rfl, none, rfl⟩ (fun i σ H' hi ⟨eH, v, eσ⟩ => ?_) fun σ H' ⟨eH, v, eσ⟩ => ?_⟩
        · subst eH eσ
          rw [Int.toNat_natCast] at hi
          have hx : xs[i]? = some xs[i] := List.getElem?_eq_getElem (by omega)
          have hy : ys[i]? = some ys[i] := List.getElem?_eq_getElem hi
          exact ⟨_, rfl, _, rfl, .inl ⟨a, xs, _, xs[i], rfl, rfl, .inl (.inl ha), (by rw [Int.zero_add]; exact atI_nat hx), _, rfl, _, rfl, .inl ⟨b, ys, _, ys[i], rfl, rfl, .inl (.inl hb), (by rw [Int.zero_add]; exact atI_nat hy), xs[i], ys[i], rfl, hE i _ _ hx hy, true, rfl, rfl, _, rfl⟩⟩⟩
        · subst eH eσ
          exact q
      · skip
        refine ⟨_, rfl, _, rfl, iF (decide_eq_false (fun z => by cases z)) ?_⟩
        refine ⟨_, "tuple", false, rfl, .base (.tup hb), by decide +kernel, _, rfl, ?_⟩
        refine ⟨_, "tuple", false, rfl, .base (.tup hb), by decide +kernel, _, rfl, ?_⟩
        refine ⟨_, "tuple", false, rfl, .base (.tup hb), by decide +kernel, _, rfl, ?_⟩
        refine ⟨_, "tuple", true, rfl, .base (.tup hb), by decide +kernel, _, rfl, _, "tuple", true, rfl, .base (.tup ha), by decide +kernel, _, rfl, ?_⟩
        refine ⟨_, "tuple", false, rfl, .base (.tup hb), by decide +kernel, _, rfl, ?_⟩
        refine ⟨_, rfl, .ref a, xs.length, rfl, .inr ⟨_, .inl (.inl ha), rfl⟩, _, rfl, .ref b, ys.length, rfl, .inr ⟨_, .inl (.inl hb), rfl⟩, rfl, _, rfl, iF ?_ ?_⟩
        · show (!decide (V.int xs.length = V.int ys.length)) = false
          rw [hl, decide_eq_true rfl]
          rfl
        refine ⟨_, rfl, .ref b, ys.length, rfl, .inr ⟨_, .inl (.inl hb), rfl⟩, (ys.length : Int), rfl, by omega, by omega, for_range (n := ((ys.length : Int)).toNat) (fun i σ H' => H' = H ∧ ∃ v, σ = [some (.ref a), some (.ref b), v]) ⟨rfl, none, rfl⟩ (fun i σ H' hi ⟨eH, v, eσ⟩ => ?_) fun σ H' ⟨eH, v, eσ⟩ => ?_⟩
        · subst eH eσ
          rw [Int.toNat_natCast] at hi
          have hx : xs[i]? = some xs[i] := List.getElem?_eq_getElem (by omega)
          have hy : ys[i]? = some ys[i] := List.getElem?_eq_getElem hi
          exact ⟨_, rfl, _, rfl, .inr (.inl ⟨a, xs, _, xs[i], rfl, rfl, .inl (.inl ha), (by rw [Int.zero_add]; exact atI_nat hx), _, rfl, _, rfl, .inr (.inl ⟨b, ys, _, ys[i], rfl, rfl, .inl (.inl hb), (by rw [Int.zero_add]; exact atI_nat hy), xs[i], ys[i], rfl, hE i _ _ hx hy, true, rfl, rfl, _, rfl⟩)⟩)⟩
        · subst eH eσ
          exact q
end
end WL
namespace WL
open PySem PySem.Spec PyProof.Rows L2 ClX
/-! ### _law_pool -/
theorem scP : FnScope ["_law_script"] ["_law_script"] (defScope sPool) := ⟨rfl, rfl, rfl, by decide +kernel, rfl, by decide +kernel, by decide +kernel⟩
def spPool (K : PySem.W.Frag) : Sp := fun vs H Q _ => ∃ (a : Addr) (ns : List Int), vs = [.ref a] ∧ SqL K H a (ns.map V.int) ∧ ∀ (p l : Addr) (H' : Hp), Same H H' → PoolX H' p l ns 0 0 0 0 → Q (.ref p) H'
section
variable {P : Program} {w : World} {K : PySem.W.Frag} {mg : Str → Option Value} {base : Heap} {f : Addr} {fd : FuncData}
theorem ok_pool (F : Fun K "_law_pool" "_law_pool" sPool f fd) (g : mg "list" = none) : FnOk P w K mg base CX0 1 f fd ["_law_script"] (spPool K) := by
  refine F.ok scP (fun vs H Q E h => ?_) (fun cdv A outer s H vs Q E hr h => ⟨_, PSs.nox (pss_one (ps_ret (pe_lst (pa_cons (pe_callTy call_list_of rfl g PyProof.Rows.Boot.«list» (pa_cons (pv 0) pa_nil)) (pa_cons pe_int (pa_cons pe_int (pa_cons pe_int (pa_cons pe_int pa_nil)))))))), ?_⟩)
  · obtain ⟨a, ns, rfl, _⟩ := h
    rfl
  · obtain ⟨a, ns, rfl, hS, q⟩ := h
    refine ⟨_, rfl, a, _, rfl, .inl hS, fun l hl => ⟨(show 5 ≤ sizeLine by decide), fun p hp => ?_⟩⟩
    have s1 := sUpd (Same.refl H) (u := .lst (ns.map V.int)) hl
    have hlp : l ≠ p := fun z => by rw [← z, upd_same] at hp; cases hp
    exact q p l _ (sUpd s1 hp) ⟨hlp, upd_same, by rw [upd_ne hlp]; exact upd_same⟩
end
/-! ### what was found is what is expected -/
theorem poolx_same {H H' : Hp} {p l : Addr} {ns : List Int} {i : Nat} {d c t : Int} (x : PoolX H p l ns i d c t) (e : Same H H') : PoolX H' p l ns i d c t := ⟨x.ne, e _ _ x.hp, e _ _ x.hl⟩
theorem eqd_ints {H : Hp} {a b : Addr} {r : List Int} (ha : H a = some (.lst (r.map V.int))) (hb : H b = some (.lst (r.map V.int))) (hl : r.length ≤ 5000) : Eqd 1 H (.ref a) (.ref b) := by
  refine ⟨a, b, _, _, rfl, rfl, .inl ⟨ha, hb⟩, rfl, by rw [List.length_map]; exact hl, fun i u v hu hv => ?_⟩
  rw [hu] at hv
  cases hv
  rw [List.getElem?_map] at hu
  cases e : r[i]? with
  | none => rw [e] at hu; cases hu
  | some z =>
    rw [e] at hu
    exact ⟨rfl, .inl ⟨z, (Option.some.inj hu).symm⟩⟩
theorem eqd_rows {H : Hp} {S r : Addr} {rows : List (Addr × List V)} {ys : List V} {want : List (List Int)} (hS : H S = some (.lst (rows.map fun p => V.ref p.1))) (ht : ∀ p ∈ rows, H p.1 = some (.lst p.2)) (e : rows.map (·.2) = want.map (·.map V.int)) (hw : ∀ r ∈ want, r.length ≤ 5000) (hl : want.length ≤ 5000)
    (hr : H r = some (.lst ys)) (hy : ys.length = want.length) (hr2 : ∀ (i : Nat) (v : V) (x : List Int), ys[i]? = some v → want[i]? = some x → ∃ b, v = .ref b ∧ H b = some (.lst (x.map V.int))) : Eqd 2 H (.ref S) (.ref r) := by
  have hlen : rows.length = want.length := by
    have := congrArg List.length e
    rw [List.length_map, List.length_map] at this
    exact this
  refine ⟨S, r, _, ys, rfl, rfl, .inl ⟨hS, hr⟩, by rw [List.length_map, hlen, hy], by rw [hy]; exact hl, fun i u v hu hv => ?_⟩
  rw [List.getElem?_map] at hu
  cases e1 : rows[i]? with
  | none => rw [e1] at hu; cases hu
  | some q =>
    rw [e1] at hu
    have eu : u = V.ref q.1 := (Option.some.inj hu).symm
    subst eu
    have h3 : (rows.map (·.2))[i]? = some q.2 := by rw [List.getElem?_map, e1]; rfl
    rw [e, List.getElem?_map] at h3
    cases e2 : want[i]? with
    | none => rw [e2] at h3; cases h3
    | some x =>
      rw [e2] at h3
      have eq : q.2 = x.map V.int := (Option.some.inj h3).symm
      obtain ⟨b, rfl, hb⟩ := hr2 i v x hv e2
      have ha := ht q (List.mem_of_getElem? e1)
      rw [eq] at ha
      exact eqd_ints ha hb (hw x (List.mem_of_getElem? e2))
theorem rwl_at {H : Hp} {r : Addr} {rows : List (Addr × List Int)} (R : RwL H r rows) {want : List (List Int)} (e : rows.map (·.2) = want) {k : Nat} : ∀ (i : Nat) (v : V) (x : List Int), ((rows.map fun p => V.ref p.1).take k)[i]? = some v → (want.take k)[i]? = some x → ∃ b, v = .ref b ∧ H b = some (.lst (x.map V.int)) := by
  intro i v x hv hx
  have hi : i < k := by
    have h := (List.getElem?_eq_some_iff.mp hv).1
    rw [List.length_take] at h
    omega
  rw [List.getElem?_take_of_lt hi, List.getElem?_map] at hv
  rw [List.getElem?_take_of_lt hi, ← e, List.getElem?_map] at hx
  cases e1 : rows[i]? with
  | none => rw [e1] at hv; cases hv
  | some p =>
    rw [e1] at hv hx
    cases hv
    cases hx
    exact ⟨p.1, rfl, R.ht p (List.mem_of_getElem? e1)⟩
theorem wsi_len {n : Nat} (h : n ≤ 10) : (WsI n).length ≤ 2047 := by
  rw [← Ws_len]
  exact Ws_le h
theorem wsi_row {n : Nat} {r : List Int} (h : r ∈ WsI n) : r.length ≤ n := by
  have h2 : r.map V.int ∈ Ws n := List.mem_map_of_mem h
  have h3 := Ws_row h2
  rw [List.length_map] at h3
  exact h3
/-- the first seventy of ten answers are those of six -/
theorem first70 : (WsI 10).take 70 = (WsI 6).take 70 := by
  have l6 := WsI_len 6
  have l7 := WsI_len 7
  have l8 := WsI_len 8
  have l9 := WsI_len 9
  have step : ∀ n, 70 ≤ (WsI n).length → (WsI (n + 1)).take 70 = (WsI n).take 70 := fun n h => by
    rw [WsI_succ, List.take_append_of_le_length h]
  rw [step 9 (by omega), step 8 (by omega), step 7 (by omega), step 6 (by omega)]
end WL
namespace WL
open PySem PySem.Spec PyProof.Rows L2 ClX
abbrev tFalse : TS := fun _ _ _ => False
abbrev c_good : TS := tIfS (tNot (tB (tCall (spSame 2) [] E0 (tCons (tCall spFound [] E0 (tCons (tVar 5) (tCons (tC (.int 1000)) tNil))) (tCons (tCall spRows [] E0 (tCons (tVar 5) tNil)) tNil))))) tFalse tNext
abbrev c_70 (K : PySem.W.Frag) : TS := tIfS (tNot (tB (tCall (spSame 2) [] E0 (tCons (tCall spFound [] E0 (tCons (tC (.int 10)) (tCons (tC (.int 70)) tNil))) (tCons (tSl (rSlL K) (tCall spRows [] E0 (tCons (tC (.int 6)) tNil)) tNoPart (tPart (tC (.int 70)))) tNil))))) tFalse tNext
abbrev c_bad : TS := tIfS (tNot (tB (tCall (spSame 1) [] E0 (tCons (tCall spFound [] E0 (tCons (tVar 5) (tCons (tC (.int 70)) tNil))) (tCons (tTup (tCons (tC (.str "BadNumber")) (tCons (tVar 5) tNil))) tNil))))) tFalse tNext
theorem chk_good {D : Ends} {σ : L2.St} {H : Hp} {n : Nat} (h5 : σ[5]? = some (some (.int (n : Int)))) (hn : n ≤ 7) (q : ∀ H', Same H H' → D.nx σ H') : c_good D σ H := by
  refine ⟨_, h5, .inl ⟨n, 1000, rfl, by omega, by omega, fun S rows H1 s1 L e => ⟨_, h5, n, rfl, by omega, fun r rows' H2 s2 R e2 => ⟨.ref S, .ref r, rfl, ?_, true, rfl, q H2 (s1.trans s2)⟩⟩⟩⟩
  have hT : (Ws n).length ≤ 1000 := by
    have h1 := WsI_len n
    have h2 : 2 ^ (n + 1) ≤ 2 ^ 8 := pow_mono (by omega)
    rw [Ws_len]
    omega
  rw [List.take_of_length_le hT] at e
  have hl := wsi_len (n := n) (by omega)
  refine eqd_rows (want := WsI n) (s2 _ _ L.hs) (fun p hp => s2 _ _ (L.ht p hp).1) e (fun r hr => by have := wsi_row hr; omega) (by omega) R.hr (by rw [List.length_map, ← e2, List.length_map]) fun i v x hv hx => ?_
  exact rwl_at (k := 5000) R e2 i v x (by rw [List.take_of_length_le (by rw [List.length_map]; have := congrArg List.length e2; rw [List.length_map] at this; omega)]; exact hv) (by rw [List.take_of_length_le (by omega)]; exact hx)
theorem cut70 (xs : List V) : cutV xs none (some 70) = xs.take 70 := by
  unfold cutV
  have h1 : HT.sIx xs.length 0 none = 0 := rfl
  have h2 : HT.sIx xs.length xs.length (some 70) = min 70 xs.length := rfl
  rw [h1, h2, List.drop_zero, Nat.sub_zero, ← List.take_eq_take_min]
theorem chk_70 {K : PySem.W.Frag} {D : Ends} {σ : L2.St} {H : Hp} (q : ∀ H', Same H H' → D.nx σ H') : c_70 K D σ H := by
  refine .inl ⟨10, 70, rfl, by omega, by omega, fun S rows H1 s1 L e => ⟨6, rfl, by omega, fun r rows' H2 s2 R e2 => ⟨70, rfl, r, _, rfl, .inl (.inl R.hr), fun p hp => ?_⟩⟩⟩
  have s3 : Same H2 (upd H2 p (.lst (cutV (rows'.map fun p => V.ref p.1) none (some 70)))) := sUpd (Same.refl H2) hp
  refine ⟨.ref S, .ref p, rfl, ?_, true, rfl, q _ ((s1.trans s2).trans s3)⟩
  have hw : (Ws 10).take 70 = ((WsI 6).take 70).map (·.map V.int) := by
    unfold Ws
    rw [← List.map_take, first70]
  rw [hw] at e
  have l6 := WsI_len 6
  have hl2 : rows'.length = (WsI 6).length := by rw [← e2, List.length_map]
  refine eqd_rows (want := (WsI 6).take 70) (s3 _ _ (s2 _ _ L.hs)) (fun p hp => s3 _ _ (s2 _ _ (L.ht p hp).1)) e (fun r hr => by have := wsi_row (List.mem_of_mem_take hr); omega) (by rw [List.length_take]; omega) upd_same (by rw [cut70, List.length_take, List.length_take, List.length_map, hl2]) fun i v x hv hx => ?_
  rw [cut70] at hv
  obtain ⟨b, h1, h2⟩ := rwl_at R e2 i v x hv hx
  exact ⟨b, h1, s3 _ _ h2⟩
theorem chk_bad {D : Ends} {σ : L2.St} {H : Hp} {z : Int} (h5 : σ[5]? = some (some (.int z))) (hz : ¬ (0 ≤ z ∧ z ≤ 10)) (q : ∀ H', Same H H' → D.nx σ H') : c_bad D σ H := by
  refine ⟨_, h5, .inr ⟨z, .int 70, rfl, hz, fun p H1 s1 hp => ⟨_, h5, (show 2 ≤ sizeLine by decide), fun p2 hp2 => ?_⟩⟩⟩
  have s2 : Same H1 (upd H1 p2 (.tup [.str "BadNumber", .int z])) := sUpd (Same.refl H1) hp2
  refine ⟨.ref p, .ref p2, rfl, ?_, true, rfl, q _ (s1.trans s2)⟩
  refine ⟨p, p2, _, _, rfl, rfl, .inr ⟨s2 _ _ hp, upd_same⟩, rfl, (show 2 ≤ 5000 by decide), fun i u v hu hv => ?_⟩
  rw [hu] at hv
  cases hv
  match i, hu with
  | 0, hu => cases hu; exact ⟨rfl, .inr ⟨_, rfl⟩⟩
  | 1, hu => cases hu; exact ⟨rfl, .inl ⟨_, rfl⟩⟩
  | i + 2, hu => simp at hu
end WL
namespace WL
open PySem PySem.Spec PyProof.Rows L2 ClX
abbrev LN : List Str := ["_law_script", "_law_pool_here", "_law_numbers", "_law_wrong", "_law_turn", "_law_longest"]
theorem scL : FnScope LN ["_law_script"] (defScope sLaw) := ⟨rfl, rfl, rfl, by decide +kernel, rfl, by decide +kernel, by decide +kernel⟩
def spLaw (K : PySem.W.Frag) : Sp := fun vs H Q _ => ∃ (a : Addr) (ns : List Int), vs = [.ref a] ∧ SqL K H a (ns.map V.int) ∧ ∀ H', Q (.bl true) H'
abbrev tPow : TE := tOp (rI CPow fun i j => .int (i ^ j.toNat)) (tC (.int 10)) (tC (.int 9))
abbrev tDraw (tl : TE) : TE := tCall spDraw [] E0 (tCons (tVar 1) (tCons tl tNil))
abbrev tNeg1 : TE := tUn (rU fun i => .int (-i)) (tC (.int 1))
abbrev rAddL : R2 := rI0 fun i j => .int (i + j)
abbrev rSubL : R2 := rI0 fun i j => .int (i - j)
abbrev t_turn (K : PySem.W.Frag) : TS := tSeq (tFor (iList K (tVar 2)) (gName 5) c_good) (tSeq (c_70 K) (tFor (iList K (tVar 3)) (gName 5) c_bad))
abbrev t_law (K : PySem.W.Frag) : TS := tSeq (tAsg (tCall (spPool K) [] E0 (tCons (tVar 0) tNil)) (gName 1)) (tSeq (tAsg (tLst (tCons (tC (.int 0)) (tCons (tC (.int 3)) (tCons (tDraw (tC (.int 8))) tNil)))) (gName 2))
  (tSeq (tAsg (tLst (tCons tNeg1 (tCons (tC (.int 11)) (tCons (tOp rAddL (tC (.int 11)) (tDraw tPow)) (tCons (tOp rSubL tNeg1 (tDraw tPow)) tNil))))) (gName 3))
  (tSeq (tFor (iRng1 (tCons (tC (.int 2)) tNil)) (gName 4) (t_turn K)) (tRet (tC (.bl true))))))
/-- one turn over the numbers -/
theorem pure_turn {K : PySem.W.Frag} {D : Ends} {H : Hp} {a p qn qw : Addr} {x4 x5 : Option V} {n : Nat} {z2 z3 : Int} (hn : n ≤ 7) (h2 : 11 ≤ z2) (h3 : z3 ≤ -1) (hqn : H qn = some (.lst [.int 0, .int 3, .int n])) (hqw : H qw = some (.lst [.int (-1), .int 11, .int z2, .int z3]))
    (q : ∀ x5 H', Same H H' → D.nx [some (.ref a), some (.ref p), some (.ref qn), some (.ref qw), x4, x5] H') : t_turn K D [some (.ref a), some (.ref p), some (.ref qn), some (.ref qw), x4, x5] H := by
  refine ⟨_, rfl, qn, rfl, ⟨_, .inl (.inl hqn)⟩, for_it (walk_list (K := K) (a := qn) (xs := [.int 0, .int 3, .int n])) (fun i σ H' => Same H H' ∧ ∃ x5, σ = [some (.ref a), some (.ref p), some (.ref qn), some (.ref qw), x4, x5]) ⟨Same.refl _, x5, rfl⟩ (fun i σ H' _ ⟨sm, _⟩ => .inl (.inl (sm _ _ hqn))) (fun i y σ H' H'' hi ⟨sm, x5, eσ⟩ ⟨e, hy⟩ => ?_) fun σ H' ⟨sm, x5, eσ⟩ => ?_⟩
  · subst eσ e
    obtain ⟨m, hm, rfl⟩ : ∃ m : Nat, m ≤ 7 ∧ y = V.int m := by
      match i, hy with
      | 0, hy => cases hy; exact ⟨0, by omega, rfl⟩
      | 1, hy => cases hy; exact ⟨3, by omega, rfl⟩
      | 2, hy => cases hy; exact ⟨n, hn, rfl⟩
      | k + 3, hy => simp at hy
    exact chk_good (n := m) rfl hm fun H2 s2 => ⟨sm.trans s2, _, rfl⟩
  · subst eσ
    refine chk_70 (D := _) fun H2 s2 => ?_
    have sm2 := sm.trans s2
    refine ⟨_, rfl, qw, rfl, ⟨_, .inl (.inl (sm2 _ _ hqw))⟩, for_it (walk_list (K := K) (a := qw) (xs := [.int (-1), .int 11, .int z2, .int z3])) (fun i σ H' => Same H H' ∧ ∃ x5, σ = [some (.ref a), some (.ref p), some (.ref qn), some (.ref qw), x4, x5]) ⟨sm2, x5, rfl⟩ (fun i σ H' _ ⟨sm, _⟩ => .inl (.inl (sm _ _ hqw))) (fun i y σ H' H'' hi ⟨sm, x5, eσ⟩ ⟨e, hy⟩ => ?_) fun σ H' ⟨sm, x5, eσ⟩ => ?_⟩
    · subst eσ e
      obtain ⟨z, hz, rfl⟩ : ∃ z : Int, ¬ (0 ≤ z ∧ z ≤ 10) ∧ y = V.int z := by
        match i, hy with
        | 0, hy => cases hy; exact ⟨-1, by omega, rfl⟩
        | 1, hy => cases hy; exact ⟨11, by omega, rfl⟩
        | 2, hy => cases hy; exact ⟨z2, by omega, rfl⟩
        | 3, hy => cases hy; exact ⟨z3, by omega, rfl⟩
        | k + 4, hy => simp at hy
      exact chk_bad (z := z) rfl hz fun H2 s2 => ⟨sm.trans s2, _, rfl⟩
    · subst eσ
      exact q x5 H' sm
theorem pure_law {K : PySem.W.Frag} {H : Hp} {Q : VK} {a : Addr} {ns : List Int} (hS : SqL K H a (ns.map V.int)) (q : ∀ H', Q (.bl true) H') : t_law K { nx := fun _ H' => Q .non H', rt := Q } (start LN [.ref a]) H := by
  refine ⟨_, rfl, a, ns, rfl, hS, fun p l H1 s1 P1 => ?_⟩
  refine ⟨_, rfl, p, l, ns, 0, 0, 0, 0, 8, rfl, by decide, by decide, P1, fun r1 H2 i2 d2 c2 t2 a1 b1 k2 P2 => ⟨(show 3 ≤ sizeLine by decide), fun qn hqn => ?_⟩⟩
  obtain ⟨n, rfl⟩ := Int.eq_ofNat_of_zero_le a1
  have hn : n ≤ 7 := by omega
  have sA := sUpd (Same.refl H2) (u := .lst [.int 0, .int 3, .int n]) hqn
  have P3 := poolx_same P2 sA
  have hq1 : upd H2 qn (.lst [.int 0, .int 3, .int n]) qn = some (.lst [.int 0, .int 3, .int n]) := upd_same
  have nqp : qn ≠ p := fun z => by rw [z, P2.hp] at hqn; cases hqn
  generalize upd H2 qn (.lst [.int 0, .int 3, .int n]) = H3 at P3 hq1
  refine ⟨1, rfl, _, rfl, 10, 9, rfl, rfl, ⟨by decide, by decide, by decide⟩, p, l, ns, i2, d2, c2, t2, (10 : Int) ^ (9 : Int).toNat, rfl, by decide, by decide, P3, fun r2 H4 i4 d4 c4 t4 a2 b2 k4 P4 => ?_⟩
  refine ⟨11, r2, rfl, rfl, 1, rfl, _, rfl, 10, 9, rfl, rfl, ⟨by decide, by decide, by decide⟩, p, l, ns, i4, d4, c4, t4, (10 : Int) ^ (9 : Int).toNat, rfl, by decide, by decide, P4, fun r3 H5 i5 d5 c5 t5 a3 b3 k5 P5 => ?_⟩
  refine ⟨-1, r3, rfl, rfl, (show 4 ≤ sizeLine by decide), fun qw hqw => ?_⟩
  have hq5 := k5 qn _ nqp (k4 qn _ nqp hq1)
  have sB := sUpd (Same.refl H5) (u := .lst [.int (-1), .int 11, .int (11 + r2), .int (-1 - r3)]) hqw
  refine ⟨2, rfl, by decide, by decide, for_range (n := (2 : Int).toNat) (fun i σ H' => ∃ x4 x5, σ = [some (.ref a), some (.ref p), some (.ref qn), some (.ref qw), x4, x5] ∧ H' qn = some (.lst [.int 0, .int 3, .int n]) ∧ H' qw = some (.lst [.int (-1), .int 11, .int (11 + r2), .int (-1 - r3)]))
    ⟨none, none, rfl, sB _ _ hq5, upd_same⟩ (fun i σ H' hi ⟨x4, x5, eσ, e1, e2⟩ => ?_) fun σ H' ⟨x4, x5, eσ, e1, e2⟩ => ?_⟩
  · subst eσ
    exact pure_turn hn (by omega) (by omega) e1 e2 fun x5 H6 s6 => ⟨_, x5, rfl, s6 _ _ e1, s6 _ _ e2⟩
  · subst eσ
    exact q H'
section
variable {P : Program} {w : World} {K : PySem.W.Frag} {mg : Str → Option Value} {base : Heap} {f fP fD fS fF fR : Addr} {fd fdP fdD fdS fdF fdR : FuncData}
/-- the other defs of the law, as they hold their promises -/
structure LaT (P : Program) (w : World) (K : PySem.W.Frag) (mg : Str → Option Value) (base : Heap) (fP fD fS fF fR : Addr) (fdP fdD fdS fdF fdR : FuncData) : Prop where
  GP : FnOk P w K mg base CX0 1 fP fdP ["_law_script"] (spPool K)
  gP : mg "_law_pool" = some (.ref fP)
  kP : PySem.W.keepIn K (.ref fP) = true
  bP : Binds K fdP ["_law_script"] []
  GD : FnOk P w K mg base CX0 3 fD fdD ["_law_pool_here", "_law_limit"] spDraw
  gD : mg "_law_draw" = some (.ref fD)
  kD : PySem.W.keepIn K (.ref fD) = true
  bD : Binds K fdD ["_law_pool_here", "_law_limit"] []
  GS : ∀ n, FnOk P w K mg base CX0 (2 * n + 2) fS fdS ["_law_actual", "_law_expected"] (spSame n)
  gS : mg "_law_same" = some (.ref fS)
  kS : PySem.W.keepIn K (.ref fS) = true
  bS : Binds K fdS ["_law_actual", "_law_expected"] []
  GF : FnOk P w K mg base CX0 14 fF fdF ["_law_longest", "_law_most"] spFound
  gF : mg "_law_found" = some (.ref fF)
  kF : PySem.W.keepIn K (.ref fF) = true
  bF : Binds K fdF ["_law_longest", "_law_most"] []
  GR : FnOk P w K mg base CX0 2 fR fdR ["_law_longest"] spRows
  gR : mg "_law_rows" = some (.ref fR)
  kR : PySem.W.keepIn K (.ref fR) = true
  bR : Binds K fdR ["_law_longest"] []
theorem ok_law (F : Fun K "law" "law" sLaw f fd) (T : LaT P w K mg base fP fD fS fF fR fdP fdD fdS fdF fdR) (gr : mg "range" = none) : FnOk P w K mg base CX0 16 f fd ["_law_script"] (spLaw K) := by
  refine F.ok scL (fun vs H Q E h => ?_) (fun cdv A outer s H vs Q E hr h => ?_)
  · obtain ⟨a, ns, rfl, _⟩ := h
    rfl
  obtain ⟨a, ns, rfl, hS, q⟩ := h
  refine ⟨t_law K, PSs.nox ?_, pure_law hS q⟩
  have r1 : Room 1 (A.deeper (envOfC "law" (defScope sLaw) s.heap.objs.size f cdv)) := hr.mono (by decide)
  have r3 : Room 3 (A.deeper (envOfC "law" (defScope sLaw) s.heap.objs.size f cdv)) := hr.mono (by decide)
  have r2 : Room 2 (A.deeper (envOfC "law" (defScope sLaw) s.heap.objs.size f cdv)) := hr.mono (by decide)
  have r4 : Room (2 * 1 + 2) (A.deeper (envOfC "law" (defScope sLaw) s.heap.objs.size f cdv)) := hr.mono (by decide)
  have r6 : Room (2 * 2 + 2) (A.deeper (envOfC "law" (defScope sLaw) s.heap.objs.size f cdv)) := hr.mono (by decide)
  have r14 : Room 14 (A.deeper (envOfC "law" (defScope sLaw) s.heap.objs.size f cdv)) := hr.mono (by decide)
  refine pss_cons (ps_set (i := 1) scL.nd rfl (Or.inl rfl) (pe_call T.GP r1 rfl T.gP T.kP T.bP .nil pass0 (pa_cons (pv 0) pa_nil))) ?_
  refine pss_cons (ps_set (i := 2) scL.nd rfl (Or.inl rfl) (pe_lst (pa_cons pe_int (pa_cons pe_int (pa_cons (pe_call T.GD r3 rfl T.gD T.kD T.bD .nil pass0 (pa_cons (pv 1) (pa_cons pe_int pa_nil))) pa_nil))))) ?_
  refine pss_cons (ps_set (i := 3) scL.nd rfl (Or.inl rfl) (pe_lst (pa_cons (pe_un un_neg pe_int) (pa_cons pe_int (pa_cons (pe_op op_add pe_int (pe_call T.GD r3 rfl T.gD T.kD T.bD .nil pass0 (pa_cons (pv 1) (pa_cons (pe_op op_pow pe_int pe_int) pa_nil)))) (pa_cons (pe_op op_sub (pe_un un_neg pe_int) (pe_call T.GD r3 rfl T.gD T.kD T.bD .nil pass0 (pa_cons (pv 1) (pa_cons (pe_op op_pow pe_int pe_int) pa_nil)))) pa_nil)))))) ?_
  refine pss_cons (ps_for PassesOwn.never rfl (pi_range1 rfl gr (pa_cons pe_int pa_nil)) (pg_name (i := 4) scL.nd rfl (Or.inl rfl)) ?_) (pss_one (ps_ret pe_bl))
  refine pss_cons (ps_for PassesOwn.never rfl (pi_list (pv 2)) (pg_name (i := 5) scL.nd rfl (Or.inl rfl)) (pss_one (ps_if (pt_not (pt_val (pe_call (T.GS 2) r6 rfl T.gS T.kS T.bS .nil pass0 (pa_cons (pe_call T.GF r14 rfl T.gF T.kF T.bF .nil pass0 (pa_cons (pv 5) (pa_cons pe_int pa_nil))) (pa_cons (pe_call T.GR r2 rfl T.gR T.kR T.bR .nil pass0 (pa_cons (pv 5) pa_nil)) pa_nil))))) pss_false pss_nil))) ?_
  refine pss_cons (ps_if (pt_not (pt_val (pe_call (T.GS 2) r6 rfl T.gS T.kS T.bS .nil pass0 (pa_cons (pe_call T.GF r14 rfl T.gF T.kF T.bF .nil pass0 (pa_cons pe_int (pa_cons pe_int pa_nil))) (pa_cons (pe_slice sl_list (pe_call T.GR r2 rfl T.gR T.kR T.bR .nil pass0 (pa_cons pe_int pa_nil)) po_none (po_some pe_int)) pa_nil))))) pss_false pss_nil) ?_
  exact pss_one (ps_for PassesOwn.never rfl (pi_list (pv 3)) (pg_name (i := 5) scL.nd rfl (Or.inl rfl)) (pss_one (ps_if (pt_not (pt_val (pe_call (T.GS 1) r4 rfl T.gS T.kS T.bS .nil pass0 (pa_cons (pe_call T.GF r14 rfl T.gF T.kF T.bF .nil pass0 (pa_cons (pv 5) (pa_cons pe_int pa_nil))) (pa_cons (pe_tup (pa_cons pe_str (pa_cons (pv 5) pa_nil))) pa_nil))))) pss_false pss_nil)))
end
end WL
namespace WL
open PySem PySem.Spec PyProof.Rows L2 ClX
theorem kit_ref {K : PySem.W.Frag} {C a : Addr} {b : Bool} (hc : PySem.W.isClsIn K a = true) (ht : PySem.W.typeIn K (.ref a) = some (.type "type")) (hs : PySem.W.subIn K (.ref C) (.ref a) = some b) (hself : PySem.W.subIn K (.ref C) (.ref C) = some true) : PySem.W.kitOne K (.ref C) (.ref a) = some b := by
  unfold PySem.W.kitOne
  by_cases h : (Value.ref C == Value.ref a) = true
  · rw [if_pos h]
    have e : C = a := Value.ref.inj (beq_iff_eq.mp h)
    rw [← e, hself] at hs
    exact hs
  · rw [if_neg h]
    have e : ((PySem.W.clsIn K a).isSome && PySem.W.typeIn K (.ref a) == some (.type "type")) = true := by
      have hc' : (PySem.W.clsIn K a).isSome = true := hc
      rw [hc', ht] <;> rfl
    show (if ((PySem.W.clsIn K a).isSome && PySem.W.typeIn K (.ref a) == some (.type "type")) = true then PySem.W.subIn K (.ref C) (.ref a) else none) = some b
    rw [if_pos e]
    exact hs
theorem kit_self {K : PySem.W.Frag} {C : Addr} : PySem.W.kitOne K (.ref C) (.ref C) = some true := by
  unfold PySem.W.kitOne
  rw [if_pos (beq_self_eq_true _)]
theorem kit_val {K : PySem.W.Frag} {C : Addr} (hs : PySem.W.subIn K (.ref C) (.type "ValueError") = some true) : PySem.W.kitOne K (.ref C) (.type "ValueError") = some true := by
  have e : PySem.W.kitMeta "ValueError" = true := by decide +kernel
  unfold PySem.W.kitOne
  rw [if_neg (show ¬ (Value.ref C == Value.type "ValueError") = true from fun z => by cases (beq_iff_eq.mp z))]
  show (if PySem.W.kitMeta "ValueError" = true then PySem.W.subIn K (.ref C) (.type "ValueError") else none) = some true
  rw [if_pos e]
  exact hs
theorem all_mk {P : Program} {w : World} {K : PySem.W.Frag} {h : Heap} {mg : Str → Option Value} {fa C D CB aN aW aL aT : Addr} {tL : Tok} (X : K.In h) (G : h.Ns mainGlobals mg) (hfa : mg "law" = some (.ref fa))
    {nm q : Str} {NN : Addr} {bs : List Value} {sn : List Str} {sub : List Value} {ab : Bool} {col : Option Bool} {dd : Option Addr} {m0 m1 m2 m3 m5 : Option Value}
    {f_ni : Addr} {od_ni an_ni : Option Addr} {sl_ni : Array (Option Value)} {oc_ni kV_ni dc_ni pm_ni cd_ni ct_ni : Value}
    {f_wi : Addr} {od_wi an_wi : Option Addr} {sl_wi : Array (Option Value)} {oc_wi kV_wi dc_wi pm_wi cd_wi ct_wi : Value}
    {f_wl : Addr} {od_wl an_wl : Option Addr} {sl_wl : Array (Option Value)} {oc_wl kV_wl dc_wl pm_wl cd_wl ct_wl : Value}
    {f_wt : Addr} {od_wt an_wt : Option Addr} {sl_wt : Array (Option Value)} {oc_wt kV_wt dc_wt pm_wt cd_wt ct_wt : Value}
    {f_ww : Addr} {od_ww an_ww : Option Addr} {sl_ww : Array (Option Value)} {oc_ww kV_ww dc_ww pm_ww cd_ww ct_ww : Value}
    {f_pl : Addr} {od_pl an_pl : Option Addr} {sl_pl : Array (Option Value)} {oc_pl kV_pl dc_pl pm_pl cd_pl ct_pl : Value}
    {f_mx : Addr} {od_mx an_mx : Option Addr} {sl_mx : Array (Option Value)} {oc_mx kV_mx dc_mx pm_mx cd_mx ct_mx : Value}
    {f_dr : Addr} {od_dr an_dr : Option Addr} {sl_dr : Array (Option Value)} {oc_dr kV_dr dc_dr pm_dr cd_dr ct_dr : Value}
    {f_sm : Addr} {od_sm an_sm : Option Addr} {sl_sm : Array (Option Value)} {oc_sm kV_sm dc_sm pm_sm cd_sm ct_sm : Value}
    {f_sg : Addr} {od_sg an_sg : Option Addr} {sl_sg : Array (Option Value)} {oc_sg kV_sg dc_sg pm_sg cd_sg ct_sg : Value}
    {f_rw : Addr} {od_rw an_rw : Option Addr} {sl_rw : Array (Option Value)} {oc_rw kV_rw dc_rw pm_rw cd_rw ct_rw : Value}
    {f_fo : Addr} {od_fo an_fo : Option Addr} {sl_fo : Array (Option Value)} {oc_fo kV_fo dc_fo pm_fo cd_fo ct_fo : Value}
    {f_la : Addr} {od_la an_la : Option Addr} {sl_la : Array (Option Value)} {oc_la kV_la dc_la pm_la cd_la ct_la : Value}
    (g_C : PySem.W.nsIn K mainGlobals "World" = some (some (.ref C)))
    (g_D : PySem.W.nsIn K mainGlobals "DeedError" = some (some (.ref D)))
    (g_CB : PySem.W.nsIn K mainGlobals "BadNumber" = some (some (.ref CB)))
    (g_aN : PySem.W.nsIn K mainGlobals "BadName" = some (some (.ref aN)))
    (g_aW : PySem.W.nsIn K mainGlobals "BadWorld" = some (some (.ref aW)))
    (g_aL : PySem.W.nsIn K mainGlobals "BadLine" = some (some (.ref aL)))
    (g_aT : PySem.W.nsIn K mainGlobals "TooLarge" = some (some (.ref aT)))
    (g_LON : PySem.W.nsIn K mainGlobals "LONGEST" = some (some (.int 10 tL)))
    (n_list : PySem.W.nsIn K mainGlobals "list" = some none)
    (n_len : PySem.W.nsIn K mainGlobals "len" = some none)
    (n_isinstance : PySem.W.nsIn K mainGlobals "isinstance" = some none)
    (n_int : PySem.W.nsIn K mainGlobals "int" = some none)
    (n_bool : PySem.W.nsIn K mainGlobals "bool" = some none)
    (n_str : PySem.W.nsIn K mainGlobals "str" = some none)
    (n_tuple : PySem.W.nsIn K mainGlobals "tuple" = some none)
    (n_iter : PySem.W.nsIn K mainGlobals "iter" = some none)
    (n_enumerate : PySem.W.nsIn K mainGlobals "enumerate" = some none)
    (n_range : PySem.W.nsIn K mainGlobals "range" = some none)
    (n_ValueError : PySem.W.nsIn K mainGlobals "ValueError" = some none)
    (i_aN : PySem.W.isClsIn K aN = true)
    (ty_aN : PySem.W.typeIn K (.ref aN) = some (.type "type"))
    (s_aN : PySem.W.subIn K (.ref CB) (.ref aN) = some false)
    (i_aW : PySem.W.isClsIn K aW = true)
    (ty_aW : PySem.W.typeIn K (.ref aW) = some (.type "type"))
    (s_aW : PySem.W.subIn K (.ref CB) (.ref aW) = some false)
    (i_aL : PySem.W.isClsIn K aL = true)
    (ty_aL : PySem.W.typeIn K (.ref aL) = some (.type "type"))
    (s_aL : PySem.W.subIn K (.ref CB) (.ref aL) = some false)
    (i_aT : PySem.W.isClsIn K aT = true)
    (ty_aT : PySem.W.typeIn K (.ref aT) = some (.type "type"))
    (s_aT : PySem.W.subIn K (.ref CB) (.ref aT) = some false)
    (i_D : PySem.W.isClsIn K D = true)
    (ty_D : PySem.W.typeIn K (.ref D) = some (.type "type"))
    (s_D : PySem.W.subIn K (.ref CB) (.ref D) = some true)
    (i_CB : PySem.W.isClsIn K CB = true)
    (ty_CB : PySem.W.typeIn K (.ref CB) = some (.type "type"))
    (s_CB : PySem.W.subIn K (.ref CB) (.ref CB) = some true)
    (sV : PySem.W.subIn K (.ref CB) (.type "ValueError") = some true)
    (sB : PySem.W.subIn K (.ref CB) (.type "BaseException") = some true)
    (sS : PySem.W.subIn K (.ref CB) (.type "StopIteration") = some false)
    (xB : K.lookup CB = some (excClassObj nm q CB NN bs [.ref D, .type "ValueError", .type "Exception", .type "BaseException", .type "object"] true sn sub ab col dd m0 m1 m2 m3 m5 "ValueError.__new__"))
    (saB : PySem.W.findIn K (.ref CB) "__setattr__" = some (some (.builtin "object.__setattr__")))
    (kB : PySem.W.keepIn K (.ref CB) = true)
    (noB : PySem.W.findIn K (.ref CB) "number" = some none)
    (gaB : PySem.W.findIn K (.ref CB) "__getattribute__" = some (some (.builtin "BaseException.__getattribute__")))
    (ggB : PySem.W.findIn K (.ref CB) "__getattr__" = some none)
    (hdB : PySem.W.hasDictIn K CB = true)
    (clB : PySem.W.findIn K (.ref CB) "__class__" = some (some (.builtin "object.__class__")))
    (gsC : PySem.W.specialIn K (.builtin "object.__class__") "__get__" = some (some (.builtin "getset_descriptor.__get__")))
    (tkC : PySem.W.takesIn K (.builtin "object.__class__") = some true)
    (moB : PySem.W.mroIn K CB (.type "object") = some true)
    (rdD : PySem.W.readsIn K D (.type "type") = true)
    (gaD : PySem.W.specialIn K (.ref D) "__getattribute__" = some (some (.builtin "type.__getattribute__")))
    (atD : PySem.W.findCls K (.ref D) (.type "type") "__init__" = some (.val (.builtin "ValueError.__init__")))
    (pgW : PySem.W.plainGet K C Str.empty = true)
    (hdW : PySem.W.hasDictIn K C = true)
    (poW : PySem.W.plainOver K C = true)
    (saW : PySem.W.findIn K (.ref C) "__setattr__" = some (some (.builtin "object.__setattr__")))
    (n1W : PySem.W.findIn K (.ref C) "answers" = some none)
    (n2W : PySem.W.findIn K (.ref C) "place" = some none)
    (clW : PySem.W.findIn K (.ref C) "__class__" = some (some (.builtin "object.__class__")))
    (moW : PySem.W.mroIn K C (.type "object") = some true)
    (mkW : PySem.W.makesIn K C = true)
    (kW : PySem.W.keepIn K (.ref C) = true)
    (a_ni : PySem.W.findIn K (.ref CB) "__init__" = some (some (.ref f_ni)))
    (t_ni : PySem.W.typeIn K (.ref f_ni) = some (.type "function"))
    (l_ni : K.lookup f_ni = some ⟨oc_ni, od_ni, .func (PySem.W.fnOf "__init__" "BadNumber.__init__" (defArgs sNumI) (defBody sNumI) (defScope sNumI) .none kV_ni dc_ni pm_ni an_ni cd_ni ct_ni), sl_ni⟩)
    (c_ni : PySem.W.codeIn K cd_ni "BadNumber.__init__" = true)
    (k_ni : PySem.W.keepIn K (.ref f_ni) = true)
    (a_wi : PySem.W.findIn K (.ref C) "__init__" = some (some (.ref f_wi)))
    (t_wi : PySem.W.isFn K (.ref f_wi) = true)
    (l_wi : K.lookup f_wi = some ⟨oc_wi, od_wi, .func (PySem.W.fnOf "__init__" "World.__init__" (defArgs sWorldI) (defBody sWorldI) (defScope sWorldI) .none kV_wi dc_wi pm_wi an_wi cd_wi ct_wi), sl_wi⟩)
    (c_wi : PySem.W.codeIn K cd_wi "World.__init__" = true)
    (k_wi : PySem.W.keepIn K (.ref f_wi) = true)
    (a_wl : PySem.W.findIn K (.ref C) "__len__" = some (some (.ref f_wl)))
    (t_wl : PySem.W.isFn K (.ref f_wl) = true)
    (l_wl : K.lookup f_wl = some ⟨oc_wl, od_wl, .func (PySem.W.fnOf "__len__" "World.__len__" (defArgs sWorldLen) (defBody sWorldLen) (defScope sWorldLen) .none kV_wl dc_wl pm_wl an_wl cd_wl ct_wl), sl_wl⟩)
    (c_wl : PySem.W.codeIn K cd_wl "World.__len__" = true)
    (k_wl : PySem.W.keepIn K (.ref f_wl) = true)
    (a_wt : PySem.W.findIn K (.ref C) "__iter__" = some (some (.ref f_wt)))
    (t_wt : PySem.W.isFn K (.ref f_wt) = true)
    (l_wt : K.lookup f_wt = some ⟨oc_wt, od_wt, .func (PySem.W.fnOf "__iter__" "World.__iter__" (defArgs sWorldIter) (defBody sWorldIter) (defScope sWorldIter) .none kV_wt dc_wt pm_wt an_wt cd_wt ct_wt), sl_wt⟩)
    (c_wt : PySem.W.codeIn K cd_wt "World.__iter__" = true)
    (k_wt : PySem.W.keepIn K (.ref f_wt) = true)
    (a_ww : PySem.W.nsIn K mainGlobals "worlds" = some (some (.ref f_ww)))
    (l_ww : K.lookup f_ww = some ⟨oc_ww, od_ww, .func (PySem.W.fnOf "worlds" "worlds" (defArgs sWorlds) (defBody sWorlds) (defScope sWorlds) .none kV_ww dc_ww pm_ww an_ww cd_ww ct_ww), sl_ww⟩)
    (c_ww : PySem.W.codeIn K cd_ww "worlds" = true)
    (k_ww : PySem.W.keepIn K (.ref f_ww) = true)
    (a_pl : PySem.W.nsIn K mainGlobals "_law_pool" = some (some (.ref f_pl)))
    (l_pl : K.lookup f_pl = some ⟨oc_pl, od_pl, .func (PySem.W.fnOf "_law_pool" "_law_pool" (defArgs sPool) (defBody sPool) (defScope sPool) .none kV_pl dc_pl pm_pl an_pl cd_pl ct_pl), sl_pl⟩)
    (c_pl : PySem.W.codeIn K cd_pl "_law_pool" = true)
    (k_pl : PySem.W.keepIn K (.ref f_pl) = true)
    (a_mx : PySem.W.nsIn K mainGlobals "_law_mixed" = some (some (.ref f_mx)))
    (l_mx : K.lookup f_mx = some ⟨oc_mx, od_mx, .func (PySem.W.fnOf "_law_mixed" "_law_mixed" (defArgs sMixed) (defBody sMixed) (defScope sMixed) .none kV_mx dc_mx pm_mx an_mx cd_mx ct_mx), sl_mx⟩)
    (c_mx : PySem.W.codeIn K cd_mx "_law_mixed" = true)
    (k_mx : PySem.W.keepIn K (.ref f_mx) = true)
    (a_dr : PySem.W.nsIn K mainGlobals "_law_draw" = some (some (.ref f_dr)))
    (l_dr : K.lookup f_dr = some ⟨oc_dr, od_dr, .func (PySem.W.fnOf "_law_draw" "_law_draw" (defArgs sDraw) (defBody sDraw) (defScope sDraw) .none kV_dr dc_dr pm_dr an_dr cd_dr ct_dr), sl_dr⟩)
    (c_dr : PySem.W.codeIn K cd_dr "_law_draw" = true)
    (k_dr : PySem.W.keepIn K (.ref f_dr) = true)
    (a_sm : PySem.W.nsIn K mainGlobals "_law_same" = some (some (.ref f_sm)))
    (l_sm : K.lookup f_sm = some ⟨oc_sm, od_sm, .func (PySem.W.fnOf "_law_same" "_law_same" (defArgs sSame) (defBody sSame) (defScope sSame) .none kV_sm dc_sm pm_sm an_sm cd_sm ct_sm), sl_sm⟩)
    (c_sm : PySem.W.codeIn K cd_sm "_law_same" = true)
    (k_sm : PySem.W.keepIn K (.ref f_sm) = true)
    (a_sg : PySem.W.nsIn K mainGlobals "_law_single" = some (some (.ref f_sg)))
    (l_sg : K.lookup f_sg = some ⟨oc_sg, od_sg, .func (PySem.W.fnOf "_law_single" "_law_single" (defArgs sSingle) (defBody sSingle) (defScope sSingle) .none kV_sg dc_sg pm_sg an_sg cd_sg ct_sg), sl_sg⟩)
    (c_sg : PySem.W.codeIn K cd_sg "_law_single" = true)
    (k_sg : PySem.W.keepIn K (.ref f_sg) = true)
    (a_rw : PySem.W.nsIn K mainGlobals "_law_rows" = some (some (.ref f_rw)))
    (l_rw : K.lookup f_rw = some ⟨oc_rw, od_rw, .func (PySem.W.fnOf "_law_rows" "_law_rows" (defArgs sRows) (defBody sRows) (defScope sRows) .none kV_rw dc_rw pm_rw an_rw cd_rw ct_rw), sl_rw⟩)
    (c_rw : PySem.W.codeIn K cd_rw "_law_rows" = true)
    (k_rw : PySem.W.keepIn K (.ref f_rw) = true)
    (a_fo : PySem.W.nsIn K mainGlobals "_law_found" = some (some (.ref f_fo)))
    (l_fo : K.lookup f_fo = some ⟨oc_fo, od_fo, .func (PySem.W.fnOf "_law_found" "_law_found" (defArgs sFound) (defBody sFound) (defScope sFound) .none kV_fo dc_fo pm_fo an_fo cd_fo ct_fo), sl_fo⟩)
    (c_fo : PySem.W.codeIn K cd_fo "_law_found" = true)
    (k_fo : PySem.W.keepIn K (.ref f_fo) = true)
    (a_la : PySem.W.nsIn K mainGlobals "law" = some (some (.ref f_la)))
    (l_la : K.lookup f_la = some ⟨oc_la, od_la, .func (PySem.W.fnOf "law" "law" (defArgs sLaw) (defBody sLaw) (defScope sLaw) .none kV_la dc_la pm_la an_la cd_la ct_la), sl_la⟩)
    (c_la : PySem.W.codeIn K cd_la "law" = true)
    (k_la : PySem.W.keepIn K (.ref f_la) = true)
    : ∃ fd : FuncData, (∀ (s : Shared) (u : Value), BindsTo s fd ⟨[u], []⟩ [("_law_script", u)]) ∧ ∀ base : Heap, K.In base → base.Ns mainGlobals mg → FnOk P w K mg base CX0 16 fa fd ["_law_script"] (spLaw K) := by
  have e := hfa.symm.trans (PySem.W.mg_of X G a_la)
  cases e
  have F_ni := fun_mk (st := sNumI) l_ni c_ni k_ni
  have F_wi := fun_mk (st := sWorldI) l_wi c_wi k_wi
  have F_wl := fun_mk (st := sWorldLen) l_wl c_wl k_wl
  have F_wt := fun_mk (st := sWorldIter) l_wt c_wt k_wt
  have F_ww := fun_mk (st := sWorlds) l_ww c_ww k_ww
  have F_pl := fun_mk (st := sPool) l_pl c_pl k_pl
  have F_mx := fun_mk (st := sMixed) l_mx c_mx k_mx
  have F_dr := fun_mk (st := sDraw) l_dr c_dr k_dr
  have F_sm := fun_mk (st := sSame) l_sm c_sm k_sm
  have F_sg := fun_mk (st := sSingle) l_sg c_sg k_sg
  have F_rw := fun_mk (st := sRows) l_rw c_rw k_rw
  have F_fo := fun_mk (st := sFound) l_fo c_fo k_fo
  have F_la := fun_mk (st := sLaw) l_la c_la k_la
  have b_ni := F_ni.binds (ps := ["self", "number"]) fun _ _ _ _ _ _ us hl => match us, hl with | [_, _], _ => rfl
  have b_wi := F_wi.binds (ps := ["self", "answers"]) fun _ _ _ _ _ _ us hl => match us, hl with | [_, _], _ => rfl
  have b_wl := F_wl.binds (ps := ["self"]) fun _ _ _ _ _ _ us hl => match us, hl with | [_], _ => rfl
  have b_wt := F_wt.binds (ps := ["self"]) fun _ _ _ _ _ _ us hl => match us, hl with | [_], _ => rfl
  have b_ww := F_ww.binds (ps := ["longest"]) fun _ _ _ _ _ _ us hl => match us, hl with | [_], _ => rfl
  have b_pl := F_pl.binds (ps := ["_law_script"]) fun _ _ _ _ _ _ us hl => match us, hl with | [_], _ => rfl
  have b_mx := F_mx.binds (ps := ["_law_cell", "_law_turn", "_law_limit"]) fun _ _ _ _ _ _ us hl => match us, hl with | [_, _, _], _ => rfl
  have b_dr := F_dr.binds (ps := ["_law_pool_here", "_law_limit"]) fun _ _ _ _ _ _ us hl => match us, hl with | [_, _], _ => rfl
  have b_sm := F_sm.binds (ps := ["_law_actual", "_law_expected"]) fun _ _ _ _ _ _ us hl => match us, hl with | [_, _], _ => rfl
  have b_sg := F_sg.binds (ps := ["_law_e"]) fun _ _ _ _ _ _ us hl => match us, hl with | [_], _ => rfl
  have b_rw := F_rw.binds (ps := ["_law_longest"]) fun _ _ _ _ _ _ us hl => match us, hl with | [_], _ => rfl
  have b_fo := F_fo.binds (ps := ["_law_longest", "_law_most"]) fun _ _ _ _ _ _ us hl => match us, hl with | [_, _], _ => rfl
  have m_list := PySem.W.mg_none_of X G n_list
  have m_len := PySem.W.mg_none_of X G n_len
  have m_isinstance := PySem.W.mg_none_of X G n_isinstance
  have m_int := PySem.W.mg_none_of X G n_int
  have m_bool := PySem.W.mg_none_of X G n_bool
  have m_str := PySem.W.mg_none_of X G n_str
  have m_tuple := PySem.W.mg_none_of X G n_tuple
  have m_iter := PySem.W.mg_none_of X G n_iter
  have m_enumerate := PySem.W.mg_none_of X G n_enumerate
  have m_range := PySem.W.mg_none_of X G n_range
  have m_ValueError := PySem.W.mg_none_of X G n_ValueError
  have cl : Cls K C := ⟨pgW, hdW, poW, saW⟩
  have ex : ExcC K CB := ⟨gaB, ggB, sB, hdB, clB, gsC, tkC, moB⟩
  have num : NumC K mg CB f_ni D _ := { g := PySem.W.mg_of X G g_CB, T := ⟨⟨nm, q, NN, bs, _, sn, sub, ab, col, dd, m0, m1, m2, m3, m5, xB, rfl⟩, saB, sB, ty_CB, kB⟩, iC := a_ni, tI := t_ni, F := F_ni, b := b_ni, no := noB, B := ⟨PySem.W.mg_of X G g_D, ⟨rdD, gaD⟩, atD⟩ }
  have sin : SinC K mg CB := { ex := ex, isi := m_isinstance, int := m_int, line := ⟨aL, PySem.W.mg_of X G g_aL, kit_ref i_aL ty_aL s_aL s_CB⟩, name := ⟨aN, PySem.W.mg_of X G g_aN, kit_ref i_aN ty_aN s_aN s_CB⟩, num := ⟨PySem.W.mg_of X G g_CB, kit_self⟩, world := ⟨aW, PySem.W.mg_of X G g_aW, kit_ref i_aW ty_aW s_aW s_CB⟩, large := ⟨aT, PySem.W.mg_of X G g_aT, kit_ref i_aT ty_aT s_aT s_CB⟩, deed := ⟨D, PySem.W.mg_of X G g_D, kit_ref i_D ty_D s_D s_CB⟩, val := ⟨m_ValueError, kit_val sV⟩ }
  have gL : ∃ t, mg "LONGEST" = some (.int 10 t) := ⟨tL, PySem.W.mg_of X G g_LON⟩
  have wo : WoT K mg C f_wt f_wl := { g := PySem.W.mg_of X G g_C, W := ⟨cl, a_wt, t_wt, a_wl, t_wl⟩, isi := ⟨clW, gsC, tkC, moW, kit_self⟩, gIsi := m_isinstance, gList := m_list, gLen := m_len }
  have wm : WoM K mg C f_wi _ := { M := ⟨mkW, a_wi, t_wi, kW⟩, F := F_wi, b := b_wi, cl := cl, n1 := n1W, n2 := n2W, ge := m_enumerate, gt := m_tuple, gl := m_len, gli := m_list, gr := m_range, g := PySem.W.mg_of X G g_C }
  have fo : FoT K mg CB f_ni D C f_wt f_wl f_ww f_sg _ _ _ _ _ := { num := num, sin := sin, xf := ⟨gaB, ggB, sB, hdB⟩, nstop := sS, exm := PySem.W.exm_ref sB hdB ty_CB s_CB, wo := wo, na := n1W, gIter := m_iter, Fi := F_wt, bi := b_wt, Fl := F_wl, bl := b_wl, Fw := F_ww, bw := b_ww, gw := PySem.W.mg_of X G a_ww, kw := k_ww, Fs := F_sg, bs := b_sg, gs := PySem.W.mg_of X G a_sg, ks := k_sg, gL := gL }
  have sa : SaT mg := ⟨m_isinstance, m_bool, m_int, m_str, m_tuple, m_list, m_len, m_range⟩
  exact ⟨PySem.W.fnOf "law" "law" (defArgs sLaw) (defBody sLaw) (defScope sLaw) .none kV_la dc_la pm_la an_la cd_la ct_la, fun s u => .of_eq rfl, fun base _ _ =>
    ok_law F_la { GP := ok_pool F_pl m_list, gP := PySem.W.mg_of X G a_pl, kP := k_pl, bP := b_pl, GD := ok_draw F_dr F_mx b_mx (PySem.W.mg_of X G a_mx) m_int m_len, gD := PySem.W.mg_of X G a_dr, kD := k_dr, bD := b_dr, GS := ok_same F_sm b_sm (PySem.W.mg_of X G a_sm) sa, gS := PySem.W.mg_of X G a_sm, kS := k_sm, bS := b_sm, GF := ok_found F_fo fo (gen_good num gL wm), gF := PySem.W.mg_of X G a_fo, kF := k_fo, bF := b_fo, GR := ok_rows F_rw m_range, gR := PySem.W.mg_of X G a_rw, kR := k_rw, bR := b_rw } m_range⟩
theorem walk_law {l : PySem.W.OpenLaw} {q : Program} {loose : List Str} {XP : (Str → Option Value) → Heap → Prop} {YP : World → Heap → Prop} {d : DefRec} {K : Params → PySem.W.Frag} (hn : l.most = some 63) (hdf : d.params.defaults = [])
    (hY : ∀ (w : World) (h : Heap), YP w h → (K w.params).In h)
    (F : ∀ (w : World) (mg : Str → Option Value) (fa : Addr) (h : Heap), (K w.params).In h → h.Ns mainGlobals mg → mg d.name = some (.ref fa) →
      ∃ fd : FuncData, (∀ (s : Shared) (u : Value), BindsTo s fd ⟨[u], []⟩ [("_law_script", u)]) ∧ ∀ base : Heap, (K w.params).In base → base.Ns mainGlobals mg → FnOk l.prog w (K w.params) mg base CX0 16 fa fd ["_law_script"] (spLaw (K w.params))) :
    PySem.W.WalkO q loose XP YP l.row.toRowW d [] (fun f vs => PySem.call f vs) :=
  L2.walk_of (n := 63) (k := 16) (x := "_law_script") (CX := fun _ => CX0) (sp := fun w => spLaw (K w.params)) hn (by decide) hdf ⟨rfl, by decide, by decide⟩ hY F (fun _ _ a ns hl _ hS => ⟨a, ns, rfl, hS, fun _ => rfl⟩) fun _ _ _ _ _ z => z
end WL
open PySem PySem.W PyProof.Rows
theorem PySem.Challenge.cw_exitdeeds_k15_whole_worlds_listed_holds : PySem.Challenge.rw_exitdeeds_k15_whole_worlds_listed.Holds := by
  w_on; o_law; k_head; (case hw => w_witness2)
  k_fill
  refine WL.walk_law (l := PySem.Challenge.rw_exitdeeds_k15_whole_worlds_listed) rfl rfl (fun w h Y => PySem.W.kIn_of Y) ?F
  case F =>
    intro w mg fa h KX G hmg
    refine' WL.all_mk KX G hmg ?g_C ?g_D ?g_CB ?g_aN ?g_aW ?g_aL ?g_aT ?g_LON ?n_list ?n_len ?n_isinstance ?n_int ?n_bool ?n_str ?n_tuple ?n_iter ?n_enumerate ?n_range ?n_ValueError ?i_aN ?ty_aN ?s_aN ?i_aW ?ty_aW ?s_aW ?i_aL ?ty_aL ?s_aL ?i_aT ?ty_aT ?s_aT ?i_D ?ty_D ?s_D ?i_CB ?ty_CB ?s_CB ?sV ?sB ?sS ?xB ?saB ?kB ?noB ?gaB ?ggB ?hdB ?clB ?gsC ?tkC ?moB ?rdD ?gaD ?atD ?pgW ?hdW ?poW ?saW ?n1W ?n2W ?clW ?moW ?mkW ?kW ?a_ni ?t_ni ?l_ni ?c_ni ?k_ni ?a_wi ?t_wi ?l_wi ?c_wi ?k_wi ?a_wl ?t_wl ?l_wl ?c_wl ?k_wl ?a_wt ?t_wt ?l_wt ?c_wt ?k_wt ?a_ww ?l_ww ?c_ww ?k_ww ?a_pl ?l_pl ?c_pl ?k_pl ?a_mx ?l_mx ?c_mx ?k_mx ?a_dr ?l_dr ?c_dr ?k_dr ?a_sm ?l_sm ?c_sm ?k_sm ?a_sg ?l_sg ?c_sg ?k_sg ?a_rw ?l_rw ?c_rw ?k_rw ?a_fo ?l_fo ?c_fo ?k_fo ?a_la ?l_la ?c_la ?k_la
    (case g_C => first | k_is | rfl)
    (case g_D => first | k_is | rfl)
    (case g_CB => first | k_is | rfl)
    (case g_aN => first | k_is | rfl)
    (case g_aW => first | k_is | rfl)
    (case g_aL => first | k_is | rfl)
    (case g_aT => first | k_is | rfl)
    (case g_LON => first | k_is | rfl)
    (case n_list => first | k_is | rfl)
    (case n_len => first | k_is | rfl)
    (case n_isinstance => first | k_is | rfl)
    (case n_int => first | k_is | rfl)
    (case n_bool => first | k_is | rfl)
    (case n_str => first | k_is | rfl)
    (case n_tuple => first | k_is | rfl)
    (case n_iter => first | k_is | rfl)
    (case n_enumerate => first | k_is | rfl)
    (case n_range => first | k_is | rfl)
    (case n_ValueError => first | k_is | rfl)
    (case i_aN => first | k_is | rfl)
    (case ty_aN => first | k_is | rfl)
    (case s_aN => first | k_is | rfl)
    (case i_aW => first | k_is | rfl)
    (case ty_aW => first | k_is | rfl)
    (case s_aW => first | k_is | rfl)
    (case i_aL => first | k_is | rfl)
    (case ty_aL => first | k_is | rfl)
    (case s_aL => first | k_is | rfl)
    (case i_aT => first | k_is | rfl)
    (case ty_aT => first | k_is | rfl)
    (case s_aT => first | k_is | rfl)
    (case i_D => first | k_is | rfl)
    (case ty_D => first | k_is | rfl)
    (case s_D => first | k_is | rfl)
    (case i_CB => first | k_is | rfl)
    (case ty_CB => first | k_is | rfl)
    (case s_CB => first | k_is | rfl)
    (case sV => first | k_is | rfl)
    (case sB => first | k_is | rfl)
    (case sS => first | k_is | rfl)
    (case xB => first | k_is | rfl)
    (case saB => first | k_is | rfl)
    (case kB => first | k_is | rfl)
    (case noB => first | k_is | rfl)
    (case gaB => first | k_is | rfl)
    (case ggB => first | k_is | rfl)
    (case hdB => first | k_is | rfl)
    (case clB => first | k_is | rfl)
    (case gsC => first | k_is | rfl)
    (case tkC => first | k_is | rfl)
    (case moB => first | k_is | rfl)
    (case rdD => first | k_is | rfl)
    (case gaD => first | k_is | rfl)
    (case atD => first | k_is | rfl)
    (case pgW => first | k_is | rfl)
    (case hdW => first | k_is | rfl)
    (case poW => first | k_is | rfl)
    (case saW => first | k_is | rfl)
    (case n1W => first | k_is | rfl)
    (case n2W => first | k_is | rfl)
    (case clW => first | k_is | rfl)
    (case moW => first | k_is | rfl)
    (case mkW => first | k_is | rfl)
    (case kW => first | k_is | rfl)
    (case a_ni => first | k_is | rfl)
    (case t_ni => first | k_is | rfl)
    (case l_ni => first | k_is | rfl)
    (case c_ni => first | k_is | rfl)
    (case k_ni => first | k_is | rfl)
    (case a_wi => first | k_is | rfl)
    (case t_wi => first | k_is | rfl)
    (case l_wi => first | k_is | rfl)
    (case c_wi => first | k_is | rfl)
    (case k_wi => first | k_is | rfl)
    (case a_wl => first | k_is | rfl)
    (case t_wl => first | k_is | rfl)
    (case l_wl => first | k_is | rfl)
    (case c_wl => first | k_is | rfl)
    (case k_wl => first | k_is | rfl)
    (case a_wt => first | k_is | rfl)
    (case t_wt => first | k_is | rfl)
    (case l_wt => first | k_is | rfl)
    (case c_wt => first | k_is | rfl)
    (case k_wt => first | k_is | rfl)
    (case a_ww => first | k_is | rfl)
    (case l_ww => first | k_is | rfl)
    (case c_ww => first | k_is | rfl)
    (case k_ww => first | k_is | rfl)
    (case a_pl => first | k_is | rfl)
    (case l_pl => first | k_is | rfl)
    (case c_pl => first | k_is | rfl)
    (case k_pl => first | k_is | rfl)
    (case a_mx => first | k_is | rfl)
    (case l_mx => first | k_is | rfl)
    (case c_mx => first | k_is | rfl)
    (case k_mx => first | k_is | rfl)
    (case a_dr => first | k_is | rfl)
    (case l_dr => first | k_is | rfl)
    (case c_dr => first | k_is | rfl)
    (case k_dr => first | k_is | rfl)
    (case a_sm => first | k_is | rfl)
    (case l_sm => first | k_is | rfl)
    (case c_sm => first | k_is | rfl)
    (case k_sm => first | k_is | rfl)
    (case a_sg => first | k_is | rfl)
    (case l_sg => first | k_is | rfl)
    (case c_sg => first | k_is | rfl)
    (case k_sg => first | k_is | rfl)
    (case a_rw => first | k_is | rfl)
    (case l_rw => first | k_is | rfl)
    (case c_rw => first | k_is | rfl)
    (case k_rw => first | k_is | rfl)
    (case a_fo => first | k_is | rfl)
    (case l_fo => first | k_is | rfl)
    (case c_fo => first | k_is | rfl)
    (case k_fo => first | k_is | rfl)
    (case a_la => first | k_is | rfl)
    (case l_la => first | k_is | rfl)
    (case c_la => first | k_is | rfl)
    (case k_la => first | k_is | rfl)
