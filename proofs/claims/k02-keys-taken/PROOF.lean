import PyProof.Rows.All
import Wide.All
import OpenK.AllK
import Wide.FinOn
import PyProof.EqAt
import PyProof.EqKinds
import PyProof.TupleCall
import KE.KStateDown
import HandS.ForMost
import HandS.ForExc
import HandS.Deep
import HandS.TupAny
import HandS.IsInst
import HandS.ExcIs
import HandS.TryMany
import HandS.Defaults
import HandS.Head0
import HandS.Head1
import HandS.Head2
import HandS.HeadEnd
import HandS.HeadHook1
import HandS.HeadHook2
import HandS.Evl
import HandS.Text
import Lean
import PySem.Challenge.RW_mazeguide_k02_keys_taken
set_option Elab.async false
set_option linter.all false
set_option maxRecDepth 100000
set_option maxHeartbeats 4000000
namespace Mz
open PySem PySem.Spec PyProof.Rows L2

/-! ### a def that keeps its promise -/
/-- the def of the text at the module's name x -/
def Dfn (K : PySem.W.Frag) (mg : Str → Option Value) (x : Str) (st : Stmt) (ps : List Str) : Prop :=
  mg x = some (.ref (He.ga K x)) ∧ ∃ fd, FunD K x x (defArgs st) (defBody st) (defScope st) [] [] (He.ga K x) fd ∧ Binds K fd ps []
def Kept (P : Program) (w : World) (K : PySem.W.Frag) (mg : Str → Option Value) (base : Heap) (k : Nat) (x : Str) (ps : List Str) (sp : Sp) : Prop :=
  ∃ f fd, FnOk P w K mg base (L2.CX P w) k f fd ps sp ∧ mg x = some (.ref f) ∧ PySem.W.keepIn K (.ref f) = true ∧ Binds K fd ps []
section
variable {P : Program} {w : World} {K : PySem.W.Frag} {mg : Str → Option Value} {base : Heap}
theorem Dfn.kept {x : Str} {st : Stmt} {N ps : List Str} {k : Nat} {sp : Sp} (D : Dfn K mg x st ps) (S : FnScope N ps (defScope st)) (len : ∀ vs H Q E, sp vs H Q E → vs.length = ps.length)
    (hbody : ∀ (cdv : Value) (A : Around) (outer : List Env) (s : Shared) (H : Hp) (vs : List V) (Q : VK) (E : XK), Room k (A.deeper (envOfC x (defScope st) s.heap.objs.size (He.ga K x) cdv)) → sp vs H Q E →
      ∃ t, PSs (cxOf (L2.CX P w) P w K mg base N x (defScope st) (He.ga K x) cdv A outer s H E) (defBody st) t ∧ t { nx := fun _ H' => Q .non H', rt := Q } (start N vs) H) :
    Kept P w K mg base (k + 1) x ps sp := by
  obtain ⟨g, fd, F, b⟩ := D
  exact ⟨_, fd, F.ok S len hbody, g, F.kp, b⟩
end
section
variable {X : Cx} {k : Nat} {x : Str} {ps : List Str} {sp : Sp} {p pos : Pos} {e : Expr} {es : List Expr} {t : TA}
theorem pe_fn {E : XK} (F : Kept X.prog X.w X.K X.mg X.base k x ps sp) (hr : Room k X.A) (hx : Passes (L2.CX X.prog X.w) X E) (hg : Gl X x) (ha : PA X (e :: es) t)
    (hdb : (x == ("__debug__" : Str)) = false := by decide) (he : starEach (e :: es) X.env = (false, eval e X.env) :: starEach es X.env := by rfl) (hpl : (backTo pos (starEach es X.env)).any (·.1) = false := by rfl) :
    PE X (.Call (.Name x p) (e :: es) [] pos) (tCall sp [] E t) := by
  obtain ⟨f, fd, G, g, kp, b⟩ := F
  exact pe_call G hr hg g kp b .nil hx ha hdb he hpl
theorem pe_fnS {E : L2.St → XK} (F : Kept X.prog X.w X.K X.mg X.base k x ps sp) (hr : Room k X.A) (hx : ∀ st, PassesAt (L2.CX X.prog X.w) X st (E st)) (ha : PA X (e :: es) t) (hg : Gl X x := by rfl)
    (hdb : (x == ("__debug__" : Str)) = false := by decide) (he : starEach (e :: es) X.env = (false, eval e X.env) :: starEach es X.env := by rfl) (hpl : (backTo pos (starEach es X.env)).any (·.1) = false := by rfl) :
    PE X (.Call (.Name x p) (e :: es) [] pos) (tCallS sp E t) := by
  obtain ⟨f, fd, G, g, kp, b⟩ := F
  exact pe_callS G hr hg g kp b hx ha hdb he hpl
theorem passR {E : XK} (tk : L2.Takes X (fun cls d _ H => E cls d H)) : Passes (L2.CX X.prog X.w) X E := passes_call tk fun _ _ _ _ h => h
theorem takes0x : L2.Takes X (fun _ _ _ _ => False) := takes0
theorem pe_gint {i : Int} (h : ∃ tk, X.mg x = some (.int i tk)) (hg : Gl X x) (hd : (x == ("__debug__" : Str)) = false := by decide) : PE X (.Name x p) (tC (.int i)) := by
  obtain ⟨tk, h⟩ := h
  exact pe_glob hg h ⟨tk, rfl⟩ hd
theorem pe_gstr {z : Str} (h : ∃ tk, X.mg x = some (.str z tk)) (hg : Gl X x) (hd : (x == ("__debug__" : Str)) = false := by decide) : PE X (.Name x p) (tC (.str z)) := by
  obtain ⟨tk, h⟩ := h
  exact pe_glob hg h ⟨tk, rfl⟩ hd
theorem pe_gref {a : Addr} (h : X.mg x = some (.ref a)) (hg : Gl X x) (hd : (x == ("__debug__" : Str)) = false := by decide) : PE X (.Name x p) (tC (.ref a)) := pe_glob hg h rfl hd
end
theorem u65 {k : Nat} {A : Around} (hr : Room k A) : A.units + 65 < cLine := by have := hr.un; omega

/-! ### exception classes of the text -/
structure ExcT (K : PySem.W.Frag) (mg : Str → Option Value) (x : Str) : Prop where
  gC : mg x = some (.ref (He.ga K x))
  xC : PySem.W.excIn K (He.ga K x) [.type "ValueError", .type "Exception", .type "BaseException", .type "object"] "ValueError.__new__" = true
  kC : PySem.W.keepIn K (.ref (He.ga K x)) = true
  bC : PySem.W.subIn K (.ref (He.ga K x)) (.type "BaseException") = some true
  tC : PySem.W.typeIn K (.ref (He.ga K x)) = some (.type "type")
/-! ### the head's facts -/
inductive Fx where
  | fa (f : He.Fa)
  | excC (x : Str)
  | kit (x y : Str) (b : Bool)
  | kitT (x : Str) (n : String) (b : Bool)
def Fx.ok (K : PySem.W.Frag) : Fx → Bool
  | .fa f => f.ok K
  | .excC x => He.eqO (PySem.W.findIn K (.ref (He.ga K x)) "__getattribute__") (some (some (.builtin "BaseException.__getattribute__"))) && (He.eqO (PySem.W.findIn K (.ref (He.ga K x)) "__getattr__") (some none) && (decide (PySem.W.subIn K (.ref (He.ga K x)) (.type "BaseException") = some true) &&
      (PySem.W.hasDictIn K (He.ga K x) && (He.eqO (PySem.W.findIn K (.ref (He.ga K x)) "__class__") (some (some (.builtin "object.__class__"))) && (He.eqO (PySem.W.specialIn K (.builtin "object.__class__") "__get__") (some (some (.builtin "getset_descriptor.__get__"))) &&
        (decide (PySem.W.takesIn K (.builtin "object.__class__") = some true) && decide (PySem.W.mroIn K (He.ga K x) (.type "object") = some true)))))))
  | .kit x y b => decide (PySem.W.kitOne K (.ref (He.ga K x)) (.ref (He.ga K y)) = some b)
  | .kitT x n b => decide (PySem.W.kitOne K (.ref (He.ga K x)) (.type n) = some b)
theorem excC_ok {K : PySem.W.Frag} {x : Str} (c : (Fx.excC x).ok K = true) : ExcC K (He.ga K x) := by
  obtain ⟨h1, c⟩ := He.ba c
  obtain ⟨h2, c⟩ := He.ba c
  obtain ⟨h3, c⟩ := He.ba c
  obtain ⟨h4, c⟩ := He.ba c
  obtain ⟨h5, c⟩ := He.ba c
  obtain ⟨h6, c⟩ := He.ba c
  obtain ⟨h7, h8⟩ := He.ba c
  exact ⟨He.eqO_ok h1, He.eqO_ok h2, of_decide_eq_true h3, h4, He.eqO_ok h5, He.eqO_ok h6, of_decide_eq_true h7, of_decide_eq_true h8⟩
theorem excT_ok {K : PySem.W.Frag} {h : Heap} {mg : Str → Option Value} (X : K.In h) (G : h.Ns mainGlobals mg) {x : Str} (g : (He.Fa.glo x).ok K = true) (c : (He.Fa.exc x).ok K = true) : ExcT K mg x := by
  obtain ⟨h1, h2, h3, h4⟩ := He.exc_ok c
  exact ⟨He.glo_ok X G g, h1, h2, h3, h4⟩
def obsX (fa : List Fx) (fn : List He.DefD) (K : PySem.W.Frag) : He.AlD := ((fa.all fun f => f.ok K) && fn.all fun d => d.ok K, fn.map fun d => He.fnW K d.at_)
def SaysX (fa : List Fx) (fn : List He.DefD) (K : PySem.W.Frag) : Prop := obsX fa fn K = He.valD fn
def obsXG (n : Nat) (fa : List Fx) (fn : List He.DefD) (g : Addr → Option Obj) : He.AlD := obsX fa fn (He.frG g (He.asD g n))
def hookX (n : Nat) (fa : List Fx) (fn : List He.DefD) : PySem.W.Hook where
  α := He.AlD
  obs := fun s => obsXG n fa fn s.heap.get?
  val := fun _ => He.valD fn
  says := fun _ h => ∃ K : PySem.W.Frag, K.In h ∧ SaysX fa fn K
  of := fun _ _ e => ⟨_, He.frG_in, e⟩
  keeps := fun _ _ _ ⟨K, hK, c⟩ k => ⟨K, PySem.W.Frag.In.keeps hK k, c⟩
theorem obsXG_eq {n : Nat} {fa : List Fx} {fn : List He.DefD} {g : Addr → Option Obj} {s : Shared} (h : ∀ a, g a = s.heap.get? a) : obsXG n fa fn g = (hookX n fa fn).obs s := by
  have e : g = s.heap.get? := funext h
  rw [e]
  rfl
section
variable {fa : List Fx} {fn : List He.DefD} {K : PySem.W.Frag}
theorem SaysX.fact (c : SaysX fa fn K) (i : Nat) {f : Fx} (h : fa[i]? = some f := by rfl) : f.ok K = true := by
  have e : ((fa.all fun f => f.ok K) && fn.all fun d => d.ok K) = true := congrArg Prod.fst c
  have e1 := (He.ba e).1
  exact List.all_eq_true.mp e1 f (List.mem_of_getElem? h)
theorem SaysX.def_ (c : SaysX fa fn K) (i : Nat) {d : He.DefD} (h : fn[i]? = some d := by rfl) : ∃ fd, FunD K d.name d.qual d.params d.body d.scope (d.dvs K) (d.kws K) (He.fAd K d.at_) fd := by
  have e : ((fa.all fun f => f.ok K) && fn.all fun d => d.ok K) = true := congrArg Prod.fst c
  have e2 := List.all_eq_true.mp (He.ba e).2 d (List.mem_of_getElem? h)
  have e3 : (fn.map fun d => He.fnW K d.at_) = fn.map He.DefD.val := congrArg Prod.snd c
  have e4 : He.fnW K d.at_ = d.val := by
    have q := congrArg (fun l => l[i]?) e3
    simp only [List.getElem?_map, h, Option.map_some, Option.some.injEq] at q
    exact q
  exact He.DefD.funD e4 e2
theorem SaysX.dfn {mg : Str → Option Value} {h : Heap} (X : K.In h) (G : h.Ns mainGlobals mg) (c : SaysX fa fn K) {x : Str} {st : Stmt} {ps : List Str} (i j : Nat) (hd : fn[i]? = some ⟨(x, none), x, x, defArgs st, defBody st, defScope st, [], []⟩) (hj : fa[j]? = some (.fa (.glo x)))
    (hb : ∀ (kV doc pm : Value) (an : Option Addr) (cdv ct : Value) (us : List Value), us.length = ps.length → bindArgs (PySem.W.fnOf x x (defArgs st) (defBody st) (defScope st) .none kV doc pm an cdv ct) ⟨us, []⟩ = pure (ps.zip us)) : Dfn K mg x st ps := by
  obtain ⟨fd, F⟩ := c.def_ i hd
  exact ⟨He.glo_ok X G (c.fact j hj), fd, F, FunD.bindsN F hb⟩
end
/-- the law's end -/
theorem cx_end {P : Program} {w : World} (H : Hp) (s : Shared) (e : Value) (s' : Shared) (h : L2.CX P w [] H s (fun _ _ _ => False) e s') : False := by
  obtain ⟨_, _, _, _, _, _, _, _, _, _, _, _, z⟩ := h
  exact z
/-! ### a suite whose exception is of a class of the text -/
theorem pss_exc {X : Cx} {sts : List Stmt} {K : PySem.W.Frag} {cls : Value} {dd : Option Addr} {oe : Obj} {t : Addr → TS} (hz : Zc cls dd oe) (h : ∀ D, ExcC K D → Zc (.ref D) none oe → PSs X sts (t D)) :
    PSs X sts (fun Dn st H => ∃ D, (cls = .ref D ∧ dd = none ∧ ExcC K D) ∧ t D Dn st H) := ⟨fun pins s st H Dn I q => by
  obtain ⟨D, ⟨rfl, rfl, hx⟩, q⟩ := q
  exact (h D hx hz).run pins s st H Dn I q⟩
/-! ### the same rules, the written part named (within a comprehension) -/
section
variable {X : Cx} {K : PySem.W.Frag}
theorem ix_list_K (h : X.K = K) : IxR X (rIxL K) := by subst h; exact ix_list
theorem ix_seq_K (h : X.K = K) : IxR X (rIx K) := by subst h; exact ix_seq
theorem sl_tupA_K (h : X.K = K) : SlR X (rSlA K) := by subst h; exact sl_tupA
theorem op_catA_K (h : X.K = K) : OpR X (binaryOp .Add) (rCatA K) := by subst h; exact op_catA
theorem cr_sorted_K (h : X.K = K) : CallR X (.builtin "sorted") (rSorted K) := by subst h; exact cr_sorted
theorem pi_list_K {tg l : Expr} {tl : TE} (h : X.K = K) (hl : PE X l tl) : PI X tg l (iList K tl) := by subst h; exact pi_list hl
theorem pi_tup_K {tg l : Expr} {tl : TE} (h : X.K = K) (hl : PE X l tl) : PI X tg l (iTup K tl) := by subst h; exact pi_tup hl
theorem pg_tup_K {es : List Expr} {k : Nat} {t : TGs} {n : Nat} {pos : Pos} (hK : X.K = K) (hc : X.calm = true) (h : PGs X es t) (hn : (assignEach es X.env).length = n := by rfl) (hst : (assignEach es X.env).findIdx? (·.1) = none := by rfl) : PG X (.Tuple es k pos) (gTup K n t) := by
  subst hK; exact pg_tup hc h hn hst
theorem pe_bm0_K {o : Expr} {to : TE} {name : Str} {apos cpos : Pos} {T id : String} {r : V → List V → Hp → VK → Prop} (hK : X.K = K) (pa : PlainAttrs T) (slot : Slot T name id) (hty : typeOf (.builtin id) = pure (.type "method_descriptor")) (hm : MtR X id r) (ho : PE X o to)
    (hbase : attributeBase o name X.env (eval o X.env) = eval o X.env := by rfl) (hline : (apos.endLine == cpos.line) = true := by rfl) : PE X (.Call (.Attribute o name apos) [] [] cpos) (tBM0 K T r to) := by
  subst hK; exact pe_bm0 pa slot hty hm ho hbase hline
theorem pe_bm_K {o e : Expr} {es : List Expr} {to : TE} {t : TA} {name : Str} {apos cpos : Pos} {T id : String} {r : V → List V → Hp → VK → Prop} (hK : X.K = K) (pa : PlainAttrs T) (slot : Slot T name id) (hty : typeOf (.builtin id) = pure (.type "method_descriptor")) (hm : MtR X id r) (ho : PE X o to) (ha : PA X (e :: es) t)
    (hbase : attributeBase o name X.env (eval o X.env) = eval o X.env := by rfl)
    (hfew : ((backTo cpos (starEach (e :: es) X.env)).all (fun x => !x.1) && (backToKw cpos (keywordEach [] X.env)).all (fun x => x.1.isSome) && decide ((e :: es).length + ([] : List Keyword).length + (if ([] : List Keyword).isEmpty then 0 else 1) < 30)) = true := by rfl)
    (hline : (apos.endLine == cpos.line) = true := by rfl) (hs : starEach (e :: es) X.env = (false, eval e X.env) :: starEach es X.env := by rfl) (hplain : (backTo cpos (starEach es X.env)).any (·.1) = false := by rfl) :
    PE X (.Call (.Attribute o name apos) (e :: es) [] cpos) (tBM K T r to t) := by
  subst hK; exact pe_bm pa slot hty hm ho ha hbase hfew hline hs hplain
theorem ix_tup_K (h : X.K = K) : IxR X (rIxT K) := by subst h; exact ix_tup
theorem sl_list_K (h : X.K = K) : SlR X (rSlL K) := by subst h; exact sl_list
theorem call_len_seq_K (h : X.K = K) : CallR X (.builtin "len") (fun xs H Q => ∃ p ys, xs = [.ref p] ∧ (SqL K H p ys ∨ SqT K H p ys) ∧ Q (.int ys.length) H) := by subst h; exact call_len_seq
theorem call_list_of_K (h : X.K = K) : CallR X (.type "list") (fun xs H Q => ∃ p ys, xs = [.ref p] ∧ (SqL K H p ys ∨ SqT K H p ys) ∧ ∀ l, H l = none → Q (.ref l) (upd H l (.lst ys))) := by subst h; exact call_list_of
theorem call_tuple_of_K (h : X.K = K) : CallR X (.type "tuple") (fun xs H Q => ∃ p ys, xs = [.ref p] ∧ ((SqL K H p ys ∧ ∀ l, H l = none → Q (.ref l) (upd H l (.tup ys))) ∨ (SqT K H p ys ∧ Q (.ref p) H))) := by subst h; exact call_tuple_of
theorem call_isi_K (h : X.K = K) : CallR X (.builtin "isinstance") (rIsi K) := by subst h; exact call_isi
theorem op_eqD_K (h : X.K = K) (hu : X.A.units + 64 < cLine) : OpR X (compareOp .Eq) (rEqD K) := by subst h; exact op_eqD hu
theorem op_neD_K (h : X.K = K) (hu : X.A.units + 64 < cLine) : OpR X (compareOp .NotEq) (rNeD K) := by subst h; exact op_neD hu
theorem op_inD_K (h : X.K = K) (hu : X.A.units + 65 < cLine) : OpR X (compareOp .In) (rInD K) := by subst h; exact op_inD hu
theorem op_notInD_K (h : X.K = K) (hu : X.A.units + 65 < cLine) : OpR X (compareOp .NotIn) (rNotInD K) := by subst h; exact op_notInD hu
theorem op_in_seq_K (h : X.K = K) : OpR X (compareOp .In) (rIn K false) := by subst h; exact op_in_seq
theorem op_notIn_seq_K (h : X.K = K) : OpR X (compareOp .NotIn) (rIn K true) := by subst h; exact op_notIn_seq
end
end Mz
namespace Mz
open PySem PySem.Spec PyProof.Rows L2 Evl

/-! ### data made of tuples alone: it stays while lists change -/
mutual
inductive Td (H : Hp) : V → PyData → Prop
  | non : Td H .non .none
  | bl (b : Bool) : Td H (.bl b) (.bool b)
  | int (i : Int) : Td H (.int i) (.int i)
  | str (x : Str) : Td H (.str x) (.str x)
  | tup {a : Addr} {xs : List V} {ds : List PyData} : H a = some (.tup xs) → TdAll H xs ds → Td H (.ref a) (.tuple ds)
inductive TdAll (H : Hp) : List V → List PyData → Prop
  | nil : TdAll H [] []
  | cons {v : V} {vs : List V} {d : PyData} {ds : List PyData} : Td H v d → TdAll H vs ds → TdAll H (v :: vs) (d :: ds)
end
section
variable {K : PySem.W.Frag} {H H' : Hp}
mutual
theorem Td.keep (k : ∀ b xs, H b = some (.tup xs) → H' b = some (.tup xs)) : ∀ {d : PyData} {v : V}, Td H v d → Td H' v d
  | .none, _, .non => .non
  | .bool _, _, .bl b => .bl b
  | .int _, _, .int i => .int i
  | .str _, _, .str x => .str x
  | .tuple ds, _, .tup h r => .tup (k _ _ h) (TdAll.keep k r)
theorem TdAll.keep (k : ∀ b xs, H b = some (.tup xs) → H' b = some (.tup xs)) : ∀ {ds : List PyData} {vs : List V}, TdAll H vs ds → TdAll H' vs ds
  | [], _, .nil => .nil
  | _ :: _, _, .cons h r => .cons (Td.keep k h) (TdAll.keep k r)
end
mutual
theorem Td.dp : ∀ {d : PyData} {v : V}, Td H v d → Dp K H v d
  | .none, _, .non => .non
  | .bool _, _, .bl b => .bl b
  | .int _, _, .int i => .int i
  | .str _, _, .str x => .str x
  | .tuple ds, _, .tup h r => .tup (SqT.of h) (TdAll.dp r)
theorem TdAll.dp : ∀ {ds : List PyData} {vs : List V}, TdAll H vs ds → DpAll K H vs ds
  | [], _, .nil => .nil
  | _ :: _, _, .cons h r => .cons (Td.dp h) (TdAll.dp r)
end
mutual
theorem dp_ex (e : Ex H H') : ∀ {d : PyData} {v : V}, Dp K H v d → Dp K H' v d
  | .none, _, .non => .non
  | .bool _, _, .bl b => .bl b
  | .int _, _, .int i => .int i
  | .str _, _, .str x => .str x
  | .list ds, _, .lst h r => .lst (ex_l e h) (dpAll_ex e r)
  | .tuple ds, _, .tup h r => .tup (ex_t e h) (dpAll_ex e r)
theorem dpAll_ex (e : Ex H H') : ∀ {ds : List PyData} {vs : List V}, DpAll K H vs ds → DpAll K H' vs ds
  | [], _, .nil => .nil
  | _ :: _, _, .cons h r => .cons (dp_ex e h) (dpAll_ex e r)
end
theorem Td.ex (e : Ex H H') {d : PyData} {v : V} (h : Td H v d) : Td H' v d := Td.keep (fun b xs q => e b _ q) h
theorem TdAll.ex (e : Ex H H') {ds : List PyData} {vs : List V} (h : TdAll H vs ds) : TdAll H' vs ds := TdAll.keep (fun b xs q => e b _ q) h
theorem upd_tups {l : Addr} {xs : List V} {o : HO} (h : H l = some (.lst xs)) : ∀ b ys, H b = some (.tup ys) → upd H l o b = some (.tup ys) := fun b ys q => by
  rw [upd_ne (ne_of q h (fun z => by cases z))]
  exact q
theorem Td.upd {l : Addr} {xs : List V} {o : HO} (h : H l = some (.lst xs)) {d : PyData} {v : V} (q : Td H v d) : Td (L2.upd H l o) v d := Td.keep (upd_tups h) q
theorem TdAll.upd {l : Addr} {xs : List V} {o : HO} (h : H l = some (.lst xs)) {ds : List PyData} {vs : List V} (q : TdAll H vs ds) : TdAll (L2.upd H l o) vs ds := TdAll.keep (upd_tups h) q
theorem TdAll.append {ds es : List PyData} : ∀ {vs us : List V}, TdAll H vs ds → TdAll H us es → TdAll H (vs ++ us) (ds ++ es) := by
  induction ds with
  | nil => intro vs us h q; cases h; exact q
  | cons d r ih => intro vs us h q; cases h with | cons a b => exact .cons a (ih b q)
theorem TdAll.len {ds : List PyData} : ∀ {vs : List V}, TdAll H vs ds → vs.length = ds.length := by
  induction ds with
  | nil => intro vs h; cases h; rfl
  | cons d r ih => intro vs h; cases h with | cons a b => simp [ih b]
theorem TdAll.get {ds : List PyData} : ∀ {vs : List V} {i : Nat} {d : PyData}, TdAll H vs ds → ds[i]? = some d → ∃ v, vs[i]? = some v ∧ Td H v d := by
  induction ds with
  | nil => intro vs i d h q; simp at q
  | cons d r ih =>
    intro vs i d' h q
    cases h with
    | cons a b =>
      cases i with
      | zero => simp at q; subst q; exact ⟨_, rfl, a⟩
      | succ i => simp at q; obtain ⟨v, e, t⟩ := ih b q; exact ⟨v, by simpa using e, t⟩
theorem TdAll.getV {ds : List PyData} : ∀ {vs : List V} {i : Nat} {v : V}, TdAll H vs ds → vs[i]? = some v → ∃ d, ds[i]? = some d ∧ Td H v d := by
  induction ds with
  | nil => intro vs i d h q; cases h; simp at q
  | cons d r ih =>
    intro vs i d' h q
    cases h with
    | cons a b =>
      cases i with
      | zero => simp at q; subst q; exact ⟨_, rfl, a⟩
      | succ i => simp at q; obtain ⟨v, e, t⟩ := ih b q; exact ⟨v, by simpa using e, t⟩
theorem dpAll_len {ds : List PyData} : ∀ {vs : List V}, DpAll K H vs ds → vs.length = ds.length := by
  induction ds with
  | nil => intro vs h; cases h; rfl
  | cons d r ih => intro vs h; cases h with | cons a b => simp [ih b]
theorem dpAll_getV {ds : List PyData} : ∀ {vs : List V} {i : Nat} {v : V}, DpAll K H vs ds → vs[i]? = some v → ∃ d, ds[i]? = some d ∧ Dp K H v d := by
  induction ds with
  | nil => intro vs i d h q; cases h; simp at q
  | cons d r ih =>
    intro vs i d' h q
    cases h with
    | cons a b =>
      cases i with
      | zero => simp at q; subst q; exact ⟨_, rfl, a⟩
      | succ i => simp at q; obtain ⟨v, e, t⟩ := ih b q; exact ⟨v, by simpa using e, t⟩
theorem dpAll_get {ds : List PyData} : ∀ {vs : List V} {i : Nat} {d : PyData}, DpAll K H vs ds → ds[i]? = some d → ∃ v, vs[i]? = some v ∧ Dp K H v d := by
  induction ds with
  | nil => intro vs i d h q; simp at q
  | cons d r ih =>
    intro vs i d' h q
    cases h with
    | cons a b =>
      cases i with
      | zero => simp at q; subst q; exact ⟨_, rfl, a⟩
      | succ i => simp at q; obtain ⟨v, e, t⟩ := ih b q; exact ⟨v, by simpa using e, t⟩
theorem dpAll_append {ds es : List PyData} : ∀ {vs us : List V}, DpAll K H vs ds → DpAll K H us es → DpAll K H (vs ++ us) (ds ++ es) := by
  induction ds with
  | nil => intro vs us h q; cases h; exact q
  | cons d r ih => intro vs us h q; cases h with | cons a b => exact .cons a (ih b q)
/-- ints -/
theorem td_ints : ∀ ns : List Int, TdAll H (ns.map V.int) (ns.map PyData.int)
  | [] => .nil
  | n :: r => .cons (.int n) (td_ints r)
theorem td_int_inv {v : V} {i : Int} (h : Td H v (.int i)) : v = .int i := by cases h; rfl
theorem dp_int_inv {v : V} {i : Int} (h : Dp K H v (.int i)) : v = .int i := by cases h; rfl
theorem dpAll_ints : ∀ {ns : List Int} {vs : List V}, DpAll K H vs (ns.map PyData.int) → vs = ns.map V.int
  | [], _, .nil => rfl
  | n :: r, _, .cons h q => by rw [dp_int_inv h, dpAll_ints q]; rfl
theorem tdAll_ints : ∀ {ns : List Int} {vs : List V}, TdAll H vs (ns.map PyData.int) → vs = ns.map V.int
  | [], _, .nil => rfl
  | n :: r, _, .cons h q => by rw [td_int_inv h, tdAll_ints q]; rfl
/-- a list that stands, of such data -/
def LstT (H : Hp) (p : Addr) (ds : List PyData) : Prop := ∃ xs, H p = some (.lst xs) ∧ TdAll H xs ds
theorem LstT.ex (e : Ex H H') {p : Addr} {ds : List PyData} (h : LstT H p ds) : LstT H' p ds := by
  obtain ⟨xs, a, b⟩ := h
  exact ⟨xs, e _ _ a, b.ex e⟩
theorem LstT.dp {p : Addr} {ds : List PyData} (h : LstT H p ds) : Dp K H (.ref p) (.list ds) := by
  obtain ⟨xs, a, b⟩ := h
  exact .lst (SqL.of a) b.dp
theorem LstT.push {p : Addr} {ds : List PyData} {d : PyData} {v : V} {xs : List V} (h : H p = some (.lst xs)) (b : TdAll H xs ds) (t : Td H v d) : LstT (L2.upd H p (.lst (xs ++ [v]))) p (ds ++ [d]) :=
  ⟨_, upd_same, TdAll.append (b.upd h) (.cons (t.upd h) .nil)⟩
end

theorem at0 {ds : List PyData} {d : PyData} {j : Nat} (h : ds[j]? = some d := by rfl) : atI ds (j : Int) = some d := atI_nat h
theorem atI0 {d : PyData} {r : List PyData} : atI (d :: r) 0 = some d := at0 (j := 0)
theorem atI1 {a d : PyData} {r : List PyData} : atI (a :: d :: r) 1 = some d := at0 (j := 1)
theorem atI2 {a b d : PyData} {r : List PyData} : atI (a :: b :: d :: r) 2 = some d := at0 (j := 2)
/-! ### what evaluates to data -/
def EvP (te : TE) (σ : L2.St) (H : Hp) (P : V → Hp → Prop) : Prop := ∀ H1, Ex H H1 → ∀ Q : VK, (∀ v H2, Ex H1 H2 → P v H2 → Q v H2) → te σ H1 Q
def EaP (ta : TA) (σ : L2.St) (H : Hp) (P : List V → Hp → Prop) : Prop := ∀ H1, Ex H H1 → ∀ Q : List V → Hp → Prop, (∀ v H2, Ex H1 H2 → P v H2 → Q v H2) → ta σ H1 Q
abbrev EvD (K : PySem.W.Frag) (te : TE) (σ : L2.St) (H : Hp) (d : PyData) : Prop := EvP te σ H fun v H' => Dp K H' v d
abbrev EvTd (te : TE) (σ : L2.St) (H : Hp) (d : PyData) : Prop := EvP te σ H fun v H' => Td H' v d
abbrev EaTd (ta : TA) (σ : L2.St) (H : Hp) (ds : List PyData) : Prop := EaP ta σ H fun vs H' => TdAll H' vs ds
abbrev EaD (K : PySem.W.Frag) (ta : TA) (σ : L2.St) (H : Hp) (ds : List PyData) : Prop := EaP ta σ H fun vs H' => DpAll K H' vs ds
/-- a new list of such data -/
def EvLT (te : TE) (σ : L2.St) (H : Hp) (ds : List PyData) : Prop := ∀ H1, Ex H H1 → ∀ Q : VK, (∀ p H2, H1 p = none → Ex H1 H2 → LstT H2 p ds → Q (.ref p) H2) → te σ H1 Q
section
variable {K : PySem.W.Frag} {σ : L2.St} {H H' : Hp} {ta tb te tx : TE} {t u : TT} {x y z v : V} {r : R2} {tr : TA} {D : Ends} {tu tw tz : TS} {P P' : V → Hp → Prop} {d : PyData} {ds : List PyData}
theorem EvP.mono (e : Ex H H') (h : EvP te σ H P) : EvP te σ H' P := fun H1 e1 => h H1 (e.trans e1)
theorem EvLT.mono (e : Ex H H') (h : EvLT te σ H ds) : EvLT te σ H' ds := fun H1 e1 => h H1 (e.trans e1)
theorem EvP.imp (h : EvP te σ H P) (k : ∀ v H2, Ex H H2 → P v H2 → P' v H2) : EvP te σ H P' := fun H1 e Q q => h H1 e Q fun v H2 e2 p => q v H2 e2 (k v H2 (e.trans e2) p)
theorem ep_ev (h : Ev te σ H v) (k : ∀ H2, Ex H H2 → P v H2) : EvP te σ H P := fun H1 e Q q => h H1 e Q fun H2 e2 => q v H2 e2 (k H2 (e.trans e2))
theorem td_int {i : Int} (h : Ev te σ H (.int i)) : EvTd te σ H (.int i) := ep_ev h fun _ _ => .int i
theorem td_non (h : Ev te σ H .non) : EvTd te σ H .none := ep_ev h fun _ _ => .non
theorem td_bl {b : Bool} (h : Ev te σ H (.bl b)) : EvTd te σ H (.bool b) := ep_ev h fun _ _ => .bl b
theorem td_str {b : Str} (h : Ev te σ H (.str b)) : EvTd te σ H (.str b) := ep_ev h fun _ _ => .str b
theorem td_any (h : Ev te σ H v) (t : Td H v d) : EvTd te σ H d := ep_ev h fun _ e => t.ex e
theorem ed_any (h : Ev te σ H v) (t : Dp K H v d) : EvD K te σ H d := ep_ev h fun _ e => dp_ex e t
theorem ed_td (h : EvTd te σ H d) : EvD K te σ H d := h.imp fun _ _ _ t => t.dp
theorem ev_of_td {i : Int} (h : EvTd te σ H (.int i)) : Ev te σ H (.int i) := fun H1 e Q q => h H1 e Q fun v H2 e2 p => by rw [td_int_inv p]; exact q H2 e2
theorem ev_of_ed {i : Int} (h : EvD K te σ H (.int i)) : Ev te σ H (.int i) := fun H1 e Q q => h H1 e Q fun v H2 e2 p => by rw [dp_int_inv p]; exact q H2 e2
theorem ed_lt (h : EvLT te σ H ds) : EvD K te σ H (.list ds) := fun H1 e Q q => h H1 e Q fun p H2 _ e2 l => q _ H2 e2 l.dp
theorem ea_tn : EaTd tNil σ H [] := fun H1 e Q q => q [] H1 (Ex.refl H1) .nil
theorem ea_tc (h : EvTd te σ H d) (hr : EaTd tr σ H ds) : EaTd (tCons te tr) σ H (d :: ds) := fun H1 e Q q => h H1 e _ fun v H2 e2 p => hr H2 (e.trans e2) _ fun vs H3 e3 ps => q _ H3 (e2.trans e3) (.cons (p.ex e3) ps)
theorem ea_dn : EaD K tNil σ H [] := fun H1 e Q q => q [] H1 (Ex.refl H1) .nil
theorem ea_dc (h : EvD K te σ H d) (hr : EaD K tr σ H ds) : EaD K (tCons te tr) σ H (d :: ds) := fun H1 e Q q => h H1 e _ fun v H2 e2 p => hr H2 (e.trans e2) _ fun vs H3 e3 ps => q _ H3 (e2.trans e3) (.cons (dp_ex e3 p) ps)
theorem td_tup (h : EaTd tr σ H ds) (hl : ds.length ≤ 100000) : EvTd (tTup tr) σ H (.tuple ds) := fun H1 e Q q => h H1 e _ fun vs H2 e2 p => ⟨sz_of (by rw [p.len]; exact hl), fun a na => q _ _ (e2.trans (Ex.new na)) (.tup upd_same (p.ex (Ex.new na)))⟩
theorem ed_tup (h : EaD K tr σ H ds) (hl : ds.length ≤ 100000) : EvD K (tTup tr) σ H (.tuple ds) := fun H1 e Q q => h H1 e _ fun vs H2 e2 p => ⟨sz_of (by rw [dpAll_len p]; exact hl), fun a na => q _ _ (e2.trans (Ex.new na)) (.tup (SqT.of upd_same) (dpAll_ex (Ex.new na) p))⟩
theorem lt_lst (h : EaTd tr σ H ds) (hl : ds.length ≤ 100000) : EvLT (tLst tr) σ H ds := fun H1 e Q q => h H1 e _ fun vs H2 e2 p => ⟨sz_of (by rw [p.len]; exact hl), fun a na => q _ _ (fresh_back e2 na) (e2.trans (Ex.new na)) ⟨vs, upd_same, p.ex (Ex.new na)⟩⟩
theorem ed_lst (h : EaD K tr σ H ds) (hl : ds.length ≤ 100000) : EvD K (tLst tr) σ H (.list ds) := fun H1 e Q q => h H1 e _ fun vs H2 e2 p => ⟨sz_of (by rw [dpAll_len p]; exact hl), fun a na => q _ _ (e2.trans (Ex.new na)) (.lst (SqL.of upd_same) (dpAll_ex (Ex.new na) p))⟩
/-! ### items -/
theorem td_ixT {i : Int} (ha : EvTd ta σ H (.tuple ds)) (hb : Ev tb σ H (.int i)) (h : atI ds i = some d) : EvTd (tOp (rIxT K) ta tb) σ H d := fun H1 e Q q => ha H1 e _ fun v H2 e2 p => hb H2 (e.trans e2) _ fun H3 e3 => by
  cases p with
  | tup ho hd =>
    rename_i xs
    obtain ⟨j, h1, h2, h3, _⟩ := atI_get h
    obtain ⟨w, h4, h5⟩ := hd.get h2
    refine ⟨_, xs, i, w, rfl, rfl, SqT.of (e3 _ _ ho), ?_, q w H3 (e2.trans e3) (h5.ex e3)⟩
    have : atI xs i = some w := by
      unfold atI at h ⊢
      rw [hd.len]
      cases e5 : ixN ds.length i with
      | none => rw [e5] at h; cases h
      | some k =>
        have hk := (ixN_seq e5).1
        rw [hk] at h1
        cases h1
        exact h4
    exact this
theorem ed_ixT {i : Int} (ha : EvD K ta σ H (.tuple ds)) (hb : Ev tb σ H (.int i)) (h : atI ds i = some d) : EvD K (tOp (rIxT K) ta tb) σ H d := fun H1 e Q q => ha H1 e _ fun v H2 e2 p => hb H2 (e.trans e2) _ fun H3 e3 => by
  cases p with
  | tup ho hd =>
    rename_i xs
    obtain ⟨j, h1, h2, h3, _⟩ := atI_get h
    obtain ⟨w, h4, h5⟩ := dpAll_get hd h2
    refine ⟨_, xs, i, w, rfl, rfl, ex_t e3 ho, ?_, q w H3 (e2.trans e3) (dp_ex e3 h5)⟩
    have : atI xs i = some w := by
      unfold atI at h ⊢
      rw [dpAll_len hd]
      cases e5 : ixN ds.length i with
      | none => rw [e5] at h; cases h
      | some k =>
        have hk := (ixN_seq e5).1
        rw [hk] at h1
        cases h1
        exact h4
    exact this
theorem ed_ixL {i : Int} (ha : EvD K ta σ H (.list ds)) (hb : Ev tb σ H (.int i)) (h : atI ds i = some d) : EvD K (tOp (rIxL K) ta tb) σ H d := fun H1 e Q q => ha H1 e _ fun v H2 e2 p => hb H2 (e.trans e2) _ fun H3 e3 => by
  cases p with
  | lst ho hd =>
    rename_i xs
    obtain ⟨j, h1, h2, h3, _⟩ := atI_get h
    obtain ⟨w, h4, h5⟩ := dpAll_get hd h2
    refine ⟨_, xs, i, w, rfl, rfl, ex_l e3 ho, ?_, q w H3 (e2.trans e3) (dp_ex e3 h5)⟩
    have : atI xs i = some w := by
      unfold atI at h ⊢
      rw [dpAll_len hd]
      cases e5 : ixN ds.length i with
      | none => rw [e5] at h; cases h
      | some k =>
        have hk := (ixN_seq e5).1
        rw [hk] at h1
        cases h1
        exact h4
    exact this
theorem td_ixL {i : Int} (ha : EvLT ta σ H ds) (hb : Ev tb σ H (.int i)) (h : atI ds i = some d) : EvTd (tOp (rIxL K) ta tb) σ H d := fun H1 e Q q => ha H1 e _ fun pp H2 _ e2 p => hb H2 (e.trans e2) _ fun H3 e3 => by
  obtain ⟨xs, ho, hd⟩ := p
  obtain ⟨j, h1, h2, h3, _⟩ := atI_get h
  obtain ⟨w, h4, h5⟩ := hd.get h2
  refine ⟨_, xs, i, w, rfl, rfl, SqL.of (e3 _ _ ho), ?_, q w H3 (e2.trans e3) (h5.ex e3)⟩
  have : atI xs i = some w := by
    unfold atI at h ⊢
    rw [hd.len]
    cases e5 : ixN ds.length i with
    | none => rw [e5] at h; cases h
    | some k =>
      have hk := (ixN_seq e5).1
      rw [hk] at h1
      cases h1
      exact h4
  exact this
/-! ### == and in, of data -/
theorem ev_eqD {e : PyData} (ha : EvD K ta σ H d) (hb : EvD K tb σ H e) (h1 : SeqAt.shaped d = true) (h2 : SeqAt.shaped e = true) : Ev (tOp (rEqD K) ta tb) σ H (.bl (PyData.eqv d e)) := fun H1 x Q q => ha H1 x _ fun v H2 x2 p => hb H2 (x.trans x2) _ fun w H3 x3 p2 => ⟨d, e, dp_ex x3 p, p2, h1, h2, q H3 (x2.trans x3)⟩
theorem ev_neD {e : PyData} (ha : EvD K ta σ H d) (hb : EvD K tb σ H e) (h1 : SeqAt.shaped d = true) (h2 : SeqAt.shaped e = true) : Ev (tOp (rNeD K) ta tb) σ H (.bl (!PyData.eqv d e)) := fun H1 x Q q => ha H1 x _ fun v H2 x2 p => hb H2 (x.trans x2) _ fun w H3 x3 p2 => ⟨d, e, dp_ex x3 p, p2, h1, h2, q H3 (x2.trans x3)⟩
theorem ev_inD {es : List PyData} (ha : EvD K ta σ H d) (hb : EvD K tb σ H (.list es)) (h1 : SeqAt.shaped d = true) (h2 : SeqAt.shaped (.list es) = true) : Ev (tOp (rInD K) ta tb) σ H (.bl (es.any fun z => PyData.eqv z d)) := fun H1 x Q q => ha H1 x _ fun v H2 x2 p => hb H2 (x.trans x2) _ fun w H3 x3 p2 => ⟨d, es, dp_ex x3 p, p2, h1, h2, q H3 (x2.trans x3)⟩
theorem ev_niD {es : List PyData} (ha : EvD K ta σ H d) (hb : EvD K tb σ H (.list es)) (h1 : SeqAt.shaped d = true) (h2 : SeqAt.shaped (.list es) = true) : Ev (tOp (rNotInD K) ta tb) σ H (.bl (!es.any fun z => PyData.eqv z d)) := fun H1 x Q q => ha H1 x _ fun v H2 x2 p => hb H2 (x.trans x2) _ fun w H3 x3 p2 => ⟨d, es, dp_ex x3 p, p2, h1, h2, q H3 (x2.trans x3)⟩
/-- an int in a tuple or list of ints -/
theorem inV_int (i : Int) : ∀ ns : List Int, inV (.int i) (ns.map V.int) = decide (i ∈ ns)
  | [] => by simp [inV]
  | n :: r => by
    have h := inV_int i r
    have e0 : inV (.int i) ((n :: r).map V.int) = ((n == i) || inV (.int i) (r.map V.int)) := rfl
    rw [e0, h]
    by_cases e : n = i
    · subst e; simp
    · have e2 : (n == i) = false := beq_false_of_ne e
      have e3 : ¬ i = n := fun z => e z.symm
      simp [e2, e3]
theorem flat_ints : ∀ ns : List Int, (ns.map V.int).all flatV = true
  | [] => rfl
  | _ :: r => by simp [flatV, flat_ints r]
theorem ev_inI {i : Int} {ns : List Int} (ha : Ev ta σ H (.int i)) (hb : EvD K tb σ H (.tuple (ns.map PyData.int)) ∨ EvD K tb σ H (.list (ns.map PyData.int))) : Ev (tOp (rIn K false) ta tb) σ H (.bl (decide (i ∈ ns))) := fun H1 x Q q => ha H1 x _ fun H2 x2 => by
  rcases hb with hb | hb
  · refine hb H2 (x.trans x2) _ fun w H3 x3 p2 => ?_
    cases p2 with
    | tup ho hd =>
      rename_i xs
      have e := dpAll_ints hd
      subst e
      refine ⟨_, _, rfl, .inr ho, rfl, flat_ints ns, ?_⟩
      show Q (.bl (inV (.int i) (ns.map V.int))) H3
      rw [inV_int]
      exact q H3 (x2.trans x3)
  · refine hb H2 (x.trans x2) _ fun w H3 x3 p2 => ?_
    cases p2 with
    | lst ho hd =>
      rename_i xs
      have e := dpAll_ints hd
      subst e
      refine ⟨_, _, rfl, .inl ho, rfl, flat_ints ns, ?_⟩
      show Q (.bl (inV (.int i) (ns.map V.int))) H3
      rw [inV_int]
      exact q H3 (x2.trans x3)
theorem ev_niI {i : Int} {ns : List Int} (ha : Ev ta σ H (.int i)) (hb : EvD K tb σ H (.tuple (ns.map PyData.int)) ∨ EvD K tb σ H (.list (ns.map PyData.int))) : Ev (tOp (rIn K true) ta tb) σ H (.bl (!decide (i ∈ ns))) := fun H1 x Q q => ha H1 x _ fun H2 x2 => by
  rcases hb with hb | hb
  · refine hb H2 (x.trans x2) _ fun w H3 x3 p2 => ?_
    cases p2 with
    | tup ho hd =>
      rename_i xs
      have e := dpAll_ints hd
      subst e
      refine ⟨_, _, rfl, .inr ho, rfl, flat_ints ns, ?_⟩
      show Q (.bl (!inV (.int i) (ns.map V.int))) H3
      rw [inV_int]
      exact q H3 (x2.trans x3)
  · refine hb H2 (x.trans x2) _ fun w H3 x3 p2 => ?_
    cases p2 with
    | lst ho hd =>
      rename_i xs
      have e := dpAll_ints hd
      subst e
      refine ⟨_, _, rfl, .inl ho, rfl, flat_ints ns, ?_⟩
      show Q (.bl (!inV (.int i) (ns.map V.int))) H3
      rw [inV_int]
      exact q H3 (x2.trans x3)
/-! ### built-ins -/
theorem ev_lenD (ha : EvD K ta σ H d) (h : d = .list ds ∨ d = .tuple ds) : Ev (tCB (fun xs H Q => ∃ p ys, xs = [.ref p] ∧ (SqL K H p ys ∨ SqT K H p ys) ∧ Q (.int ys.length) H) (tCons ta tNil)) σ H (.int (ds.length : Int)) := fun H1 x Q q => ha H1 x _ fun v H2 x2 p => by
  rcases h with rfl | rfl
  · cases p with
    | lst ho hd =>
      rename_i a xs
      refine ⟨a, xs, rfl, .inl ho, ?_⟩
      rw [dpAll_len hd]
      exact q H2 x2
  · cases p with
    | tup ho hd =>
      rename_i a xs
      refine ⟨a, xs, rfl, .inr ho, ?_⟩
      rw [dpAll_len hd]
      exact q H2 x2
theorem ev_lenS {a : Addr} {xs : List V} (ha : Ev ta σ H (.ref a)) (h : SqL K H a xs) : Ev (tCB (fun xs H Q => ∃ p ys, xs = [.ref p] ∧ (SqL K H p ys ∨ SqT K H p ys) ∧ Q (.int ys.length) H) (tCons ta tNil)) σ H (.int (xs.length : Int)) := fun H1 x Q q => ha H1 x _ fun H2 x2 => ⟨a, xs, rfl, .inl (ex_l (x.trans x2) h), q H2 x2⟩
/-- tuple(x) of data without lists -/
theorem td_tupleL (ha : EvLT ta σ H ds) : EvTd (tCB (fun xs H Q => ∃ p ys, xs = [.ref p] ∧ ((SqL K H p ys ∧ ∀ l, H l = none → Q (.ref l) (upd H l (.tup ys))) ∨ (SqT K H p ys ∧ Q (.ref p) H))) (tCons ta tNil)) σ H (.tuple ds) := fun H1 x Q q => ha H1 x _ fun p H2 _ x2 ⟨xs, ho, hd⟩ =>
  ⟨p, xs, rfl, .inl ⟨SqL.of ho, fun l hl => q _ _ (x2.trans (Ex.new hl)) (.tup upd_same (hd.ex (Ex.new hl)))⟩⟩
theorem td_tupleV {a : Addr} (ha : Ev ta σ H (.ref a)) (h : LstT H a ds) : EvTd (tCB (fun xs H Q => ∃ p ys, xs = [.ref p] ∧ ((SqL K H p ys ∧ ∀ l, H l = none → Q (.ref l) (upd H l (.tup ys))) ∨ (SqT K H p ys ∧ Q (.ref p) H))) (tCons ta tNil)) σ H (.tuple ds) := fun H1 x Q q => ha H1 x _ fun H2 x2 => by
  obtain ⟨xs, ho, hd⟩ := h.ex (x.trans x2)
  exact ⟨a, xs, rfl, .inl ⟨SqL.of ho, fun l hl => q _ _ (x2.trans (Ex.new hl)) (.tup upd_same (hd.ex (Ex.new hl)))⟩⟩
theorem lt_list {a : Addr} (ha : Ev ta σ H (.ref a)) (h : LstT H a ds) : EvLT (tCB (fun xs H Q => ∃ p ys, xs = [.ref p] ∧ (SqL K H p ys ∨ SqT K H p ys) ∧ ∀ l, H l = none → Q (.ref l) (upd H l (.lst ys))) (tCons ta tNil)) σ H ds := fun H1 x Q q => ha H1 x _ fun H2 x2 => by
  obtain ⟨xs, ho, hd⟩ := h.ex (x.trans x2)
  exact ⟨a, xs, rfl, .inl (SqL.of ho), fun l hl => q _ _ (fresh_back x2 hl) (x2.trans (Ex.new hl)) ⟨xs, upd_same, hd.ex (Ex.new hl)⟩⟩
theorem ev_abs {i : Int} (ha : Ev ta σ H (.int i)) : Ev (tCB (fun xs H Q => ∃ i, xs = [.int i] ∧ Q (.int (if i < 0 then -i else i)) H) (tCons ta tNil)) σ H (.int (if i < 0 then -i else i)) := fun H1 x Q q => ha H1 x _ fun H2 x2 => ⟨i, rfl, q H2 x2⟩
theorem ev_isN (ha : Ev ta σ H x) : Ev (tOp (fun x y H Q => y = .non ∧ Q (.bl (decide (x = .non))) H) ta (tC .non)) σ H (.bl (decide (x = .non))) := fun H1 e Q q => ha H1 e _ fun H2 e2 => ⟨rfl, q H2 e2⟩
theorem ev_notN (ha : Ev ta σ H x) : Ev (tOp (fun x y H Q => y = .non ∧ Q (.bl (!decide (x = .non))) H) ta (tC .non)) σ H (.bl (!decide (x = .non))) := fun H1 e Q q => ha H1 e _ fun H2 e2 => ⟨rfl, q H2 e2⟩
theorem rv_isN : RV (fun x y H Q => y = .non ∧ Q (.bl (decide (x = .non))) H) x .non H (.bl (decide (x = .non))) := fun H1 e Q q => ⟨rfl, q H1 (Ex.refl H1)⟩
theorem rv_notN : RV (fun x y H Q => y = .non ∧ Q (.bl (!decide (x = .non))) H) x .non H (.bl (!decide (x = .non))) := fun H1 e Q q => ⟨rfl, q H1 (Ex.refl H1)⟩
theorem rv_eqI {i j : Int} : RV rEq (.int i) (.int j) H (.bl (decide (i = j))) := fun H1 e Q q => ⟨rfl, by
  have e2 : decide (V.int i = V.int j) = decide (i = j) := by simp
  rw [e2]
  exact q H1 (Ex.refl H1)⟩
theorem rv_neI {i j : Int} : RV rNe (.int i) (.int j) H (.bl (!decide (i = j))) := fun H1 e Q q => ⟨rfl, by
  have e2 : decide (V.int i = V.int j) = decide (i = j) := by simp
  rw [e2]
  exact q H1 (Ex.refl H1)⟩
/-! ### calls -/
theorem ta_cons {Q : List V → Hp → Prop} (h : ta σ H fun x H1 => tr σ H1 fun xs H2 => Q (x :: xs) H2) : tCons ta tr σ H Q := h
theorem ep_call {sp : Sp} {dvs : List V} {E : XK} {tr : TA} {Pa : List V → Hp → Prop} (h : EaP tr σ H Pa) (hs : ∀ vs H1, Ex H H1 → Pa vs H1 → ∀ Q : VK, (∀ v H2, Ex H1 H2 → P v H2 → Q v H2) → sp (vs ++ dvs) H1 Q E) : EvP (tCall sp dvs E tr) σ H P := fun H1 e Q q => h H1 e _ fun vs H2 e2 p => hs vs H2 (e.trans e2) p Q fun v H3 e3 p3 => q v H3 (e2.trans e3) p3
theorem ev_call0 {sp : Sp} {vs : List V} {E : XK} {tr : TA} (h : EvA tr σ H vs) (hs : SpV sp vs H z) : Ev (tCall sp [] E tr) σ H z := ev_call h (by rw [List.append_nil]; exact hs)
theorem ep_call0 {sp : Sp} {E : XK} {tr : TA} {Pa : List V → Hp → Prop} (h : EaP tr σ H Pa) (hs : ∀ vs H1, Ex H H1 → Pa vs H1 → ∀ Q : VK, (∀ v H2, Ex H1 H2 → P v H2 → Q v H2) → sp vs H1 Q E) : EvP (tCall sp [] E tr) σ H P :=
  ep_call h fun vs H1 e p Q q => by rw [List.append_nil]; exact hs vs H1 e p Q q
theorem ea_ep1 (h : EvP te σ H P) : EaP (tCons te tNil) σ H (fun vs H' => ∃ v, vs = [v] ∧ P v H') := fun H1 e Q q => h H1 e _ fun v H2 e2 p => q [v] H2 e2 ⟨v, rfl, p⟩
/-! ### statements -/
theorem s_asgP {i : Nat} (h : EvP te σ H P) (k : ∀ v H1, Ex H H1 → P v H1 → D.nx (σ.set i (some v)) H1) : tAsg te (gName i) D σ H := h H (Ex.refl H) _ fun v H1 e p => k v H1 e p
theorem q_asgP {i : Nat} (h : EvP te σ H P) (k : ∀ v H1, Ex H H1 → P v H1 → tz D (σ.set i (some v)) H1) : tSeq (tAsg te (gName i)) tz D σ H := h H (Ex.refl H) _ fun v H1 e p => k v H1 e p
theorem s_asgLT {i : Nat} (h : EvLT te σ H ds) (k : ∀ p H1, H p = none → Ex H H1 → LstT H1 p ds → D.nx (σ.set i (some (.ref p))) H1) : tAsg te (gName i) D σ H := h H (Ex.refl H) _ fun v H1 n e p => k v H1 n e p
theorem q_asgLT {i : Nat} (h : EvLT te σ H ds) (k : ∀ p H1, H p = none → Ex H H1 → LstT H1 p ds → tz D (σ.set i (some (.ref p))) H1) : tSeq (tAsg te (gName i)) tz D σ H := h H (Ex.refl H) _ fun v H1 n e p => k v H1 n e p
theorem s_retP (h : EvP te σ H P) (k : ∀ v H1, Ex H H1 → P v H1 → D.rt v H1) : tRet te D σ H := h H (Ex.refl H) _ fun v H1 e p => k v H1 e p
theorem s_retLT (h : EvLT te σ H ds) (k : ∀ p H1, H p = none → Ex H H1 → LstT H1 p ds → D.rt (.ref p) H1) : tRet te D σ H := h H (Ex.refl H) _ fun v H1 n e p => k v H1 n e p
theorem s_appT {l : Addr} (hl : LstT H l ds) (ha : Ev ta σ H (.ref l)) (h : EvTd te σ H d) (hz : ds.length < 100000) (k : ∀ H1 xs v, Ex H H1 → H1 l = some (.lst xs) → LstT (upd H1 l (.lst (xs ++ [v]))) l (ds ++ [d]) → D.nx σ (upd H1 l (.lst (xs ++ [v])))) :
    tDrop (tBM K "list" rAppend ta (tCons te tNil)) D σ H := by
  obtain ⟨xs, ho, hd⟩ := hl
  refine ha H (Ex.refl H) _ fun H1 e1 => ⟨Or.inl ⟨rfl, xs, sq_of (e1 l _ ho)⟩, h H1 e1 _ fun v H2 e2 p => ⟨l, xs, v, rfl, rfl, e2 l _ (e1 l _ ho), sz_lt (by rw [hd.len]; exact hz), ?_⟩⟩
  exact k H2 xs v (e1.trans e2) (e2 l _ (e1 l _ ho)) (LstT.push (e2 l _ (e1 l _ ho)) (hd.ex (e1.trans e2)) p)
theorem q_appT {l : Addr} (hl : LstT H l ds) (ha : Ev ta σ H (.ref l)) (h : EvTd te σ H d) (hz : ds.length < 100000) (k : ∀ H1 xs v, Ex H H1 → H1 l = some (.lst xs) → LstT (upd H1 l (.lst (xs ++ [v]))) l (ds ++ [d]) → tz D σ (upd H1 l (.lst (xs ++ [v])))) :
    tSeq (tDrop (tBM K "list" rAppend ta (tCons te tNil))) tz D σ H := s_appT (D := { D with nx := tz D }) hl ha h hz k
/-! ### comprehensions whose items are such data -/
def Ct (H : Hp) (f : Nat → Bool) (v : Nat → PyData) (Dl : Addr) (i : Nat) (H' : Hp) : Prop := H Dl = none ∧ Ex H H' ∧ LstT H' Dl (((List.range i).filter f).map v)
theorem len_filt (f : Nat → Bool) (v : Nat → PyData) (n : Nat) : (((List.range n).filter f).map v).length ≤ n := by
  rw [List.length_map]
  exact Nat.le_trans (List.length_filter_le _ _) (by simp)
theorem filt_yes {f : Nat → Bool} {v : Nat → PyData} {n : Nat} (h : f n = true) : ((List.range (n + 1)).filter f).map v = ((List.range n).filter f).map v ++ [v n] := by
  rw [List.range_succ, List.filter_append, List.map_append]
  simp [h]
theorem filt_no {f : Nat → Bool} {v : Nat → PyData} {n : Nat} (h : f n = false) : ((List.range (n + 1)).filter f).map v = ((List.range n).filter f).map v := by
  rw [List.range_succ, List.filter_append, List.map_append]
  simp [h]
theorem ct_turn {f : Nat → Bool} {v : Nat → PyData} {Dl : Addr} {i : Nat} {σ2 : L2.St} (p : Ct H f v Dl i H') (hi : i < 50000) (ht : EvT t σ2 H (f i)) (he : f i = true → EvTd te σ2 H (v i)) :
    t σ2 H' fun b H3 => if b = true then te σ2 H3 fun y H4 => ∃ acc, H4 Dl = some (.lst acc) ∧ acc.length < sizeLine ∧ Ct H f v Dl (i + 1) (upd H4 Dl (.lst (acc ++ [y]))) else Ct H f v Dl (i + 1) H3 := by
  obtain ⟨p1, p2, xs, p3, p4⟩ := p
  refine ht H' p2 _ fun H3 e3 => ?_
  cases hf : f i with
  | true =>
    show te σ2 H3 fun y H4 => ∃ acc, H4 Dl = some (.lst acc) ∧ acc.length < sizeLine ∧ Ct H f v Dl (i + 1) (upd H4 Dl (.lst (acc ++ [y])))
    refine he hf H3 (p2.trans e3) _ fun y H4 e4 q4 => ⟨xs, e4 Dl _ (e3 Dl _ p3), sz_lt (by have := len_filt f v i; rw [p4.len]; omega), p1, Ex.mut ((p2.trans e3).trans e4) p1, ?_⟩
    rw [filt_yes hf]
    exact LstT.push (e4 Dl _ (e3 Dl _ p3)) (p4.ex (e3.trans e4)) q4
  | false =>
    show Ct H f v Dl (i + 1) H3
    refine ⟨p1, p2.trans e3, ?_⟩
    rw [filt_no hf]
    exact ⟨xs, e3 Dl _ p3, p4.ex e3⟩
theorem lt_lcR1 {tr : TA} {j : Nat} {vs : List Nat} {n : Int} (f : Nat → Bool) (v : Nat → PyData) (h : EvA tr σ H [.int n]) (hn : n ≤ 40000) (hw : ∀ x, wipe ((wipe σ vs).set j (some x)) vs = wipe σ vs)
    (ht : ∀ (i : Nat) H1, Ex H H1 → (i : Int) < n → EvT t ((wipe σ vs).set j (some (.int (i : Int)))) H1 (f i)) (he : ∀ (i : Nat) H1, Ex H H1 → (i : Int) < n → f i = true → EvTd te ((wipe σ vs).set j (some (.int (i : Int)))) H1 (v i)) (hn0 : -100000 ≤ n := by omega) :
    EvLT (tLc (iRng1 tr) (gName j) t te vs) σ H (((List.range n.toNat).filter f).map v) := fun H0 e Q q => h H0 e _ fun H1 e1 => ⟨n, rfl, by omega, by omega, fun Dl hD =>
  lc_range (lo := 0) (n := n.toNat) (Ct H1 f v Dl) ⟨hD, Ex.new hD, ⟨[], upd_same, .nil⟩⟩ (fun i H' hi p => by
    have e0 : (0 : Int) + (i : Int) = (i : Int) := Int.zero_add _
    show wipe ((wipe σ vs).set j (some (.int ((0 : Int) + (i : Int))))) vs = wipe σ vs ∧ t ((wipe σ vs).set j (some (.int ((0 : Int) + (i : Int))))) H' fun b H3 => if b = true then te ((wipe σ vs).set j (some (.int ((0 : Int) + (i : Int))))) H3 fun y H4 => ∃ acc, H4 Dl = some (.lst acc) ∧ acc.length < sizeLine ∧ Ct H1 f v Dl (i + 1) (upd H4 Dl (.lst (acc ++ [y]))) else Ct H1 f v Dl (i + 1) H3
    rw [e0]
    exact ⟨hw _, ct_turn p (by omega) (ht i H1 (e.trans e1) (by omega)) (fun hf => he i H1 (e.trans e1) (by omega) hf)⟩) (fun H' p => q Dl H' (fresh_back e1 p.1) (e1.trans p.2.1) p.2.2)⟩
theorem lt_lcR2 {tr : TA} {j : Nat} {vs : List Nat} {lo n : Int} (f : Nat → Bool) (v : Nat → PyData) (h : EvA tr σ H [.int lo, .int n]) (hn : 0 ≤ lo ∧ lo ≤ 100000 ∧ -100000 ≤ n ∧ n ≤ 40000) (hw : ∀ x, wipe ((wipe σ vs).set j (some x)) vs = wipe σ vs)
    (ht : ∀ (i : Nat) H1, Ex H H1 → lo + (i : Int) < n → EvT t ((wipe σ vs).set j (some (.int (lo + (i : Int))))) H1 (f i)) (he : ∀ (i : Nat) H1, Ex H H1 → lo + (i : Int) < n → f i = true → EvTd te ((wipe σ vs).set j (some (.int (lo + (i : Int))))) H1 (v i)) :
    EvLT (tLc (iRng2 tr) (gName j) t te vs) σ H (((List.range (n - lo).toNat).filter f).map v) := fun H0 e Q q => h H0 e _ fun H1 e1 => ⟨lo, n, rfl, ⟨by omega, by omega, by omega, by omega⟩, fun Dl hD =>
  lc_range (lo := lo) (n := (n - lo).toNat) (Ct H1 f v Dl) ⟨hD, Ex.new hD, ⟨[], upd_same, .nil⟩⟩ (fun i H' hi p =>
    ⟨hw _, ct_turn p (by omega) (ht i H1 (e.trans e1) (by omega)) (fun hf => he i H1 (e.trans e1) (by omega) hf)⟩) (fun H' p => q Dl H' (fresh_back e1 p.1) (e1.trans p.2.1) p.2.2)⟩
end
section
variable {K : PySem.W.Frag} {σ : L2.St} {H H' : Hp} {ta tb te tx : TE} {t u : TT} {x y z v : V} {r : R2} {tr : TA} {D : Ends} {tu tw tz : TS} {P P' : V → Hp → Prop} {d : PyData} {ds : List PyData}
theorem filt_all {n : Nat} (v : Nat → PyData) : ((List.range n).filter fun _ => true).map v = (List.range n).map v := by rw [List.filter_eq_self.mpr (fun _ _ => rfl)]
theorem et_yes0 : EvT tYes σ H true := fun H1 _ Q q => q H1 (Ex.refl H1)
theorem lt_mapR1 {j : Nat} {vs : List Nat} {n : Int} (v : Nat → PyData) (h : EvA tr σ H [.int n]) (hn : n ≤ 40000) (hw : ∀ x, wipe ((wipe σ vs).set j (some x)) vs = wipe σ vs)
    (he : ∀ (i : Nat) H1, Ex H H1 → (i : Int) < n → EvTd te ((wipe σ vs).set j (some (.int (i : Int)))) H1 (v i)) (hn0 : -100000 ≤ n := by omega) :
    EvLT (tLc (iRng1 tr) (gName j) tYes te vs) σ H ((List.range n.toNat).map v) := by
  have h2 := lt_lcR1 (t := tYes) (te := te) (fun _ => true) v h hn hw (fun _ _ _ _ => et_yes0) (fun i H1 e hi _ => he i H1 e hi) hn0
  rw [filt_all] at h2
  exact h2
theorem lt_mapR2 {j : Nat} {vs : List Nat} {lo n : Int} (v : Nat → PyData) (h : EvA tr σ H [.int lo, .int n]) (hn : 0 ≤ lo ∧ lo ≤ 100000 ∧ -100000 ≤ n ∧ n ≤ 40000) (hw : ∀ x, wipe ((wipe σ vs).set j (some x)) vs = wipe σ vs)
    (he : ∀ (i : Nat) H1, Ex H H1 → lo + (i : Int) < n → EvTd te ((wipe σ vs).set j (some (.int (lo + (i : Int))))) H1 (v i)) :
    EvLT (tLc (iRng2 tr) (gName j) tYes te vs) σ H ((List.range (n - lo).toNat).map v) := by
  have h2 := lt_lcR2 (t := tYes) (te := te) (fun _ => true) v h hn hw (fun _ _ _ _ => et_yes0) (fun i H1 e hi _ => he i H1 e hi)
  rw [filt_all] at h2
  exact h2
theorem atI_getD {i : Int} (h0 : 0 ≤ i) (h1 : i < (ds.length : Int)) : atI ds i = some (ds.getD i.toNat .none) := by
  have hl : i.toNat < ds.length := by omega
  have := at0 (ds := ds) (j := i.toNat) (d := ds.getD i.toNat .none) (by rw [List.getD_eq_getElem?_getD, List.getElem?_eq_getElem hl]; rfl)
  rw [show ((i.toNat : Nat) : Int) = i by omega] at this
  exact this
/-- an item of a written list of ints -/
theorem ev_ixInts {xs : List Int} {i : Int} (h : EaTd tr σ H (xs.map PyData.int)) (hb : Ev tb σ H (.int i)) (h0 : 0 ≤ i) (h1 : i < (xs.length : Int)) (hl : xs.length ≤ 100000 := by first | decide | simp) : Ev (tOp (rIxL K) (tLst tr) tb) σ H (.int (xs.getD i.toNat 0)) := by
  refine ev_of_td (td_ixL (lt_lst h (by rw [List.length_map]; exact hl)) hb ?_)
  have hl2 : i.toNat < xs.length := by omega
  have := at0 (ds := xs.map PyData.int) (j := i.toNat) (d := .int (xs.getD i.toNat 0)) (by rw [List.getElem?_map, List.getD_eq_getElem?_getD, List.getElem?_eq_getElem hl2]; rfl)
  rw [show ((i.toNat : Nat) : Int) = i by omega] at this
  exact this
theorem ev_callP {sp : Sp} {E : XK} {Pa : List V → Hp → Prop} (h : EaP tr σ H Pa) (hs : ∀ vs H1, Ex H H1 → Pa vs H1 → SpV sp vs H1 z) : Ev (tCall sp [] E tr) σ H z := fun H1 e Q q => h H1 e _ fun vs H2 e2 p => by
  show sp (vs ++ []) H2 Q E
  rw [List.append_nil]
  exact hs vs H2 (e.trans e2) p H2 (Ex.refl H2) Q (fun H3 e3 => q H3 (e2.trans e3)) E
/-- arguments, one by one -/
theorem dpAll1 {vs : List V} {d : PyData} (h : DpAll K H vs [d]) : ∃ v, vs = [v] ∧ Dp K H v d := by
  cases h with | cons a b => cases b; exact ⟨_, rfl, a⟩
theorem dpAll2 {vs : List V} {d e : PyData} (h : DpAll K H vs [d, e]) : ∃ v u, vs = [v, u] ∧ Dp K H v d ∧ Dp K H u e := by
  cases h with | cons a b => cases b with | cons b c => cases c; exact ⟨_, _, rfl, a, b⟩
theorem dpAll3 {vs : List V} {d e f : PyData} (h : DpAll K H vs [d, e, f]) : ∃ v u x, vs = [v, u, x] ∧ Dp K H v d ∧ Dp K H u e ∧ Dp K H x f := by
  cases h with | cons a b => cases b with | cons b c => cases c with | cons c d => cases d; exact ⟨_, _, _, rfl, a, b, c⟩
theorem dpAll4 {vs : List V} {d e f g : PyData} (h : DpAll K H vs [d, e, f, g]) : ∃ v u x y, vs = [v, u, x, y] ∧ Dp K H v d ∧ Dp K H u e ∧ Dp K H x f ∧ Dp K H y g := by
  cases h with | cons a b => cases b with | cons b c => cases c with | cons c d => cases d with | cons d e => cases e; exact ⟨_, _, _, _, rfl, a, b, c, d⟩
theorem ed_int {i : Int} (h : Ev te σ H (.int i)) : EvD K te σ H (.int i) := ep_ev h fun _ _ => .int i
end
theorem et_yes {σ : L2.St} {H : Hp} : EvT tYes σ H true := fun H1 _ Q q => q H1 (Ex.refl H1)
end Mz
namespace Mz
open PySem PySem.Spec PyProof.Rows L2 Evl
def topS (i : Nat) : Stmt := PySem.Challenge.pw_mazeguide_k02_keys_taken.main.body.getD i (.Pass ⟨0, 0, 0, 0⟩)
abbrev s_need_room : Stmt := topS 5
theorem sc_need_room : FnScope ["maze", "room"] ["maze", "room"] (defScope s_need_room) := ⟨rfl, rfl, rfl, by decide +kernel, rfl, by decide +kernel, by decide +kernel⟩
abbrev s_taken : Stmt := topS 6
theorem sc_taken : FnScope ["maze", "room", "held", "kind"] ["maze", "room", "held"] (defScope s_taken) := ⟨rfl, rfl, rfl, by decide +kernel, rfl, by decide +kernel, by decide +kernel⟩
abbrev s_l_mix : Stmt := topS 8
theorem sc_l_mix : FnScope ["_law_cell", "_law_k", "_law_number"] ["_law_cell", "_law_k"] (defScope s_l_mix) := ⟨rfl, rfl, rfl, by decide +kernel, rfl, by decide +kernel, by decide +kernel⟩
abbrev s_l_whole : Stmt := topS 9
theorem sc_l_whole : FnScope ["_law_found"] ["_law_found"] (defScope s_l_whole) := ⟨rfl, rfl, rfl, by decide +kernel, rfl, by decide +kernel, by decide +kernel⟩
abbrev s_l_cell_at : Stmt := topS 10
theorem sc_l_cell_at : FnScope ["_law_script", "_law_k"] ["_law_script", "_law_k"] (defScope s_l_cell_at) := ⟨rfl, rfl, rfl, by decide +kernel, rfl, by decide +kernel, by decide +kernel⟩
abbrev s_l_hand : Stmt := topS 11
theorem sc_l_hand : FnScope ["_law_found", "_law_due", "_law_kind"] ["_law_found", "_law_due"] (defScope s_l_hand) := ⟨rfl, rfl, rfl, by decide +kernel, rfl, by decide +kernel, by decide +kernel⟩
abbrev s_l_far : Stmt := topS 12
theorem sc_l_far : FnScope ["_law_cell", "_law_size"] ["_law_cell", "_law_size"] (defScope s_l_far) := ⟨rfl, rfl, rfl, by decide +kernel, rfl, by decide +kernel, by decide +kernel⟩
abbrev s_law : Stmt := topS 13
theorem sc_law : FnScope ["_law_script", "_law_size", "_law_lying", "_law_cell", "_law_held", "_law_pick", "_law_room", "_law_handed", "_law_doors", "_law_k", "_law_due", "_law_lies", "_law_kind", "_law_found"] ["_law_script"] (defScope s_law) := ⟨rfl, rfl, rfl, by decide +kernel, rfl, by decide +kernel, by decide +kernel⟩
structure Txt (K : PySem.W.Frag) (mg : Str → Option Value) : Prop where
  n_abs : mg "abs" = none
  n_bool : mg "bool" = none
  n_int : mg "int" = none
  n_isinstance : mg "isinstance" = none
  n_len : mg "len" = none
  n_list : mg "list" = none
  n_range : mg "range" = none
  n_sorted : mg "sorted" = none
  n_tuple : mg "tuple" = none
  i_KINDS : ∃ tk, mg "KINDS" = some (.int 5 tk)
  e_MazeError : ExcT K mg "MazeError"
  e_NoRoom : ExcT K mg "NoRoom"
  m_NoRoom_MazeError : PySem.W.exmOne K (.ref (He.ga K "NoRoom")) (.ref (He.ga K "MazeError")) = some true
  m_NoRoom_NoRoom : PySem.W.exmOne K (.ref (He.ga K "NoRoom")) (.ref (He.ga K "NoRoom")) = some true
  d_need_room : Dfn K mg "need_room" s_need_room ["maze", "room"]
  d_taken : Dfn K mg "taken" s_taken ["maze", "room", "held"]
  d_l_mix : Dfn K mg "_law_mix" s_l_mix ["_law_cell", "_law_k"]
  d_l_whole : Dfn K mg "_law_whole" s_l_whole ["_law_found"]
  d_l_cell_at : Dfn K mg "_law_cell_at" s_l_cell_at ["_law_script", "_law_k"]
  d_l_hand : Dfn K mg "_law_hand" s_l_hand ["_law_found", "_law_due"]
  d_l_far : Dfn K mg "_law_far" s_l_far ["_law_cell", "_law_size"]
  d_law : Dfn K mg "law" s_law ["_law_script"]
end Mz
namespace Mz
open PySem PySem.Spec PyProof.Rows L2 Evl
/-! ### the tactics of the readings -/
local macro_rules | `(tactic| walk_at "mz side") => `(tactic| first
  | assumption
  | omega
  | decide
  | exact Or.inl ⟨by omega, by omega⟩
  | exact Or.inr ⟨by omega, by omega⟩
  | exact ⟨by omega, by omega⟩
  | exact ⟨by decide, by decide, by decide⟩)
local macro_rules | `(tactic| walk_at "mz ev1") => `(tactic| first
  | exact ev_c
  | exact ev_var rfl
  | with_reducible apply ev_op
  | with_reducible exact rv_I0
  | ((with_reducible refine rv_I ?_); walk_at "mz side")
  | with_reducible exact rv_eqI
  | with_reducible exact rv_neI
  | with_reducible exact rv_isN
  | with_reducible exact rv_notN
  | with_reducible apply ev_un
  | with_reducible exact ru_neg
  | with_reducible apply ev_abs
  | with_reducible apply et_test
  | with_reducible apply et_B
  | with_reducible apply et_not
  | with_reducible apply et_and
  | with_reducible apply et_or
  | with_reducible apply ev_andV
  | with_reducible apply ev_orV
  | with_reducible apply ev_notV
  | with_reducible exact ea_nil
  | with_reducible apply ea_cons
  | with_reducible exact ea_tn
  | with_reducible apply ea_tc
  | with_reducible refine td_tup ?_ (by first | decide | simp)
  | with_reducible exact et_yes)
local macro_rules | `(tactic| walk_at "mz ev") => `(tactic| repeat' walk_at "mz ev1")
/-! ### the data of mazes -/
abbrev Key2 := Int × Int
abbrev Door := Int × Int × Option Int
def lockD : Option Int → PyData
  | none => .none
  | some k => .int k
def doorD (d : Door) : PyData := .tuple [.int d.1, .int d.2.1, lockD d.2.2]
def keyD (k : Key2) : PyData := .tuple [.int k.1, .int k.2]
def intsD (ns : List Int) : PyData := .tuple (ns.map PyData.int)
mutual
def nb : PyData → Bool
  | .none => true
  | .int _ => true
  | .list xs => nbAll xs
  | .tuple xs => nbAll xs
  | _ => false
def nbAll : List PyData → Bool
  | [] => true
  | x :: xs => nb x && nbAll xs
end
mutual
theorem nb_lay : ∀ d : PyData, nb d = true → d.canLay0 = true
  | .none, _ => by simp only [PyData.canLay0]
  | .int _, _ => by simp only [PyData.canLay0]
  | .bool _, h => by simp [nb] at h
  | .str _, h => by simp [nb] at h
  | .dict _, h => by simp [nb] at h
  | .list xs, h => by simp only [PyData.canLay0]; exact nb_layAll xs (by simpa only [nb] using h)
  | .tuple xs, h => by simp only [PyData.canLay0]; exact nb_layAll xs (by simpa only [nb] using h)
theorem nb_layAll : ∀ ds : List PyData, nbAll ds = true → PyData.canLayAll0 ds = true
  | [], _ => by simp only [PyData.canLayAll0]
  | x :: xs, h => by
    simp only [nbAll, Bool.and_eq_true] at h
    simp only [PyData.canLayAll0, Bool.and_eq_true]
    exact ⟨nb_lay x h.1, nb_layAll xs h.2⟩
end
mutual
theorem eqv_nb : ∀ d e : PyData, nb d = true → nb e = true → (PyData.eqv d e = true ↔ d = e)
  | .none, .none, _, _ => by simp [PyData.eqv]
  | .none, .int _, _, _ => by simp [PyData.eqv]
  | .none, .list _, _, _ => by simp [PyData.eqv]
  | .none, .tuple _, _, _ => by simp [PyData.eqv]
  | .int _, .none, _, _ => by simp [PyData.eqv]
  | .int i, .int j, _, _ => by simp [PyData.eqv]
  | .int _, .list _, _, _ => by simp [PyData.eqv]
  | .int _, .tuple _, _, _ => by simp [PyData.eqv]
  | .list _, .none, _, _ => by simp [PyData.eqv]
  | .list _, .int _, _, _ => by simp [PyData.eqv]
  | .list xs, .list ys, h, q => by
    simp only [PyData.eqv, PyData.list.injEq]
    exact eqv_nbAll xs ys (by simpa only [nb] using h) (by simpa only [nb] using q)
  | .list _, .tuple _, _, _ => by simp [PyData.eqv]
  | .tuple _, .none, _, _ => by simp [PyData.eqv]
  | .tuple _, .int _, _, _ => by simp [PyData.eqv]
  | .tuple _, .list _, _, _ => by simp [PyData.eqv]
  | .tuple xs, .tuple ys, h, q => by
    simp only [PyData.eqv, PyData.tuple.injEq]
    exact eqv_nbAll xs ys (by simpa only [nb] using h) (by simpa only [nb] using q)
  | .bool _, _, h, _ => by simp [nb] at h
  | .str _, _, h, _ => by simp [nb] at h
  | .dict _, _, h, _ => by simp [nb] at h
  | .none, .bool _, _, h => by simp [nb] at h
  | .none, .str _, _, h => by simp [nb] at h
  | .none, .dict _, _, h => by simp [nb] at h
  | .int _, .bool _, _, h => by simp [nb] at h
  | .int _, .str _, _, h => by simp [nb] at h
  | .int _, .dict _, _, h => by simp [nb] at h
  | .list _, .bool _, _, h => by simp [nb] at h
  | .list _, .str _, _, h => by simp [nb] at h
  | .list _, .dict _, _, h => by simp [nb] at h
  | .tuple _, .bool _, _, h => by simp [nb] at h
  | .tuple _, .str _, _, h => by simp [nb] at h
  | .tuple _, .dict _, _, h => by simp [nb] at h
theorem eqv_nbAll : ∀ ds es : List PyData, nbAll ds = true → nbAll es = true → (PyData.eqvAll ds es = true ↔ ds = es)
  | [], [], _, _ => by simp [PyData.eqvAll]
  | [], _ :: _, _, _ => by simp [PyData.eqvAll]
  | _ :: _, [], _, _ => by simp [PyData.eqvAll]
  | x :: xs, y :: ys, h, q => by
    simp only [nbAll, Bool.and_eq_true] at h q
    simp only [PyData.eqvAll, Bool.and_eq_true, List.cons.injEq, eqv_nb x y h.1 q.1, eqv_nbAll xs ys h.2 q.2]
end
theorem eqv_self {d : PyData} (h : nb d = true) : PyData.eqv d d = true := (eqv_nb d d h h).mpr rfl
theorem eqv_dec {d e : PyData} {p : Prop} [Decidable p] (h : nb d = true) (q : nb e = true) (k : d = e ↔ p) : PyData.eqv d e = decide p := by
  by_cases c : p
  · rw [decide_eq_true c]
    exact (eqv_nb d e h q).mpr (k.mpr c)
  · rw [decide_eq_false c]
    cases z : PyData.eqv d e with
    | false => rfl
    | true => exact absurd (k.mp ((eqv_nb d e h q).mp z)) c
theorem nbAll_iff : ∀ {ds : List PyData}, nbAll ds = true ↔ ∀ d ∈ ds, nb d = true
  | [] => by simp [nbAll]
  | x :: xs => by simp [nbAll, nbAll_iff (ds := xs)]
theorem nbAll_map {α : Type} {f : α → PyData} (h : ∀ a, nb (f a) = true) (l : List α) : nbAll (l.map f) = true := nbAll_iff.mpr fun d hd => by
  obtain ⟨a, _, rfl⟩ := List.mem_map.mp hd
  exact h a
/-- depth -/
theorem depthAll_le {n : Nat} : ∀ {ds : List PyData}, (∀ d ∈ ds, d.depth ≤ n) → PyData.depthAll ds ≤ n
  | [], _ => by simp [PyData.depthAll]
  | x :: xs, h => by
    have h1 := h x (by simp)
    have h2 := depthAll_le (ds := xs) fun d hd => h d (by simp [hd])
    simp only [PyData.depthAll]
    omega
theorem depth_tuple {n : Nat} {ds : List PyData} (h : ∀ d ∈ ds, d.depth ≤ n) : PyData.depth (.tuple ds) ≤ n + 1 := by
  have := depthAll_le h
  simp only [PyData.depth]
  omega
theorem depth_list {n : Nat} {ds : List PyData} (h : ∀ d ∈ ds, d.depth ≤ n) : PyData.depth (.list ds) ≤ n + 1 := by
  have := depthAll_le h
  simp only [PyData.depth]
  omega
theorem depth_int (i : Int) : PyData.depth (.int i) = 0 := by simp [PyData.depth]
theorem depth_map {α : Type} {n : Nat} {f : α → PyData} (h : ∀ a, (f a).depth ≤ n) (l : List α) : ∀ d ∈ l.map f, d.depth ≤ n := fun d hd => by
  obtain ⟨a, _, rfl⟩ := List.mem_map.mp hd
  exact h a
theorem shaped_of {d : PyData} (h : nb d = true) (k : d.depth ≤ 64) : SeqAt.shaped d = true := by
  show (d.canLay0 && decide (d.depth ≤ 64)) = true
  rw [Bool.and_eq_true]
  exact ⟨nb_lay d h, decide_eq_true k⟩
theorem nb_lock (l : Option Int) : nb (lockD l) = true := by cases l <;> simp [lockD, nb]
theorem nb_door (d : Door) : nb (doorD d) = true := by simp [doorD, nb, nbAll, nb_lock]
theorem nb_key (k : Key2) : nb (keyD k) = true := by simp [keyD, nb, nbAll]
theorem nb_intD (i : Int) : nb (.int i) = true := by simp [nb]
theorem nb_ints (ns : List Int) : nb (intsD ns) = true := by simp only [intsD, nb]; exact nbAll_map nb_intD ns
theorem dep_lock (l : Option Int) : (lockD l).depth = 0 := by cases l <;> simp [lockD, PyData.depth]
theorem dep_door (d : Door) : (doorD d).depth ≤ 1 := by simp [doorD, PyData.depth, PyData.depthAll, dep_lock]
theorem dep_key (k : Key2) : (keyD k).depth ≤ 1 := by simp [keyD, PyData.depth, PyData.depthAll]
theorem dep_ints (ns : List Int) : (intsD ns).depth ≤ 1 := depth_tuple (depth_map (fun i => by simp [PyData.depth]) ns)
theorem sh_key (k : Key2) : SeqAt.shaped (keyD k) = true := shaped_of (nb_key k) (by have := dep_key k; omega)
theorem sh_ints (ns : List Int) : SeqAt.shaped (intsD ns) = true := shaped_of (nb_ints ns) (by have := dep_ints ns; omega)
theorem nb_keys (ks : List Key2) : nb (.list (ks.map keyD)) = true := by simp only [nb]; exact nbAll_map nb_key ks
theorem sh_keys (ks : List Key2) : SeqAt.shaped (.list (ks.map keyD)) = true := shaped_of (nb_keys ks) (by have := depth_list (depth_map dep_key ks); omega)
theorem nb_doors (ks : List Door) : nb (.list (ks.map doorD)) = true := by simp only [nb]; exact nbAll_map nb_door ks
theorem sh_doors (ks : List Door) : SeqAt.shaped (.list (ks.map doorD)) = true := shaped_of (nb_doors ks) (by have := depth_list (depth_map dep_door ks); omega)
theorem keyD_inj {a b : Key2} : keyD a = keyD b ↔ a = b := by
  obtain ⟨a1, a2⟩ := a
  obtain ⟨b1, b2⟩ := b
  simp [keyD]
theorem eqv_key (a b : Key2) : PyData.eqv (keyD a) (keyD b) = decide (a = b) := eqv_dec (nb_key a) (nb_key b) keyD_inj
theorem any_key (k : Key2) : ∀ ks : List Key2, ((ks.map keyD).any fun z => PyData.eqv z (keyD k)) = decide (k ∈ ks)
  | [] => by simp
  | a :: r => by
    have h := any_key k r
    rw [List.map_cons, List.any_cons, h, eqv_key]
    by_cases e : a = k
    · subst e; simp
    · have e2 : ¬ k = a := fun z => e z.symm
      simp [e, e2]
theorem map_inj {α β : Type} {f : α → β} (h : ∀ a b, f a = f b → a = b) : ∀ {l m : List α}, l.map f = m.map f → l = m
  | [], [], _ => rfl
  | [], _ :: _, e => by simp at e
  | _ :: _, [], e => by simp at e
  | a :: l, b :: m, e => by
    simp only [List.map_cons, List.cons.injEq] at e
    rw [h a b e.1, map_inj h e.2]
theorem intsD_inj {a b : List Int} : intsD a = intsD b ↔ a = b := by
  refine ⟨fun e => ?_, fun e => by rw [e]⟩
  simp only [intsD, PyData.tuple.injEq] at e
  exact map_inj (fun a b z => by simpa using z) e
theorem eqv_ints (a b : List Int) : PyData.eqv (intsD a) (intsD b) = decide (a = b) := eqv_dec (nb_ints a) (nb_ints b) intsD_inj
/-- the kinds of which p tells True, ascending -/
def kindsOf (p : Nat → Bool) : List Int := ((List.range 5).filter p).map fun (i : Nat) => (i : Int)
theorem kindsOf_data (p : Nat → Bool) : ((List.range 5).filter p).map (fun (i : Nat) => PyData.int (i : Int)) = (kindsOf p).map PyData.int := by
  unfold kindsOf
  rw [List.map_map]
  rfl
def keysIn (ks : List Key2) (room : Int) : List Int := kindsOf fun i => decide ((room, (i : Int)) ∈ ks)
def takenF (ks : List Key2) (room : Int) (held : List Int) : List Int := kindsOf fun i => decide ((i : Int) ∈ held) || decide ((room, (i : Int)) ∈ ks)
def mazeD (n : Int) (dd : List PyData) (ks : List Key2) : PyData := .tuple [.int n, .list dd, .list (ks.map keyD)]
/-- the room is there -/
abbrev Here (n room : Int) : Prop := 0 ≤ room ∧ room < n
/-- a cell of the script -/
def cellAt (ns : List Int) (k : Int) : Int := if k < ns.length then ns.getD k.toNat 0 else 0

def mix (c k : Int) : Int := (c + 7919 * k + 1) * 48271 % 1000003 * ((c + 7919 * k + 1) * 48271 % 1000003) % 999983
theorem mix_pos (c k : Int) : 0 ≤ mix c k := Int.emod_nonneg _ (by decide)
theorem mix_lt (c k : Int) : mix c k < 999983 := Int.emod_lt_of_pos _ (by decide)
def sp_l_mix (K : PySem.W.Frag) : Sp := fun vs H Q _ => ∃ c k : Int, vs = [.int c, .int k] ∧ ∀ H2, Ex H H2 → Q (.int (mix c k)) H2
section
variable {P : Program} {w : World} {K : PySem.W.Frag} {mg : Str → Option Value} {base : Heap}
theorem ok_l_mix (T : Txt K mg) : Kept P w K mg base 1 "_law_mix" ["_law_cell", "_law_k"] (sp_l_mix K) := by
  refine T.d_l_mix.kept sc_l_mix (fun vs H Q E h => ?_) (fun cdv A outer s H vs Q E hr h => ?_)
  · obtain ⟨c, k, rfl, _⟩ := h
    rfl
  · obtain ⟨c, k, rfl, q⟩ := h
    refine ⟨_, (pss_cons (ps_set (i := 2) sc_l_mix.nd rfl (Or.inl rfl) (pe_op op_mod (pe_op op_mul (pe_op op_add (pe_op op_add (pv 0) (pe_op op_mul pe_int (pv 1))) pe_int) pe_int) pe_int))
      (pss_one (ps_ret (pe_op op_mod (pe_op op_mul (pv 2) (pv 2)) pe_int)))), ?_⟩
    refine q_asg (v := .int ((c + 7919 * k + 1) * 48271 % 1000003)) ?_ fun H1 e1 => ?_
    · walk_at "mz ev"
    refine s_ret (v := .int (mix c k)) ?_ fun H2 e2 => q _ (e1.trans e2)
    unfold mix
    walk_at "mz ev"
theorem sv_l_mix {H : Hp} {c k : Int} : SpV (sp_l_mix K) [.int c, .int k] H (.int (mix c k)) := fun H1 e Q q E => ⟨c, k, rfl, q⟩
end

section
variable {P : Program} {w : World} {K : PySem.W.Frag} {mg : Str → Option Value} {base : Heap}
/-! ### a cell of the script -/
def sp_l_cell_at (K : PySem.W.Frag) : Sp := fun vs H Q _ => ∃ (a : Addr) (ns : List Int) (k : Int), vs = [.ref a, .int k] ∧ SqL K H a (ns.map V.int) ∧ 0 ≤ k ∧ ∀ H2, Ex H H2 → Q (.int (cellAt ns k)) H2
theorem ok_l_cell_at (T : Txt K mg) : Kept P w K mg base 1 "_law_cell_at" ["_law_script", "_law_k"] (sp_l_cell_at K) := by
  refine T.d_l_cell_at.kept sc_l_cell_at (fun vs H Q E h => ?_) (fun cdv A outer s H vs Q E hr h => ?_)
  · obtain ⟨a, ns, k, rfl, _⟩ := h
    rfl
  · obtain ⟨a, ns, k, rfl, hS, h0, q⟩ := h
    refine ⟨_, (pss_cons (ps_if (pt_cmpR op_lt (pv 1) (pe_callB (call_len_seq_K (K := K) rfl) (by rfl) T.n_len (by decide +kernel) (pa_cons (pv 0) pa_nil)) (nomark _))
        (pss_one (ps_ret (pe_ix (ix_list_K (K := K) rfl) (pv 0) (pv 1) (fun _ _ => rfl))))
        pss_nil)
      (pss_one (ps_ret pe_int))), ?_⟩
    refine q_when (et_test (ev_op (ev_var rfl) (ev_lenS (ev_var rfl) hS) rv_I0)) (fun hb H1 e1 => ?_) (fun hb H1 e1 => ?_)
    · have hb' : k < (ns.map V.int).length := of_decide_eq_true hb
      rw [List.length_map] at hb'
      have e : (ns.map V.int)[k.toNat]? = some (.int (cellAt ns k)) := by
        have hl : k.toNat < ns.length := by omega
        rw [List.getElem?_map, List.getElem?_eq_getElem hl]
        simp [cellAt, hb', List.getD, List.getElem?_eq_getElem hl]
      refine s_ret (v := .int (cellAt ns k)) (ev_op (ev_var rfl) (ev_var rfl) (rv_ixL (ex_l e1 hS) ?_)) fun H2 e2 => q _ (e1.trans e2)
      exact at_of (by omega) e
    · have hb' : ¬ k < (ns.map V.int).length := of_decide_eq_false hb
      rw [List.length_map] at hb'
      have e : cellAt ns k = 0 := by simp [cellAt, hb']
      refine s_ret (v := .int 0) ev_c fun H2 e2 => ?_
      have := q _ (e1.trans e2)
      rw [e] at this
      exact this
theorem sv_l_cell_at {H : Hp} {a : Addr} {ns : List Int} {k : Int} (hS : SqL K H a (ns.map V.int)) (h0 : 0 ≤ k) : SpV (sp_l_cell_at K) [.ref a, .int k] H (.int (cellAt ns k)) := fun H1 e Q q E => ⟨a, ns, k, rfl, ex_l e hS, h0, q⟩
end

section
variable {P : Program} {w : World} {K : PySem.W.Frag} {mg : Str → Option Value} {base : Heap}
/-! ### isinstance -/
theorem rc_isi {H : Hp} {x c : V} {t u : Value} {b : Bool} (kc : ClsV c u) (ty : ∀ H1, Ex H H1 → TyX K H1 x t) (hk : PySem.W.kitOne K t u = some b) : RC (rIsi K) [x, c] H (.bl b) := fun H1 e Q q => ⟨x, c, t, u, b, rfl, kc, ty H1 e, hk, q H1 (Ex.refl H1)⟩
theorem ty_tup {H : Hp} {v : V} {ds : List PyData} (h : Dp K H v (.tuple ds)) : TyX K H v (.type "tuple") := by
  cases h with
  | tup h _ =>
    rcases h with (h | ⟨o, h⟩) | ⟨o, its, n, h, hc, _⟩
    · exact .base (.tup h)
    · exact .fTuple h
    · exact .kTuple h hc
theorem ty_lst {H : Hp} {v : V} {ds : List PyData} (h : Dp K H v (.list ds)) : TyX K H v (.type "list") := by
  cases h with
  | lst h _ =>
    rcases h with (h | ⟨o, h⟩) | ⟨o, its, n, h, hc, _⟩
    · exact .base (.lst h)
    · exact .base (.frz h)
    · exact .kList h hc
theorem ev_isi {σ : L2.St} {H : Hp} {ta : TE} {v : V} {n m : String} {b : Bool} (h : Ev ta σ H v) (ty : ∀ H1, Ex H H1 → TyX K H1 v (.type n)) (hk : kitB n m = some b) : Ev (tCB (rIsi K) (tCons ta (tCons (tC (.ty m)) tNil))) σ H (.bl b) :=
  ev_cb (ea_cons h (ea_cons ev_c ea_nil)) (rc_isi (.ty m) ty (kit_ty hk))
theorem ev_isiD {σ : L2.St} {H : Hp} {ta : TE} {d : PyData} {n m : String} {b : Bool} (h : EvD K ta σ H d) (ty : ∀ v H1, Ex H H1 → Dp K H1 v d → TyX K H1 v (.type n)) (hk : kitB n m = some b) : Ev (tCB (rIsi K) (tCons ta (tCons (tC (.ty m)) tNil))) σ H (.bl b) := fun H1 e Q q =>
  h H1 e _ fun v H2 e2 p => ⟨v, .ty m, .type n, .type m, b, rfl, .ty m, ty v H2 (e.trans e2) p, kit_ty hk, q H2 e2⟩
theorem ev_isE {st : L2.St} {H : Hp} {ta : TE} {a D : Addr} {c : V} {cv : Value} {b : Bool} (h : Ev ta st H (.ref a)) (hc : ∀ u, L2.RelV c u → u = cv) (hk : PySem.W.kitOne K (.ref D) cv = some b) : Ev (tCB (rIsE K D a) (tCons ta (tCons (tC c) tNil))) st H (.bl b) :=
  ev_cb (ea_cons h (ea_cons ev_c ea_nil)) fun H1 _ Q q => ⟨c, cv, b, rfl, hc, hk, q H1 (Ex.refl H1)⟩
/-! ### a whole number -/
def sp_l_whole (K : PySem.W.Frag) : Sp := fun vs H Q _ => ∃ i : Int, vs = [.int i] ∧ ∀ H2, Ex H H2 → Q (.bl true) H2
theorem ok_l_whole (T : Txt K mg) : Kept P w K mg base 1 "_law_whole" ["_law_found"] (sp_l_whole K) := by
  refine T.d_l_whole.kept sc_l_whole (fun vs H Q E h => ?_) (fun cdv A outer s H vs Q E hr h => ?_)
  · obtain ⟨i, rfl, _⟩ := h
    rfl
  · obtain ⟨i, rfl, q⟩ := h
    refine ⟨_, (pss_one (ps_ret (pe_and (pe_callB (call_isi_K (K := K) rfl) (by rfl) T.n_isinstance (by decide +kernel) (pa_cons (pv 0) (pa_cons (pe_bltn (v := .ty "int") (u := .type "int") (by rfl) T.n_int (by decide +kernel) rfl) pa_nil))) (pe_one (pe_not (pe_callB (call_isi_K (K := K) rfl) (by rfl) T.n_isinstance (by decide +kernel) (pa_cons (pv 0) (pa_cons (pe_bltn (v := .ty "bool") (u := .type "bool") (by rfl) T.n_bool (by decide +kernel) rfl) pa_nil)))))))), ?_⟩
    refine s_ret (v := .bl (true && !false)) (ev_andV (ev_isi (n := "int") (ev_var rfl) (fun _ _ => .base (.int i)) (by decide +kernel)) fun _ => ev_notV (ev_isi (n := "int") (ev_var rfl) (fun _ _ => .base (.int i)) (by decide +kernel))) fun H1 e1 => q _ e1
theorem sv_l_whole {H : Hp} {i : Int} : SpV (sp_l_whole K) [.int i] H (.bl true) := fun H1 e Q q E => ⟨i, rfl, q⟩
end

section
variable {P : Program} {w : World} {K : PySem.W.Frag} {mg : Str → Option Value} {base : Heap}
/-! ### keys in hand, compared -/
def sp_l_hand (K : PySem.W.Frag) : Sp := fun vs H Q _ => ∃ (v u : V) (ns ms : List Int), vs = [v, u] ∧ Dp K H v (intsD ns) ∧ Dp K H u (intsD ms) ∧ ∀ H2, Ex H H2 → Q (.bl (decide (ns = ms))) H2
theorem ok_l_hand (T : Txt K mg) : Kept P w K mg base 2 "_law_hand" ["_law_found", "_law_due"] (sp_l_hand K) := by
  refine T.d_l_hand.kept sc_l_hand (fun vs H Q E h => ?_) (fun cdv A outer s H vs Q E hr h => ?_)
  · obtain ⟨v, u, ns, ms, rfl, _⟩ := h
    rfl
  · obtain ⟨v, u, ns, ms, rfl, hv, hu, q⟩ := h
    refine ⟨_, (pss_cons (ps_if (PW.pt (pw_or (pt_not (pt_val (pe_callB (call_isi_K (K := K) rfl) (by rfl) T.n_isinstance (by decide +kernel) (pa_cons (pv 0) (pa_cons (pe_bltn (v := .ty "tuple") (u := .type "tuple") (by rfl) T.n_tuple (by decide +kernel) rfl) pa_nil))))) (pw_or1 (pt_cmpR op_ne (pe_callB (call_len_seq_K (K := K) rfl) (by rfl) T.n_len (by decide +kernel) (pa_cons (pv 0) pa_nil)) (pe_callB (call_len_seq_K (K := K) rfl) (by rfl) T.n_len (by decide +kernel) (pa_cons (pv 1) pa_nil)) (nomark _)))))
        (pss_one (ps_ret pe_bl))
        pss_nil)
      (pss_cons (ps_for (passes_of rfl) rfl (pi_tup_K (K := K) rfl (pv 0)) (pg_name (i := 2) sc_l_hand.nd rfl (Or.inl rfl))
        (pss_one (ps_if (pt_not (pt_val (pe_fn (ok_l_whole (K := K) T) (hr.mono (by decide)) passL (by rfl) (pa_cons (pv 2) pa_nil))))
        (pss_one (ps_ret pe_bl))
        pss_nil)))
      (pss_one (ps_ret (pe_cmpR (op_eqD_K (K := K) rfl hr.units) (pv 0) (pv 1) (nomark _)))))), ?_⟩
    refine q_when (b := (!true) || !decide (ns.length = ms.length)) (et_or (et_not (et_B (ev_isiD (n := "tuple") (ed_any (ev_var rfl) hv) (fun v H1 _ h => ty_tup h) (by decide +kernel)))) fun _ =>
      et_test (ev_is (ev_op (ev_lenD (ed_any (ev_var rfl) hv) (.inr rfl)) (ev_lenD (ed_any (ev_var rfl) hu) (.inr rfl)) rv_neI) (by simp; omega))) (fun hb H1 e1 => ?_) (fun hb H1 e1 => ?_)
    · refine s_ret (v := .bl false) ev_c fun H2 e2 => ?_
      have hn : ¬ ns = ms := fun z => by subst z; simp at hb
      have := q _ (e1.trans e2)
      rw [decide_eq_false hn] at this
      exact this
    · have hv1 := dp_ex e1 hv
      cases hv1 with
      | tup hs hd =>
        rename_i a xs
        have hx := dpAll_ints hd
        subst hx
        refine q_forT (σ := [some (.ref a), some u, none]) (g := gName 2) (ev_var rfl) hs (fun i σ' H' => Ex H1 H' ∧ ∃ y, σ' = [some (.ref a), some u, y]) (fun H2 e2 => ⟨e2, none, rfl⟩) (fun i σ' H' _ h => ex_t h.1 hs) (fun i x σ' H' hi hP => ?_) (fun σ' H' hP => ?_)
        · obtain ⟨e2, y, rfl⟩ := hP
          rw [List.getElem?_map] at hi
          obtain ⟨n, _, rfl⟩ := Option.map_eq_some_iff.mp hi
          refine s_when (b := !true) (et_not (et_B (ev_call (ea_cons (ev_var rfl) ea_nil) sv_l_whole))) (fun z => by cases z) fun _ H2 e3 => ⟨e2.trans e3, _, rfl⟩
        · obtain ⟨e2, y, rfl⟩ := hP
          have e12 := e1.trans e2
          refine s_ret (ev_is (ev_eqD (ed_any (ev_var rfl) (dp_ex e12 hv)) (ed_any (ev_var rfl) (dp_ex e12 hu)) (sh_ints ns) (sh_ints ms)) (by rw [eqv_ints])) fun H2 e3 => q _ (e12.trans e3)
theorem sv_l_hand {H : Hp} {v u : V} {ns ms : List Int} (h1 : Dp K H v (intsD ns)) (h2 : Dp K H u (intsD ms)) : SpV (sp_l_hand K) [v, u] H (.bl (decide (ns = ms))) := fun H1 e Q q E => ⟨v, u, ns, ms, rfl, dp_ex e h1, dp_ex e h2, q⟩
end

section
variable {P : Program} {w : World} {K : PySem.W.Frag} {mg : Str → Option Value} {base : Heap}
/-! ### need_room -/
abbrev cNoRoom (K : PySem.W.Frag) : Value := .ref (He.ga K "NoRoom")
def sp_need_room (K : PySem.W.Frag) : Sp := fun vs H Q E => ∃ (v : V) (n room : Int) (rest : List PyData), vs = [v, .int room] ∧ Dp K H v (.tuple (.int n :: rest)) ∧ (Here n room → ∀ H2, Ex H H2 → Q .non H2) ∧ (¬ Here n room → ∀ H2, Ex H H2 → E (cNoRoom K) none H2)
theorem ok_need_room (T : Txt K mg) : Kept P w K mg base 1 "need_room" ["maze", "room"] (sp_need_room K) := by
  refine T.d_need_room.kept sc_need_room (fun vs H Q E h => ?_) (fun cdv A outer s H vs Q E hr h => ?_)
  · obtain ⟨v, n, room, rest, rfl, _⟩ := h
    rfl
  · obtain ⟨v, n, room, rest, rfl, hv, q, qe⟩ := h
    refine ⟨_, (pss_one (ps_if (PW.pt (pw_or (pt_cmpR op_lt (pv 1) pe_int (nomark _)) (pw_or1 (pt_cmpR op_ge (pv 1) (pe_ix (ix_tup_K (K := K) rfl) (pv 0) pe_int (fun _ _ => rfl)) (nomark _)))))
        (pss_one (ps_raise rfl (takes_of rfl rfl rfl rfl) (pmk_own PySem.F.excBase_ValueError T.e_NoRoom.xC T.e_NoRoom.gC T.e_NoRoom.kC (raises_own T.e_NoRoom.bC T.e_NoRoom.tC) rfl)))
        pss_nil)), ?_⟩
    refine s_when (b := decide (room < 0) || decide (n ≤ room)) (et_or (et_test (ev_op (ev_var rfl) ev_c rv_I0)) fun _ => et_test (ev_op (ev_var rfl) (ev_of_ed (ed_ixT (ed_any (ev_var rfl) hv) ev_c atI0)) rv_I0)) (fun hb H1 e1 => ?_) (fun hb H1 e1 => ?_)
    · refine qe (fun z => ?_) H1 e1
      obtain ⟨z1, z2⟩ := z
      simp at hb
      omega
    · refine q ?_ H1 e1
      simp at hb
      exact ⟨by omega, by omega⟩
end

section
variable {P : Program} {w : World} {K : PySem.W.Frag} {mg : Str → Option Value} {base : Heap}
/-! ### taken -/
def sp_taken (K : PySem.W.Frag) : Sp := fun vs H Q E => ∃ (v hv : V) (n room : Int) (dd : List PyData) (ks : List Key2) (held : List Int), vs = [v, .int room, hv] ∧ Dp K H v (mazeD n dd ks) ∧ Dp K H hv (intsD held) ∧ (Here n room → ∀ v H2, Ex H H2 → Td H2 v (intsD (takenF ks room held)) → Q v H2) ∧ (¬ Here n room → ∀ H2, Ex H H2 → E (cNoRoom K) none H2)
theorem taken_data (ks : List Key2) (room : Int) (held : List Int) : ((List.range (5 : Int).toNat).filter fun (i : Nat) => decide ((i : Int) ∈ held) || ((ks.map keyD).any fun z => PyData.eqv z (keyD (room, (i : Int))))).map (fun (i : Nat) => PyData.int (i : Int)) = (takenF ks room held).map PyData.int := by
  rw [show (5 : Int).toNat = 5 from rfl, kindsOf_data]
  unfold takenF
  congr 2
  funext i
  rw [any_key]
theorem ok_taken (T : Txt K mg) : Kept P w K mg base 2 "taken" ["maze", "room", "held"] (sp_taken K) := by
  refine T.d_taken.kept sc_taken (fun vs H Q E h => ?_) (fun cdv A outer s H vs Q E hr h => ?_)
  · obtain ⟨v, hv, n, room, dd, ks, held, rfl, _⟩ := h
    rfl
  · obtain ⟨v, hv, n, room, dd, ks, held, rfl, hm, hh, q, qe⟩ := h
    refine ⟨_, (pss_cons (ps_expr (pe_fn (ok_need_room (K := K) T) (hr.mono (by decide)) (passR (takes_of rfl rfl rfl rfl)) (by rfl) (pa_cons (pv 0) (pa_cons (pv 1) pa_nil))))
      (pss_one (ps_ret (pe_callTy (call_tuple_of_K (K := K) rfl) (by rfl) T.n_tuple (by decide +kernel) (pa_cons (pe_lc (own := [("kind", 3)]) (g := gName 3) rfl sc_taken.nd (pi_range1 (by rfl) T.n_range (pa_cons (pe_gint T.i_KINDS (by rfl)) pa_nil)) (blkOk_by (own := [("kind", 3)]) (N := ["maze", "room", "held", "kind"]) (sc := defScope s_taken) (by decide +kernel)) (fun _ _ _ _ _ => (pg_name (i := 3) sc_taken.nd rfl (Or.inl rfl))) (fun _ _ _ _ _ => pts_one (PW.pt (pw_or (pt_cmpR (op_in_seq_K (K := K) rfl) (pv 3) (pv 2) (by rfl)) (pw_or1 (pt_cmpR (op_inD_K (K := K) rfl (u65 hr)) (pe_tup (pa_cons (pv 1) (pa_cons (pv 3) pa_nil))) (pe_ix (ix_tup_K (K := K) rfl) (pv 0) pe_int (fun _ _ => rfl)) (by rfl)))))) (fun _ _ _ _ _ => (pv 3))) pa_nil))))), ?_⟩
    refine ⟨_, rfl, _, rfl, v, n, room, _, rfl, hm, fun hr1 H1 e1 => ?_, qe⟩
    have hm1 := dp_ex e1 hm
    have hh1 := dp_ex e1 hh
    dsimp only
    refine s_retP (P := fun v H' => Td H' v (intsD (takenF ks room held))) ?_ ?_
    rotate_left
    · exact fun v H2 e2 p => q hr1 v H2 (e1.trans e2) p
    unfold intsD
    rw [← taken_data]
    refine td_tupleL (lt_lcR1 (n := 5) (fun (i : Nat) => decide ((i : Int) ∈ held) || ((ks.map keyD).any fun z => PyData.eqv z (keyD (room, (i : Int))))) (fun (i : Nat) => PyData.int (i : Int)) (ea_cons ev_c ea_nil) (by decide) (fun x => rfl) (fun i H2 e2 hi => ?_) (fun i H2 e2 hi _ => td_int (ev_var rfl)))
    refine et_or (et_test (ev_inI (ev_var rfl) (.inl (ed_any (ev_var rfl) (dp_ex e2 hh1))))) fun _ => ?_
    exact et_test (ev_inD (ed_td (td_tup (ea_tc (td_int (ev_var rfl)) (ea_tc (td_int (ev_var rfl)) ea_tn)) (by simp))) (ed_ixT (ed_any (ev_var rfl) (dp_ex e2 hm1)) ev_c rfl) (sh_key _) (sh_keys ks))
end

section
variable {P : Program} {w : World} {K : PySem.W.Frag} {mg : Str → Option Value} {base : Heap}
/-! ### a room far off -/
def sp_l_far (K : PySem.W.Frag) : Sp := fun vs H Q _ => ∃ c n : Int, vs = [.int c, .int n] ∧ 1 ≤ n ∧ ∀ far, ¬ Here n far → ∀ H2, Ex H H2 → Q (.int far) H2
theorem ok_l_far (T : Txt K mg) : Kept P w K mg base 1 "_law_far" ["_law_cell", "_law_size"] (sp_l_far K) := by
  refine T.d_l_far.kept sc_l_far (fun vs H Q E h => ?_) (fun cdv A outer s H vs Q E hr h => ?_)
  · obtain ⟨c, n, rfl, _⟩ := h
    rfl
  · obtain ⟨c, n, rfl, hn, q⟩ := h
    refine ⟨_, (pss_one (ps_ret (pe_ix (ix_list_K (K := K) rfl) (pe_lst (pa_cons (pe_un un_neg pe_int) (pa_cons (pv 1) (pa_cons (pe_op op_sub (pe_un un_neg pe_int) (pe_op op_mod (pe_callB call_abs (by rfl) T.n_abs (by decide +kernel) (pa_cons (pv 0) pa_nil)) (pe_op op_pow pe_int pe_int))) (pa_cons (pe_op op_add (pv 1) (pe_op op_mod (pe_callB call_abs (by rfl) T.n_abs (by decide +kernel) (pa_cons (pv 0) pa_nil)) (pe_op op_pow pe_int pe_int))) pa_nil))))) (pe_op op_mod (pe_op op_fdiv (pv 0) pe_int) pe_int) (fun _ _ => rfl)))), ?_⟩
    obtain ⟨ab, hab⟩ : ∃ ab : Int, (if c < 0 then -c else c) = ab := ⟨_, rfl⟩
    obtain ⟨tt, htt⟩ : ∃ tt : Int, (10 : Int) ^ (30 : Int).toNat = tt := ⟨_, rfl⟩
    have htp : 0 < tt := by rw [← htt]; decide
    have hab0 : 0 ≤ ab % tt := Int.emod_nonneg _ (by omega)
    obtain ⟨j, hj⟩ : ∃ j : Int, c / 12 % 4 = j := ⟨_, rfl⟩
    have hj0 : 0 ≤ j ∧ j < 4 := by omega
    obtain ⟨far, hfar, hnf⟩ : ∃ far : Int, ([-1, n, -1 - ab % tt, n + ab % tt] : List Int).getD j.toNat 0 = far ∧ ¬ Here n far := by
      refine ⟨_, rfl, fun z => ?_⟩
      obtain ⟨z1, z2⟩ := z
      rcases (show j = 0 ∨ j = 1 ∨ j = 2 ∨ j = 3 by omega) with h | h | h | h <;> subst h <;> simp at z1 z2 <;> omega
    refine s_ret (v := .int far) ?_ fun H2 e2 => q far hnf H2 e2
    rw [← hfar]
    refine ev_ixInts (ea_tc (td_int (ev_un ev_c ru_neg)) (ea_tc (td_int (ev_var rfl)) (ea_tc (td_int ?_) (ea_tc (td_int ?_) ea_tn)))) ?_ (by omega) (by simp; omega)
    · rw [← hab, ← htt]
      walk_at "mz ev"
    · rw [← hab, ← htt]
      walk_at "mz ev"
    · rw [← hj]
      walk_at "mz ev"
end

/-! ### of laws -/
section
variable {K : PySem.W.Frag}
theorem cut_ints (ns : List Int) (lo hi : Option Int) : ∃ ms : List Int, cutV (ns.map V.int) lo hi = ms.map V.int ∧ ms.length ≤ ns.length := by
  refine ⟨(ns.drop (HT.sIx ns.length 0 lo)).take (HT.sIx ns.length ns.length hi - HT.sIx ns.length 0 lo), ?_, ?_⟩
  · unfold cutV
    simp [List.map_take, List.map_drop]
  · rw [List.length_take, List.length_drop]
    omega
theorem mod_here {n : Int} (h : 0 < n) (x : Int) : Here n (x % n) := ⟨Int.emod_nonneg _ (by omega), Int.emod_lt_of_pos _ h⟩
def sp_law (K : PySem.W.Frag) : Sp := fun vs H Q _ => ∃ (a : Addr) (ns : List Int), vs = [.ref a] ∧ SqL K H a (ns.map V.int) ∧ ns.length ≤ 63 ∧ ∀ H', Q (.bl true) H'
end

/-! ### calls and the script, within the tactics -/
local macro_rules | `(tactic| walk_at "mz sq") => `(tactic| first
  | assumption
  | exact ex_l (by assumption) (by assumption))
local macro_rules | `(tactic| walk_at "mz call") => `(tactic| first
  | with_reducible exact sv_l_mix
  | with_reducible exact sv_l_whole
  | with_reducible exact sv_l_cell_at (by walk_at "mz sq") (by decide))
local macro_rules | `(tactic| walk_at "mz ev2") => `(tactic| first
  | walk_at "mz ev1"
  | ((with_reducible show SpV _ _ _ _); walk_at "mz call")
  | with_reducible apply ev_call0
  | with_reducible apply td_int
  | with_reducible apply td_non)
local macro_rules | `(tactic| walk_at "mz go") => `(tactic| repeat' walk_at "mz ev2")

section
variable {P : Program} {w : World} {K : PySem.W.Frag} {mg : Str → Option Value} {base : Heap}
theorem kindsOf_lt (p : Nat → Bool) : (kindsOf p).Pairwise (· < ·) := by
  unfold kindsOf
  exact List.Pairwise.map _ (fun a b h => Int.ofNat_lt.mpr h) (List.Pairwise.filter _ List.pairwise_lt_range)
theorem mem_kindsOf {p : Nat → Bool} {x : Int} : x ∈ kindsOf p ↔ ∃ i : Nat, i < 5 ∧ p i = true ∧ x = (i : Int) := by
  unfold kindsOf
  simp only [List.mem_map, List.mem_filter, List.mem_range]
  constructor
  · rintro ⟨i, ⟨h1, h2⟩, rfl⟩
    exact ⟨i, h1, h2, rfl⟩
  · rintro ⟨i, h1, h2, rfl⟩
    exact ⟨i, ⟨h1, h2⟩, rfl⟩
theorem nodup_of_lt {l : List Int} (h : l.Pairwise (· < ·)) : l.Nodup := h.imp fun h => by omega
theorem le_of_lt_ {l : List Int} (h : l.Pairwise (· < ·)) : l.Pairwise (· ≤ ·) := h.imp fun h => by omega
theorem sorted_taken {ks : List Key2} {room : Int} {held due ns : List Int} (hd : due.Nodup) (hm : ∀ x, x ∈ due ↔ x ∈ held ∨ (room, x) ∈ ks) (hh : ∀ x ∈ held, 0 ≤ x ∧ x < 5) (hk : ∀ k ∈ ks, 0 ≤ k.2 ∧ k.2 < 5) (hp : ns.Perm due) (hs : ns.Pairwise (· ≤ ·)) : ns = takenF ks room held := by
  have hmem : ∀ x, x ∈ due ↔ x ∈ takenF ks room held := fun x => by
    rw [hm, takenF, mem_kindsOf]
    constructor
    · intro h
      have hx : 0 ≤ x ∧ x < 5 := by
        rcases h with h | h
        · exact hh x h
        · exact hk _ h
      refine ⟨x.toNat, by omega, ?_, by omega⟩
      rw [show ((x.toNat : Nat) : Int) = x by omega]
      simpa using h
    · rintro ⟨i, _, h2, rfl⟩
      simpa using h2
  have hp2 : due.Perm (takenF ks room held) := (List.perm_ext_iff_of_nodup hd (nodup_of_lt (kindsOf_lt _))).mpr hmem
  exact PySem.W.ksm_same (hp.trans hp2) hs (le_of_lt_ (kindsOf_lt _))
theorem kinds_len {l : List Int} (hd : l.Nodup) (h : ∀ x ∈ l, 0 ≤ x ∧ x < 5) : l.length ≤ 5 := by
  have h1 : ∀ x, x ∈ l ↔ x ∈ kindsOf (fun i => decide ((i : Int) ∈ l)) := fun x => by
    rw [mem_kindsOf]
    constructor
    · intro z
      have := h x z
      refine ⟨x.toNat, by omega, ?_, by omega⟩
      rw [show ((x.toNat : Nat) : Int) = x by omega]
      simpa using z
    · rintro ⟨i, _, h2, rfl⟩
      simpa using h2
  have h2 := (List.perm_ext_iff_of_nodup hd (nodup_of_lt (kindsOf_lt _))).mpr h1
  rw [h2.length_eq]
  unfold kindsOf
  rw [List.length_map]
  exact Nat.le_trans (List.length_filter_le _ _) (by simp)
theorem ok_law (T : Txt K mg) {f : Addr} {fd : FuncData} (F : FunD K "law" "law" (defArgs s_law) (defBody s_law) (defScope s_law) [] [] f fd) : FnOk P w K mg base CX0 3 f fd ["_law_script"] (sp_law K) := by
  refine F.ok sc_law (fun vs H Q E h => ?_) (fun cdv A outer s H vs Q E hr h => ?_)
  · obtain ⟨a, ns, rfl, _⟩ := h
    rfl
  · obtain ⟨a, ns, rfl, hS, hl, q⟩ := h
    refine ⟨_, (PSs.nox (pss_cons (ps_set (i := 1) sc_law.nd rfl (Or.inl rfl) (pe_op op_add pe_int (pe_op op_mod (pe_fn (ok_l_cell_at (K := K) T) (hr.mono (by decide)) passL (by rfl) (pa_cons (pv 0) (pa_cons pe_int pa_nil))) pe_int)))
      (pss_cons (ps_set (i := 2) sc_law.nd rfl (Or.inl rfl) (pe_lst pa_nil))
      (pss_cons (ps_for PassesOwn.never rfl (pi_list_K (K := K) rfl (pe_slice (sl_list_K (K := K) rfl) (pv 0) (po_some pe_int) (po_some pe_int))) (pg_name (i := 3) sc_law.nd rfl (Or.inl rfl))
        (pss_one (ps_expr (pe_bm_K (K := K) rfl PySem.F.plainAttrs_list PySem.F.slot_list_append PySem.F.type_list_append mt_append (pv 2) (pa_cons (pe_tup (pa_cons (pe_op op_mod (pe_fn (ok_l_mix (K := K) T) (hr.mono (by decide)) passL (by rfl) (pa_cons (pv 3) (pa_cons pe_int pa_nil))) (pv 1)) (pa_cons (pe_op op_mod (pe_fn (ok_l_mix (K := K) T) (hr.mono (by decide)) passL (by rfl) (pa_cons (pv 3) (pa_cons pe_int pa_nil))) pe_int) pa_nil))) pa_nil)))))
      (pss_cons (ps_set (i := 4) sc_law.nd rfl (Or.inl rfl) (pe_callTy (call_tuple_of_K (K := K) rfl) (by rfl) T.n_tuple (by decide +kernel) (pa_cons (pe_lc (own := [("_law_kind", 12)]) (g := gName 12) rfl sc_law.nd (pi_range1 (by rfl) T.n_range (pa_cons pe_int pa_nil)) (blkOk_by (own := [("_law_kind", 12)]) (N := ["_law_script", "_law_size", "_law_lying", "_law_cell", "_law_held", "_law_pick", "_law_room", "_law_handed", "_law_doors", "_law_k", "_law_due", "_law_lies", "_law_kind", "_law_found"]) (sc := defScope s_law) (by decide +kernel)) (fun _ _ _ _ _ => (pg_name (i := 12) sc_law.nd rfl (Or.inl rfl))) (fun _ _ _ _ _ => pts_one (pt_cmpR op_eq (pe_op op_mod (pe_op op_fdiv (pe_fn (ok_l_cell_at (K := K) T) (hr.mono (by decide)) passL (by rfl) (pa_cons (pv 0) (pa_cons pe_int pa_nil))) (pe_ix (ix_list_K (K := K) rfl) (pe_lst (pa_cons pe_int (pa_cons pe_int (pa_cons pe_int (pa_cons pe_int (pa_cons pe_int pa_nil)))))) (pv 12) (fun _ _ => rfl))) pe_int) pe_int (nomark _))) (fun _ _ _ _ _ => (pv 12))) pa_nil)))
      (pss_cons (ps_set (i := 5) sc_law.nd rfl (Or.inl rfl) (pe_fn (ok_l_cell_at (K := K) T) (hr.mono (by decide)) passL (by rfl) (pa_cons (pv 0) (pa_cons pe_int pa_nil))))
      (pss_cons (ps_set (i := 6) sc_law.nd rfl (Or.inl rfl) (pe_op op_mod (pv 5) (pv 1)))
      (pss_cut (ps_if (PW.pt (pw_and (pt_cmpR op_gt (pe_callB (call_len_seq_K (K := K) rfl) (by rfl) T.n_len (by decide +kernel) (pa_cons (pv 2) pa_nil)) pe_int (nomark _)) (pw_and1 (pt_cmpR op_eq (pe_op op_mod (pe_op op_fdiv (pv 5) pe_int) pe_int) pe_int (nomark _)))))
        (pss_one (ps_set (i := 6) sc_law.nd rfl (Or.inl rfl) (pe_ix (ix_tup_K (K := K) rfl) (pe_ix (ix_list_K (K := K) rfl) (pv 2) (pe_op op_mod (pe_op op_fdiv (pv 5) pe_int) (pe_callB (call_len_seq_K (K := K) rfl) (by rfl) T.n_len (by decide +kernel) (pa_cons (pv 2) pa_nil))) (fun _ _ => rfl)) pe_int (fun _ _ => rfl))))
        pss_nil)
      (pss_cons (ps_set (i := 7) sc_law.nd rfl (Or.inl rfl) (pe_callTy (call_list_of_K (K := K) rfl) (by rfl) T.n_list (by decide +kernel) (pa_cons (pv 2) pa_nil)))
      (pss_cons (ps_set (i := 8) sc_law.nd rfl (Or.inl rfl) (pe_lst pa_nil))
      (pss_cons (ps_for PassesOwn.never rfl (pi_range1 (by rfl) T.n_range (pa_cons (pe_op op_mod (pv 5) pe_int) pa_nil)) (pg_name (i := 9) sc_law.nd rfl (Or.inl rfl))
        (pss_one (ps_expr (pe_bm_K (K := K) rfl PySem.F.plainAttrs_list PySem.F.slot_list_append PySem.F.type_list_append mt_append (pv 8) (pa_cons (pe_tup (pa_cons (pv 6) (pa_cons (pe_op op_mod (pe_op op_add (pe_op op_mul (pv 5) pe_int) (pe_op op_mul (pv 9) (pv 9))) (pv 1)) (pa_cons (pe_ix (ix_list_K (K := K) rfl) (pe_lst (pa_cons pe_non (pa_cons pe_int (pa_cons pe_int (pa_cons pe_int (pa_cons pe_int (pa_cons pe_int pa_nil))))))) (pe_op op_mod (pe_op op_add (pe_op op_fdiv (pv 5) pe_int) (pv 9)) pe_int) (fun _ _ => rfl)) pa_nil)))) pa_nil)))))
      (pss_cons (ps_if (pt_cmpR op_eq (pe_op op_mod (pe_op op_fdiv (pv 5) pe_int) pe_int) pe_int (nomark _))
        (pss_cons (ps_try_only (Wout := fun _ _ _ _ => False) (by rfl) (by rfl) ⟨by rfl, by decide, .inl T.e_NoRoom.gC⟩ takes0x (fun W pn xe tk po => (pss_one (ps_expr (pe_fnS (ok_taken (K := K) T) (hr.mono (by decide)) (fun st => passAt tk st) (pa_cons (pe_tup (pa_cons (pv 1) (pa_cons (pv 8) (pa_cons (pv 7) pa_nil)))) (pa_cons (pe_fnS (ok_l_far (K := K) T) (hr.mono (by decide)) (fun st => passAt tk st) (pa_cons (pe_op op_fdiv (pv 5) pe_int) (pa_cons (pv 1) pa_nil))) (pa_cons (pv 4) pa_nil))))))) (fun a oe cls dd pn _ _ => (pss_one (ps_ret pe_bl))))
      (pss_one (ps_ret pe_bl)))
        pss_nil)
      (pss_cons (ps_set (i := 10) sc_law.nd rfl (Or.inl rfl) (pe_callTy (call_list_of_K (K := K) rfl) (by rfl) T.n_list (by decide +kernel) (pa_cons (pv 4) pa_nil)))
      (pss_cons (ps_for PassesOwn.never rfl (pi_list_K (K := K) rfl (pv 2)) (pg_tup_K (K := K) rfl (by rfl) (pgs_cons (pg_name (i := 11) sc_law.nd rfl (Or.inl rfl)) (pgs_cons (pg_name (i := 12) sc_law.nd rfl (Or.inl rfl)) pgs_nil)))
        (pss_one (ps_if (PW.pt (pw_and (pt_cmpR op_eq (pv 11) (pv 6) (nomark _)) (pw_and1 (pt_cmpR (op_notIn_seq_K (K := K) rfl) (pv 12) (pv 10) (by rfl)))))
        (pss_one (ps_expr (pe_bm_K (K := K) rfl PySem.F.plainAttrs_list PySem.F.slot_list_append PySem.F.type_list_append mt_append (pv 10) (pa_cons (pv 12) pa_nil))))
        pss_nil)))
      (pss_cons (ps_set (i := 13) sc_law.nd rfl (Or.inl rfl) (pe_fn (ok_taken (K := K) T) (hr.mono (by decide)) passL (by rfl) (pa_cons (pe_tup (pa_cons (pv 1) (pa_cons (pv 8) (pa_cons (pv 7) pa_nil)))) (pa_cons (pv 6) (pa_cons (pv 4) pa_nil)))))
      (pss_one (ps_ret (pe_and (pe_fn (ok_l_hand (K := K) T) (hr.mono (by decide)) passL (by rfl) (pa_cons (pv 13) (pa_cons (pe_callTy (call_tuple_of_K (K := K) rfl) (by rfl) T.n_tuple (by decide +kernel) (pa_cons (pe_callB (cr_sorted_K (K := K) rfl) (by rfl) T.n_sorted (by decide +kernel) (pa_cons (pv 10) pa_nil)) pa_nil)) pa_nil))) (pe_one (pe_cmpR (op_eqD_K (K := K) rfl hr.units) (pv 7) (pv 2) (nomark _))))))))))))))))))))), ?_⟩
    obtain ⟨n, hn1, hn2, en⟩ : ∃ n : Int, 1 ≤ n ∧ n ≤ 60 ∧ 1 + cellAt ns 0 % 60 = n := ⟨_, by omega, by omega, rfl⟩
    refine q_asg (v := .int n) ?_ fun H1 e1 => ?_
    · rw [← en]
      walk_at "mz go"
    refine q_asgLT (ds := []) (lt_lst ea_tn (by simp)) fun l H2 nl e2 h2 => ?_
    have eb : Ex H H2 := e1.trans e2
    have nlH : H l = none := fresh_back e1 nl
    obtain ⟨ms, ems, hms⟩ := cut_ints ns (some 3) (some 63)
    refine q_forNLn (j := 3) (xs := ms.map V.int) ?_ (fun p i σ' H' => Ex H H' ∧ H' p = some (.lst (ms.map V.int)) ∧ p ≠ l ∧ ∃ (y : Option V) (ks : List Key2), σ' = [some (.ref a), some (.int n), some (.ref l), y, none, none, none, none, none, none, none, none, none, none] ∧ ks.length = i ∧ LstT H' l (ks.map keyD) ∧ (∀ k ∈ ks, Here n k.1) ∧ ∀ k ∈ ks, 0 ≤ k.2 ∧ k.2 < 5) (fun p H3 np e3 h3 => ?_) (fun p i σ' H' _ hP => SqL.of hP.2.1) (fun p i x σ' H' hx hP => ?_) (fun p σ' H' hP => ?_)
    · rw [← ems]
      exact el_sl (ev_var rfl) (eo_some ev_c) (eo_some ev_c) (ex_l eb hS)
    · refine ⟨eb.trans e3, h3, fun z => ?_, none, [], rfl, rfl, h2.ex e3, (fun k hk => by cases hk), (fun k hk => by cases hk)⟩
      obtain ⟨xs, hx, _⟩ := h2
      rw [z, hx] at np
      cases np
    · obtain ⟨eH, hp, npl, y, ks, rfl, hk, hL, hh, hh5⟩ := hP
      rw [List.getElem?_map] at hx
      obtain ⟨c, hc, rfl⟩ := Option.map_eq_some_iff.mp hx
      have hi : i < ms.length := (List.getElem?_eq_some_iff.mp hc).1
      refine s_appT (d := keyD (mix c 0 % n, mix c 2 % 5)) hL (ev_var rfl) ?_ (by rw [List.length_map]; omega) fun H3 xs v e3 hl3 hL3 => ?_
      · unfold keyD
        refine td_tup ?_ (by simp)
        walk_at "mz go"
      · refine ⟨Ex.mut (eH.trans e3) nlH, by rw [upd_ne npl]; exact e3 _ _ hp, npl, _, ks ++ [(mix c 0 % n, mix c 2 % 5)], rfl, by simp [hk], by rw [List.map_append]; exact hL3, ?_, ?_⟩
        · intro k hk2
          rcases List.mem_append.mp hk2 with h | h
          · exact hh k h
          · simp at h
            subst h
            exact mod_here (by omega) _
        · intro k hk2
          rcases List.mem_append.mp hk2 with h | h
          · exact hh5 k h
          · simp at h
            subst h
            exact mod_here (by omega) _
    · obtain ⟨eH, hp, npl, y, ks, rfl, hk, hL, hh, hh5⟩ := hP
      rw [List.length_map] at hk
      have hS' := ex_l eH hS
      -- the keys in hand
      obtain ⟨held, eheld⟩ : ∃ held : List Int, held = kindsOf fun i => decide (cellAt ns 1 / ([1, 2, 4, 8, 16] : List Int).getD i 0 % 2 = 1) := ⟨_, rfl⟩
      have hheld : ∀ x ∈ held, 0 ≤ x ∧ x < 5 := fun x hx => by
        rw [eheld, mem_kindsOf] at hx
        obtain ⟨i, h1, _, rfl⟩ := hx
        omega
      have nheld : held.Nodup := by rw [eheld]; exact nodup_of_lt (kindsOf_lt _)
      refine q_asgP (P := fun v H' => Td H' v (intsD held)) ?_ fun hv H3 e3 hhv => ?_
      · rw [eheld]
        unfold intsD
        rw [← kindsOf_data]
        refine td_tupleL (lt_lcR1 (n := 5) (fun (i : Nat) => decide (cellAt ns 1 / ([1, 2, 4, 8, 16] : List Int).getD i 0 % 2 = 1)) (fun (i : Nat) => PyData.int (i : Int)) (ea_cons ev_c ea_nil) (by decide) (fun x => rfl) (fun i H4 e4 hi => ?_) (fun i H4 e4 hi _ => td_int (ev_var rfl)))
        have hS4 := ex_l e4 hS'
        have hx := ev_ixInts (K := K) (σ := (wipe [some (.ref a), some (.int n), some (.ref l), y, none, none, none, none, none, none, none, none, none, none] [12]).set 12 (some (.int (i : Int)))) (H := H4) (tb := tVar 12) (tr := tCons (tC (.int 1)) (tCons (tC (.int 2)) (tCons (tC (.int 4)) (tCons (tC (.int 8)) (tCons (tC (.int 16)) tNil))))) (xs := [1, 2, 4, 8, 16]) (i := (i : Int)) (ea_tc (td_int ev_c) (ea_tc (td_int ev_c) (ea_tc (td_int ev_c) (ea_tc (td_int ev_c) (ea_tc (td_int ev_c) ea_tn))))) (ev_var rfl) (by omega) (by simpa using hi)
        rw [show ((i : Int).toNat) = i from rfl] at hx
        have hpos : 0 < ([1, 2, 4, 8, 16] : List Int).getD i 0 ∧ ([1, 2, 4, 8, 16] : List Int).getD i 0 < 1073741824 := by
          rcases (show i = 0 ∨ i = 1 ∨ i = 2 ∨ i = 3 ∨ i = 4 by omega) with h | h | h | h | h <;> subst h <;> simp
        refine et_test (ev_op (ev_op (ev_op ?_ hx (rv_I hpos)) ev_c (rv_I (by decide))) ev_c rv_eqI)
        walk_at "mz go"
      have eH3 := eH.trans e3
      have hL3 := hL.ex e3
      have hS3 := ex_l e3 hS'
      -- the pick, the room
      obtain ⟨pk, epk⟩ : ∃ pk : Int, cellAt ns 2 = pk := ⟨_, rfl⟩
      refine q_asg (v := .int pk) (by rw [← epk]; walk_at "mz go") fun H5 e5 => ?_
      refine q_asg (v := .int (pk % n)) (by walk_at "mz go") fun H6 e6 => ?_
      have e46 := e5.trans e6
      refine q_cut (M := fun σ' H' => Ex H3 H' ∧ ∃ room : Int, Here n room ∧ σ' = [some (.ref a), some (.int n), some (.ref l), y, some hv, some (.int pk), some (.int room), none, none, none, none, none, none, none]) ?_ ?_
      · have hL6 := hL3.ex e46
        refine s_when (b := decide (0 < ((ks.map keyD).length : Int)) && decide (pk / 60 % 2 = 1)) ?_ (fun hb H7 e7 => ?_) (fun _ H7 e7 => ⟨e46.trans e7, pk % n, mod_here (by omega) _, rfl⟩)
        · refine et_and (et_test (ev_op (ev_lenD (ed_any (ev_var rfl) hL6.dp) (.inl rfl)) ev_c rv_I0)) fun _ => ?_
          walk_at "mz go"
        · simp only [Bool.and_eq_true, decide_eq_true_eq] at hb
          have hlen : 0 < ks.length := by have := hb.1; simp at this; omega
          obtain ⟨j, ej⟩ : ∃ j : Int, pk / 120 % ((ks.map keyD).length : Int) = j := ⟨_, rfl⟩
          have hj : Here (ks.length : Int) j := by
            rw [← ej, List.length_map]
            exact mod_here (by omega) _
          have hjl : j.toNat < ks.length := by have := hj.1; have := hj.2; omega
          have hkm : ks[j.toNat] ∈ ks := List.getElem_mem hjl
          have eji : (ks.map keyD)[j.toNat]? = some (keyD ks[j.toNat]) := by
            rw [List.getElem?_map, List.getElem?_eq_getElem hjl]
            rfl
          have hL7 := hL6.ex e7
          refine s_asg (v := .int ks[j.toNat].1) (ev_of_ed (ed_ixT (ds := [.int ks[j.toNat].1, .int ks[j.toNat].2]) (ed_ixL (i := j) (ed_any (ev_var rfl) hL7.dp) ?_ ?_) ev_c atI0)) fun H8 e8 => ⟨(e46.trans e7).trans e8, ks[j.toNat].1, hh _ hkm, rfl⟩
          · refine ev_is (ev_op (ev_op (ev_var rfl) ev_c (rv_I (by constructor <;> decide))) (ev_lenD (ed_any (ev_var rfl) hL7.dp) (.inl rfl)) (rv_I (by simp; omega))) (by rw [ej])
          · have := at0 (j := j.toNat) eji
            rw [show ((j.toNat : Nat) : Int) = j by have := hj.1; omega] at this
            exact this
      · rintro σ' H7 ⟨e37, room, hroom, rfl⟩
        have hL7 := hL3.ex e37
        have hv7 := hhv.ex e37
        -- the list handed in, the doors
        refine q_asgLT (lt_list (ev_var rfl) hL7) fun hd H8 _ e8 hHd => ?_
        refine q_asgLT (ds := []) (lt_lst ea_tn (by simp)) fun dl H9 ndl e9 hDl => ?_
        have hHd9 := hHd.ex e9
        refine q_forR1 (n := pk % 4) (by walk_at "mz go") ⟨by omega, by omega⟩ (fun i σ' H' => Ex H8 H' ∧ ∃ (y9 : Option V) (dd : List PyData), dd.length = i ∧ LstT H' dl dd ∧ σ' = [some (.ref a), some (.int n), some (.ref l), y, some hv, some (.int pk), some (.int room), some (.ref hd), some (.ref dl), y9, none, none, none, none]) (fun H10 e10 => ⟨e9.trans e10, none, [], rfl, hDl.ex e10, rfl⟩) (fun i σ' H' hi hP => ?_) (fun σ' H10 hP => ?_)
        · obtain ⟨eH', y9, dd, hdd, hLd, rfl⟩ := hP
          refine s_appT hLd (ev_var rfl) (td_tup (ea_tc (td_int (ev_var rfl)) (ea_tc (td_int (i := (pk * 7 + (i : Int) * (i : Int)) % n) ?_) (ea_tc (td_ixL (i := (pk / 4 + (i : Int)) % 6) (lt_lst (ds := [.none, .int 4, .int 0, .int 1, .int 2, .int 3]) ?_ (by simp)) ?_ (atI_getD (by omega) (by simp; omega))) ea_tn))) (by simp)) (by omega) fun H11 xs v e11 hl11 hL11 => ⟨Ex.mut (eH'.trans e11) ndl, _, _, by simp [hdd], hL11, rfl⟩
          all_goals walk_at "mz go"
        · obtain ⟨eH', y9, dd, hdd, hLd, rfl⟩ := hP
          have hH10 : LstT H10 hd (ks.map keyD) := (hHd.ex eH')
          have hL10 : LstT H10 l (ks.map keyD) := hL7.ex (e8.trans eH')
          have hv10 : Td H10 hv (intsD held) := hv7.ex (e8.trans eH')
          have mz : ∀ {σ' : L2.St} {H' : Hp}, Ex H10 H' → σ'[1]? = some (some (.int n)) → σ'[8]? = some (some (.ref dl)) → σ'[7]? = some (some (.ref hd)) → EvD K (tTup (tCons (tVar 1) (tCons (tVar 8) (tCons (tVar 7) tNil)))) σ' H' (mazeD n dd ks) := fun e h1 h2 h3 =>
            ed_tup (ea_dc (ed_int (ev_var h1)) (ea_dc (ed_any (ev_var h2) (hLd.ex e).dp) (ea_dc (ed_any (ev_var h3) (hH10.ex e).dp) ea_dn))) (by simp)
          refine q_when (b := decide (pk / 60 % 8 = 6)) (by walk_at "mz go") (fun _ H11 e11 => ?_) (fun _ H11 e11 => ?_)
          · dsimp only [tSeq, tDrop, tCallS]
            refine ta_cons ?_
            refine mz (σ' := [some (.ref a), some (.int n), some (.ref l), y, some hv, some (.int pk), some (.int room), some (.ref hd), some (.ref dl), y9, none, none, none, none]) e11 rfl rfl rfl H11 (Ex.refl H11) _ fun v H12 e12 hv12 => ?_
            have hargs : EvA (tCons (tOp (rI CDiv fun i j => V.int (i / j)) (tVar 5) (tC (.int 40))) (tCons (tVar 1) tNil)) [some (.ref a), some (.int n), some (.ref l), y, some hv, some (.int pk), some (.int room), some (.ref hd), some (.ref dl), y9, none, none, none, none] H12 [.int (pk / 40), .int n] := by walk_at "mz go"
            refine ta_cons ?_
            refine hargs H12 (Ex.refl H12) _ fun H13 e13 => ⟨pk / 40, n, rfl, hn1, fun far hfar H14 e14 => ?_⟩
            have e1214 := e13.trans e14
            refine ⟨hv, rfl, v, hv, n, far, dd, ks, held, rfl, dp_ex e1214 hv12, (hv10.ex ((e11.trans e12).trans e1214)).dp, fun z => absurd z hfar, fun _ H15 e15 => ?_⟩
            refine ⟨true, T.m_NoRoom_NoRoom, fun _ a na => ?_, fun z => by cases z⟩
            exact s_ret ev_c fun H16 e16 => q H16
          · refine q_asgLT (ds := held.map PyData.int) ?_ fun ul H12 nul e12 hUl => ?_
            · intro H12 e12 Q' q'
              have hv12 := hv10.ex (e11.trans e12)
              refine ⟨hv, rfl, ?_⟩
              cases hv12 with
              | tup ho hdt =>
                rename_i b xs
                exact ⟨b, xs, rfl, .inr (SqT.of ho), fun p hp => q' p _ hp (Ex.new hp) ⟨xs, upd_same, hdt.ex (Ex.new hp)⟩⟩
            have hL12 : LstT H12 l (ks.map keyD) := hL10.ex (e11.trans e12)
            have hL11 : LstT H11 l (ks.map keyD) := hL10.ex e11
            obtain ⟨ys, hys, hyd⟩ := hL11
            refine q_forL (a := l) (xs := ys) (ev_var rfl) (SqL.of (e12 _ _ hys)) (fun i σ' H' => Ex H11 H' ∧ ∃ (y11 y12 : Option V) (due : List Int), σ' = [some (.ref a), some (.int n), some (.ref l), y, some hv, some (.int pk), some (.int room), some (.ref hd), some (.ref dl), y9, some (.ref ul), y11, y12, none] ∧ LstT H' ul (due.map PyData.int) ∧ due.Nodup ∧ (∀ x, x ∈ due ↔ x ∈ held ∨ (room, x) ∈ ks.take i)) (fun H13 e13 => ⟨e12.trans e13, none, none, held, rfl, hUl.ex e13, nheld, fun x => by simp⟩) (fun i σ' H' _ hP => SqL.of (hP.1 _ _ hys)) (fun i x σ' H' hx hP => ?_) (fun σ' H13 hP => ?_)
            · obtain ⟨eH', y11, y12, due, rfl, hU, hnd, hmem⟩ := hP
              obtain ⟨d, hd1, hd2⟩ := hyd.getV hx
              rw [List.getElem?_map] at hd1
              obtain ⟨k, hk1, rfl⟩ := Option.map_eq_some_iff.mp hd1
              have hki : i < ks.length := (List.getElem?_eq_some_iff.mp hk1).1
              have hkmem : k ∈ ks := List.mem_of_getElem? hk1
              have htk : ks.take (i + 1) = ks.take i ++ [k] := by rw [List.take_succ, hk1]; rfl
              have hd3 := hd2.ex eH'
              cases hd3 with
              | tup ho hdt =>
                rename_i b xs
                have exs : xs = [.int k.1, .int k.2] := by
                  have := tdAll_ints (ns := [k.1, k.2]) hdt
                  simpa using this
                subst exs
                refine ⟨b, _, rfl, SqT.of ho, rfl, _, _, rfl, _, _, rfl, rfl, ?_⟩
                have hlen : due.length ≤ 5 := kinds_len hnd fun x hx => by
                  rcases (hmem x).mp hx with h | h
                  · exact hheld x h
                  · exact hh5 _ (List.mem_of_mem_take h)
                refine s_when (b := decide (k.1 = room) && !decide (k.2 ∈ due)) (et_and (et_test (ev_op (ev_var rfl) (ev_var rfl) rv_eqI)) fun _ => et_test (ev_niI (ev_var rfl) (.inr (ed_any (ev_var rfl) hU.dp)))) (fun hb H15 e15 => ?_) (fun hb H15 e15 => ?_)
                · simp only [Bool.and_eq_true, decide_eq_true_eq, Bool.not_eq_true', decide_eq_false_iff_not] at hb
                  refine s_appT (hU.ex e15) (ev_var rfl) (td_int (ev_var rfl)) (by rw [List.length_map]; omega) fun H16 xs v e16 hl16 hL16 => ⟨Ex.mut ((eH'.trans e15).trans e16) nul, _, _, due ++ [k.2], rfl, by rw [List.map_append]; exact hL16, ?_, fun x => ?_⟩
                  · rw [List.nodup_append]
                    refine ⟨hnd, by simp, fun x hx y hy z => ?_⟩
                    simp at hy
                    subst hy
                    subst z
                    exact hb.2 hx
                  · rw [htk]
                    simp only [List.mem_append, List.mem_singleton, hmem]
                    constructor
                    · rintro ((h | h) | h)
                      · exact .inl h
                      · exact .inr (.inl h)
                      · refine .inr (.inr ?_)
                        rw [h, ← hb.1]
                    · rintro (h | h | h)
                      · exact .inl (.inl h)
                      · exact .inl (.inr h)
                      · exact .inr (by rw [← h])
                · refine ⟨eH'.trans e15, _, _, due, rfl, hU.ex e15, hnd, fun x => ?_⟩
                  rw [htk]
                  simp only [List.mem_append, List.mem_singleton, hmem]
                  constructor
                  · rintro (h | h)
                    · exact .inl h
                    · exact .inr (.inl h)
                  · rintro (h | h | h)
                    · exact .inl h
                    · exact .inr h
                    · have h1 : k.1 = room := by rw [← h]
                      have h2 : k.2 = x := by rw [← h]
                      simp [h1] at hb
                      rw [h2, hmem] at hb
                      exact hb
            · obtain ⟨eH', y11, y12, due, rfl, hU, hnd, hmem⟩ := hP
              have hyl : ys.length = ks.length := by rw [hyd.len, List.length_map]
              rw [hyl, List.take_length] at hmem
              have e13 := e11.trans eH'
              have hlen : due.length ≤ 5 := kinds_len hnd fun x hx => by
                rcases (hmem x).mp hx with h | h
                · exact hheld x h
                · exact hh5 _ h
              refine q_asgP (P := fun v H' => Td H' v (intsD (takenF ks room held))) (ep_call0 (ea_dc (K := K) (mz e13 rfl rfl rfl) (ea_dc (ed_int (ev_var rfl)) (ea_dc (ed_any (ev_var rfl) (hv10.ex e13).dp) ea_dn))) fun vs H15 e15 hd2 Q' q' => ?_) fun fv H14 e14 hfv => ?_
              · obtain ⟨v, u, z, rfl, hv, hu, hz⟩ := dpAll3 hd2
                cases dp_int_inv hu
                exact ⟨v, z, n, room, dd, ks, held, rfl, hv, hz, fun _ w H16 e16 t => q' w H16 e16 t, fun z => absurd hroom z⟩
              · have e1014 := e13.trans e14
                have hU14 := hU.ex e14
                refine s_ret (v := .bl (true && true)) (ev_andV (ev_callP (ea_dc (K := K) (d := intsD (takenF ks room held)) (ed_any (ev_var rfl) hfv.dp) (ea_dc (d := intsD (takenF ks room held)) (ed_td (td_tupleL fun H15 e15 Q' q' => ?_)) ea_dn)) fun vs H15 e15 hd2 => ?_) fun _ => ev_is (ev_eqD (ed_any (ev_var rfl) (hH10.ex e1014).dp) (ed_any (ev_var rfl) (hL10.ex e1014).dp) (sh_keys ks) (sh_keys ks)) (by rw [eqv_self (nb_keys ks)])) fun H15 e15 => q H15
                · obtain ⟨us, hus, hud⟩ := hU14.ex e15
                  have eus := tdAll_ints hud
                  subst eus
                  refine ⟨_, rfl, ul, due, rfl, SqL.of hus, by omega, fun ns' p hp hs np => ?_⟩
                  have e3 := sorted_taken hnd hmem hheld hh5 hp hs
                  exact q' p _ np (Ex.new np) ⟨_, upd_same, by rw [← e3]; exact td_ints ns'⟩
                · obtain ⟨v, u, rfl, hv, hu⟩ := dpAll2 hd2
                  have := sv_l_hand hv hu
                  simpa using this
end

set_option maxHeartbeats 0

/-! ### the head -/
section
variable {K : PySem.W.Frag} {h : Heap} {mg : Str → Option Value}
def faL : List Fx := ([.fa (.free "abs"), .fa (.free "bool"), .fa (.free "int"), .fa (.free "isinstance"), .fa (.free "len"), .fa (.free "list"), .fa (.free "range"), .fa (.free "sorted"), .fa (.free "tuple"), .fa (.int "KINDS" 5), .fa (.glo "MazeError"), .fa (.exc "MazeError"), .fa (.glo "NoRoom"), .fa (.exc "NoRoom"), .fa (.exm "NoRoom" "MazeError" true), .fa (.exm "NoRoom" "NoRoom" true), .fa (.glo "need_room"), .fa (.glo "taken"), .fa (.glo "_law_mix"), .fa (.glo "_law_whole"), .fa (.glo "_law_cell_at"), .fa (.glo "_law_hand"), .fa (.glo "_law_far"), .fa (.glo "law")] : List Fx)
def fnL : List He.DefD := ([⟨("need_room", none), "need_room", "need_room", defArgs s_need_room, defBody s_need_room, defScope s_need_room, [], []⟩, ⟨("taken", none), "taken", "taken", defArgs s_taken, defBody s_taken, defScope s_taken, [], []⟩, ⟨("_law_mix", none), "_law_mix", "_law_mix", defArgs s_l_mix, defBody s_l_mix, defScope s_l_mix, [], []⟩, ⟨("_law_whole", none), "_law_whole", "_law_whole", defArgs s_l_whole, defBody s_l_whole, defScope s_l_whole, [], []⟩, ⟨("_law_cell_at", none), "_law_cell_at", "_law_cell_at", defArgs s_l_cell_at, defBody s_l_cell_at, defScope s_l_cell_at, [], []⟩, ⟨("_law_hand", none), "_law_hand", "_law_hand", defArgs s_l_hand, defBody s_l_hand, defScope s_l_hand, [], []⟩, ⟨("_law_far", none), "_law_far", "_law_far", defArgs s_l_far, defBody s_l_far, defScope s_l_far, [], []⟩, ⟨("law", none), "law", "law", defArgs s_law, defBody s_law, defScope s_law, [], []⟩] : List He.DefD)
theorem txt_of (X : K.In h) (G : h.Ns mainGlobals mg) (c : SaysX faL fnL K) : Txt K mg where
  n_abs := He.free_ok X G (c.fact 0 (f := .fa (.free "abs")) rfl)
  n_bool := He.free_ok X G (c.fact 1 (f := .fa (.free "bool")) rfl)
  n_int := He.free_ok X G (c.fact 2 (f := .fa (.free "int")) rfl)
  n_isinstance := He.free_ok X G (c.fact 3 (f := .fa (.free "isinstance")) rfl)
  n_len := He.free_ok X G (c.fact 4 (f := .fa (.free "len")) rfl)
  n_list := He.free_ok X G (c.fact 5 (f := .fa (.free "list")) rfl)
  n_range := He.free_ok X G (c.fact 6 (f := .fa (.free "range")) rfl)
  n_sorted := He.free_ok X G (c.fact 7 (f := .fa (.free "sorted")) rfl)
  n_tuple := He.free_ok X G (c.fact 8 (f := .fa (.free "tuple")) rfl)
  i_KINDS := He.int_ok X G (c.fact 9 (f := .fa (.int "KINDS" 5)) rfl)
  e_MazeError := excT_ok X G (c.fact 10 (f := .fa (.glo "MazeError")) rfl) (c.fact 11 (f := .fa (.exc "MazeError")) rfl)
  e_NoRoom := excT_ok X G (c.fact 12 (f := .fa (.glo "NoRoom")) rfl) (c.fact 13 (f := .fa (.exc "NoRoom")) rfl)
  m_NoRoom_MazeError := He.exm_ok (c.fact 14 (f := .fa (.exm "NoRoom" "MazeError" true)) rfl)
  m_NoRoom_NoRoom := He.exm_ok (c.fact 15 (f := .fa (.exm "NoRoom" "NoRoom" true)) rfl)
  d_need_room := c.dfn X G 0 16 rfl rfl fun _ _ _ _ _ _ us hl => match us, hl with | [_, _], _ => rfl
  d_taken := c.dfn X G 1 17 rfl rfl fun _ _ _ _ _ _ us hl => match us, hl with | [_, _, _], _ => rfl
  d_l_mix := c.dfn X G 2 18 rfl rfl fun _ _ _ _ _ _ us hl => match us, hl with | [_, _], _ => rfl
  d_l_whole := c.dfn X G 3 19 rfl rfl fun _ _ _ _ _ _ us hl => match us, hl with | [_], _ => rfl
  d_l_cell_at := c.dfn X G 4 20 rfl rfl fun _ _ _ _ _ _ us hl => match us, hl with | [_, _], _ => rfl
  d_l_hand := c.dfn X G 5 21 rfl rfl fun _ _ _ _ _ _ us hl => match us, hl with | [_, _], _ => rfl
  d_l_far := c.dfn X G 6 22 rfl rfl fun _ _ _ _ _ _ us hl => match us, hl with | [_, _], _ => rfl
  d_law := c.dfn X G 7 23 rfl rfl fun _ _ _ _ _ _ us hl => match us, hl with | [_], _ => rfl
end
abbrev Rrow : PySem.W.OpenRow := PySem.W.OpenLaw.row PySem.Challenge.rw_mazeguide_k02_keys_taken
abbrev hkL : PySem.W.Hook := hookX 4 faL fnL
def looseL : List Str := (["need_room", "taken", "_law_mix", "_law_whole", "_law_cell_at", "_law_hand", "_law_far", "MazeError", "NoRoom", "KINDS"] : List Str)
def obL (s : PySem.W.SharedT) : He.AlD := obsXG 4 faL fnL (HandSHeadRun.getT s)
theorem obL_eq (s : PySem.W.SharedT) : obL s = hkL.obs s.abs := obsXG_eq (HandSHeadRun.getT_eq s)
theorem runL (w : World) : HandSHeadRun.RunEq Rrow (PySem.W.view Rrow.prog [13]) hkL obL 6000 looseL w := by
  intro os
  kernel_rfl
theorem law_fn {P : Program} {w : World} {K : PySem.W.Frag} {h : Heap} {mg : Str → Option Value} {f : Addr} (X : K.In h) (G : h.Ns mainGlobals mg) (hfa : mg ("law" : Str) = some (.ref f)) (c : SaysX faL fnL K) :
    ∃ fd : FuncData, (∀ (s : Shared) (v : Value), BindsTo s fd ⟨[v], []⟩ [("_law_script", v)]) ∧ ∀ base : Heap, K.In base → base.Ns mainGlobals mg → FnOk P w K mg base CX0 3 f fd ["_law_script"] (sp_law K) := by
  have T : Txt K mg := txt_of X G c
  obtain ⟨fd, F⟩ := c.def_ 7 (d := ⟨("law", none), "law", "law", defArgs s_law, defBody s_law, defScope s_law, [], []⟩) rfl
  have e := hfa.symm.trans T.d_law.1
  cases e
  have b := FunD.bindsA (ps := ["_law_script"]) F fun _ _ _ _ _ _ us hl => match us, hl with | [_], _ => rfl
  exact ⟨fd, fun s v => b s [v] rfl, fun base _ _ => ok_law T F⟩
end Mz
open PySem PySem.W PySem.Calls PyProof.Rows
theorem PySem.Challenge.cw_mazeguide_k02_keys_taken_holds : PySem.Challenge.rw_mazeguide_k02_keys_taken.Holds := by
  w_on; o_law
  refine HandSHeadRun.head_any (r := OpenLaw.row PySem.Challenge.rw_mazeguide_k02_keys_taken) (q := view (OpenLaw.row PySem.Challenge.rw_mazeguide_k02_keys_taken).prog [13]) (H := Mz.hkL) (ob := Mz.obL) (M := 6000) (loose := Mz.looseL) (d := HandSHeadRun.topDef (OpenLaw.row PySem.Challenge.rw_mazeguide_k02_keys_taken).prog 13) (kwd := []) Mz.obL_eq
    (by kernel_rfl) (fun s => by kernel_rfl) Mz.runL (by kernel_rfl) (by kernel_rfl) (by kernel_rfl) (by rfl) (by first | assumption | decide +kernel) (by decide +kernel) ⟨rfl, rfl, rfl, rfl, rfl, by decide +kernel⟩ ?hw ?hc
  case hw => w_witness2
  case hc =>
    refine L2.walk_ofE (l := PySem.Challenge.rw_mazeguide_k02_keys_taken) (n := 63) (k := 3) (x := "_law_script") (CX := L2.CX0) rfl (by decide) (by kernel_rfl) ⟨rfl, by decide, by decide⟩ ?F (fun _ _ _ _ z => z)
    intro w mg fa h Y G hmg0
    obtain ⟨K, KX, c⟩ := Y
    have hmg : mg ("law" : PySem.Str) = some (.ref fa) := by
      have e : (HandSHeadRun.topDef (OpenLaw.row PySem.Challenge.rw_mazeguide_k02_keys_taken).prog 13).name = ("law" : PySem.Str) := by kernel_rfl
      rw [← e]
      exact hmg0
    obtain ⟨fd, hb, hF⟩ := Mz.law_fn (P := (PySem.Challenge.rw_mazeguide_k02_keys_taken).prog) (w := w) KX G hmg c
    exact ⟨K, fd, Mz.sp_law K, KX, hb, fun H a ns hl _ hS => ⟨a, ns, rfl, hS, hl, fun _ => rfl⟩, hF⟩
