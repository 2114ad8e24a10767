import PyProof.Rows.All
import Wide.All
import OpenK.AllK
import Wide.FinOn
import PyProof.EqAt
import PyProof.EqKinds
import PyProof.TupleCall
import KE.KStateDown
import HandS.ForMost
import HandS.ForExc
import HandS.Deep
import HandS.FStr
import HandS.Conv
import HandS.TupAny
import HandS.IsInst
import HandS.ExcIs
import HandS.TryMany
import HandS.Defaults
import HandS.Head0
import HandS.Head1
import HandS.Head2
import HandS.HeadEnd
import HandS.HeadHook1
import HandS.HeadHook2
import HandS.Evl
import HandS.Text
import Lean
import PySem.Challenge.RW_mazeguide_k11_written
set_option Elab.async false
set_option linter.all false
set_option maxRecDepth 100000
set_option maxHeartbeats 4000000
namespace Mz
open PySem PySem.Spec PyProof.Rows L2

/-! ### a def that keeps its promise -/
/-- the def of the text at the module's name x -/
def Dfn (K : PySem.W.Frag) (mg : Str → Option Value) (x : Str) (st : Stmt) (ps : List Str) : Prop :=
  mg x = some (.ref (He.ga K x)) ∧ ∃ fd, FunD K x x (defArgs st) (defBody st) (defScope st) [] [] (He.ga K x) fd ∧ Binds K fd ps []
def Kept (P : Program) (w : World) (K : PySem.W.Frag) (mg : Str → Option Value) (base : Heap) (k : Nat) (x : Str) (ps : List Str) (sp : Sp) : Prop :=
  ∃ f fd, FnOk P w K mg base (L2.CX P w) k f fd ps sp ∧ mg x = some (.ref f) ∧ PySem.W.keepIn K (.ref f) = true ∧ Binds K fd ps []
section
variable {P : Program} {w : World} {K : PySem.W.Frag} {mg : Str → Option Value} {base : Heap}
theorem Dfn.kept {x : Str} {st : Stmt} {N ps : List Str} {k : Nat} {sp : Sp} (D : Dfn K mg x st ps) (S : FnScope N ps (defScope st)) (len : ∀ vs H Q E, sp vs H Q E → vs.length = ps.length)
    (hbody : ∀ (cdv : Value) (A : Around) (outer : List Env) (s : Shared) (H : Hp) (vs : List V) (Q : VK) (E : XK), Room k (A.deeper (envOfC x (defScope st) s.heap.objs.size (He.ga K x) cdv)) → sp vs H Q E →
      ∃ t, PSs (cxOf (L2.CX P w) P w K mg base N x (defScope st) (He.ga K x) cdv A outer s H E) (defBody st) t ∧ t { nx := fun _ H' => Q .non H', rt := Q } (start N vs) H) :
    Kept P w K mg base (k + 1) x ps sp := by
  obtain ⟨g, fd, F, b⟩ := D
  exact ⟨_, fd, F.ok S len hbody, g, F.kp, b⟩
end
section
variable {X : Cx} {k : Nat} {x : Str} {ps : List Str} {sp : Sp} {p pos : Pos} {e : Expr} {es : List Expr} {t : TA}
theorem pe_fn {E : XK} (F : Kept X.prog X.w X.K X.mg X.base k x ps sp) (hr : Room k X.A) (hx : Passes (L2.CX X.prog X.w) X E) (hg : Gl X x) (ha : PA X (e :: es) t)
    (hdb : (x == ("__debug__" : Str)) = false := by decide) (he : starEach (e :: es) X.env = (false, eval e X.env) :: starEach es X.env := by rfl) (hpl : (backTo pos (starEach es X.env)).any (·.1) = false := by rfl) :
    PE X (.Call (.Name x p) (e :: es) [] pos) (tCall sp [] E t) := by
  obtain ⟨f, fd, G, g, kp, b⟩ := F
  exact pe_call G hr hg g kp b .nil hx ha hdb he hpl
theorem pe_fnS {E : L2.St → XK} (F : Kept X.prog X.w X.K X.mg X.base k x ps sp) (hr : Room k X.A) (hx : ∀ st, PassesAt (L2.CX X.prog X.w) X st (E st)) (ha : PA X (e :: es) t) (hg : Gl X x := by rfl)
    (hdb : (x == ("__debug__" : Str)) = false := by decide) (he : starEach (e :: es) X.env = (false, eval e X.env) :: starEach es X.env := by rfl) (hpl : (backTo pos (starEach es X.env)).any (·.1) = false := by rfl) :
    PE X (.Call (.Name x p) (e :: es) [] pos) (tCallS sp E t) := by
  obtain ⟨f, fd, G, g, kp, b⟩ := F
  exact pe_callS G hr hg g kp b hx ha hdb he hpl
theorem passR {E : XK} (tk : L2.Takes X (fun cls d _ H => E cls d H)) : Passes (L2.CX X.prog X.w) X E := passes_call tk fun _ _ _ _ h => h
theorem takes0x : L2.Takes X (fun _ _ _ _ => False) := takes0
theorem pe_gint {i : Int} (h : ∃ tk, X.mg x = some (.int i tk)) (hg : Gl X x) (hd : (x == ("__debug__" : Str)) = false := by decide) : PE X (.Name x p) (tC (.int i)) := by
  obtain ⟨tk, h⟩ := h
  exact pe_glob hg h ⟨tk, rfl⟩ hd
theorem pe_gstr {z : Str} (h : ∃ tk, X.mg x = some (.str z tk)) (hg : Gl X x) (hd : (x == ("__debug__" : Str)) = false := by decide) : PE X (.Name x p) (tC (.str z)) := by
  obtain ⟨tk, h⟩ := h
  exact pe_glob hg h ⟨tk, rfl⟩ hd
theorem pe_gref {a : Addr} (h : X.mg x = some (.ref a)) (hg : Gl X x) (hd : (x == ("__debug__" : Str)) = false := by decide) : PE X (.Name x p) (tC (.ref a)) := pe_glob hg h rfl hd
end
theorem u65 {k : Nat} {A : Around} (hr : Room k A) : A.units + 65 < cLine := by have := hr.un; omega

/-! ### exception classes of the text -/
structure ExcT (K : PySem.W.Frag) (mg : Str → Option Value) (x : Str) : Prop where
  gC : mg x = some (.ref (He.ga K x))
  xC : PySem.W.excIn K (He.ga K x) [.type "ValueError", .type "Exception", .type "BaseException", .type "object"] "ValueError.__new__" = true
  kC : PySem.W.keepIn K (.ref (He.ga K x)) = true
  bC : PySem.W.subIn K (.ref (He.ga K x)) (.type "BaseException") = some true
  tC : PySem.W.typeIn K (.ref (He.ga K x)) = some (.type "type")
/-! ### the head's facts -/
inductive Fx where
  | fa (f : He.Fa)
  | excC (x : Str)
  | kit (x y : Str) (b : Bool)
  | kitT (x : Str) (n : String) (b : Bool)
def Fx.ok (K : PySem.W.Frag) : Fx → Bool
  | .fa f => f.ok K
  | .excC x => He.eqO (PySem.W.findIn K (.ref (He.ga K x)) "__getattribute__") (some (some (.builtin "BaseException.__getattribute__"))) && (He.eqO (PySem.W.findIn K (.ref (He.ga K x)) "__getattr__") (some none) && (decide (PySem.W.subIn K (.ref (He.ga K x)) (.type "BaseException") = some true) &&
      (PySem.W.hasDictIn K (He.ga K x) && (He.eqO (PySem.W.findIn K (.ref (He.ga K x)) "__class__") (some (some (.builtin "object.__class__"))) && (He.eqO (PySem.W.specialIn K (.builtin "object.__class__") "__get__") (some (some (.builtin "getset_descriptor.__get__"))) &&
        (decide (PySem.W.takesIn K (.builtin "object.__class__") = some true) && decide (PySem.W.mroIn K (He.ga K x) (.type "object") = some true)))))))
  | .kit x y b => decide (PySem.W.kitOne K (.ref (He.ga K x)) (.ref (He.ga K y)) = some b)
  | .kitT x n b => decide (PySem.W.kitOne K (.ref (He.ga K x)) (.type n) = some b)
theorem excC_ok {K : PySem.W.Frag} {x : Str} (c : (Fx.excC x).ok K = true) : ExcC K (He.ga K x) := by
  obtain ⟨h1, c⟩ := He.ba c
  obtain ⟨h2, c⟩ := He.ba c
  obtain ⟨h3, c⟩ := He.ba c
  obtain ⟨h4, c⟩ := He.ba c
  obtain ⟨h5, c⟩ := He.ba c
  obtain ⟨h6, c⟩ := He.ba c
  obtain ⟨h7, h8⟩ := He.ba c
  exact ⟨He.eqO_ok h1, He.eqO_ok h2, of_decide_eq_true h3, h4, He.eqO_ok h5, He.eqO_ok h6, of_decide_eq_true h7, of_decide_eq_true h8⟩
theorem excT_ok {K : PySem.W.Frag} {h : Heap} {mg : Str → Option Value} (X : K.In h) (G : h.Ns mainGlobals mg) {x : Str} (g : (He.Fa.glo x).ok K = true) (c : (He.Fa.exc x).ok K = true) : ExcT K mg x := by
  obtain ⟨h1, h2, h3, h4⟩ := He.exc_ok c
  exact ⟨He.glo_ok X G g, h1, h2, h3, h4⟩
def obsX (fa : List Fx) (fn : List He.DefD) (K : PySem.W.Frag) : He.AlD := ((fa.all fun f => f.ok K) && fn.all fun d => d.ok K, fn.map fun d => He.fnW K d.at_)
def SaysX (fa : List Fx) (fn : List He.DefD) (K : PySem.W.Frag) : Prop := obsX fa fn K = He.valD fn
def obsXG (n : Nat) (fa : List Fx) (fn : List He.DefD) (g : Addr → Option Obj) : He.AlD := obsX fa fn (He.frG g (He.asD g n))
def hookX (n : Nat) (fa : List Fx) (fn : List He.DefD) : PySem.W.Hook where
  α := He.AlD
  obs := fun s => obsXG n fa fn s.heap.get?
  val := fun _ => He.valD fn
  says := fun _ h => ∃ K : PySem.W.Frag, K.In h ∧ SaysX fa fn K
  of := fun _ _ e => ⟨_, He.frG_in, e⟩
  keeps := fun _ _ _ ⟨K, hK, c⟩ k => ⟨K, PySem.W.Frag.In.keeps hK k, c⟩
theorem obsXG_eq {n : Nat} {fa : List Fx} {fn : List He.DefD} {g : Addr → Option Obj} {s : Shared} (h : ∀ a, g a = s.heap.get? a) : obsXG n fa fn g = (hookX n fa fn).obs s := by
  have e : g = s.heap.get? := funext h
  rw [e]
  rfl
section
variable {fa : List Fx} {fn : List He.DefD} {K : PySem.W.Frag}
theorem SaysX.fact (c : SaysX fa fn K) (i : Nat) {f : Fx} (h : fa[i]? = some f := by rfl) : f.ok K = true := by
  have e : ((fa.all fun f => f.ok K) && fn.all fun d => d.ok K) = true := congrArg Prod.fst c
  have e1 := (He.ba e).1
  exact List.all_eq_true.mp e1 f (List.mem_of_getElem? h)
theorem SaysX.def_ (c : SaysX fa fn K) (i : Nat) {d : He.DefD} (h : fn[i]? = some d := by rfl) : ∃ fd, FunD K d.name d.qual d.params d.body d.scope (d.dvs K) (d.kws K) (He.fAd K d.at_) fd := by
  have e : ((fa.all fun f => f.ok K) && fn.all fun d => d.ok K) = true := congrArg Prod.fst c
  have e2 := List.all_eq_true.mp (He.ba e).2 d (List.mem_of_getElem? h)
  have e3 : (fn.map fun d => He.fnW K d.at_) = fn.map He.DefD.val := congrArg Prod.snd c
  have e4 : He.fnW K d.at_ = d.val := by
    have q := congrArg (fun l => l[i]?) e3
    simp only [List.getElem?_map, h, Option.map_some, Option.some.injEq] at q
    exact q
  exact He.DefD.funD e4 e2
theorem SaysX.dfn {mg : Str → Option Value} {h : Heap} (X : K.In h) (G : h.Ns mainGlobals mg) (c : SaysX fa fn K) {x : Str} {st : Stmt} {ps : List Str} (i j : Nat) (hd : fn[i]? = some ⟨(x, none), x, x, defArgs st, defBody st, defScope st, [], []⟩) (hj : fa[j]? = some (.fa (.glo x)))
    (hb : ∀ (kV doc pm : Value) (an : Option Addr) (cdv ct : Value) (us : List Value), us.length = ps.length → bindArgs (PySem.W.fnOf x x (defArgs st) (defBody st) (defScope st) .none kV doc pm an cdv ct) ⟨us, []⟩ = pure (ps.zip us)) : Dfn K mg x st ps := by
  obtain ⟨fd, F⟩ := c.def_ i hd
  exact ⟨He.glo_ok X G (c.fact j hj), fd, F, FunD.bindsN F hb⟩
end
/-- the law's end -/
theorem cx_end {P : Program} {w : World} (H : Hp) (s : Shared) (e : Value) (s' : Shared) (h : L2.CX P w [] H s (fun _ _ _ => False) e s') : False := by
  obtain ⟨_, _, _, _, _, _, _, _, _, _, _, _, z⟩ := h
  exact z
/-! ### a suite whose exception is of a class of the text -/
theorem pss_exc {X : Cx} {sts : List Stmt} {K : PySem.W.Frag} {cls : Value} {dd : Option Addr} {oe : Obj} {t : Addr → TS} (hz : Zc cls dd oe) (h : ∀ D, ExcC K D → Zc (.ref D) none oe → PSs X sts (t D)) :
    PSs X sts (fun Dn st H => ∃ D, (cls = .ref D ∧ dd = none ∧ ExcC K D) ∧ t D Dn st H) := ⟨fun pins s st H Dn I q => by
  obtain ⟨D, ⟨rfl, rfl, hx⟩, q⟩ := q
  exact (h D hx hz).run pins s st H Dn I q⟩
/-! ### xs.count(y), flat items -/
theorem countP_eqU {y : V} : ∀ {xs : List V} {us : List Value}, Vals xs us → xs.all flatV = true → us.countP (eqU y) = xs.countP fun z => eqV z y
  | _, _, .nil, _ => rfl
  | _, _, .cons r t, f => by
    simp only [List.all_cons, Bool.and_eq_true] at f
    rw [List.countP_cons, List.countP_cons, countP_eqU t f.2, eqU_of r f.1]
def rCntF (K : PySem.W.Frag) : V → List V → Hp → VK → Prop := fun x vs H Q => ∃ (p : Addr) (xs : List V) (y : V), x = .ref p ∧ vs = [y] ∧ SqL K H p xs ∧ flatV y = true ∧ xs.all flatV = true ∧ Q (.int (xs.countP (fun z => eqV z y) : Nat)) H
theorem mt_countF {X : Cx} : MtR X "list.count" (rCntF X.K) := by
  intro pins s st H x vs v us Q I rx rxs h
  obtain ⟨p, xs, y, rfl, rfl, hs, fy, fx, q⟩ := h
  cases rx
  obtain ⟨u, rfl, ru⟩ := rxs.one
  obtain ⟨its, rv, ⟨⟨cls, dd, data, sl⟩, n, ho, hc, hdn, hd⟩, hlen⟩ := I.list hs
  simp only at hc hd
  subst hc hd
  refine call_meets PySem.F.slot_list_count ⟨_, ho, rfl⟩ PySem.F.entry_list_count (PySem.F.args_list_count_2 _ _)
    (SeqAt.list_countAt p its.toArray n dd sl u (eqU y)) ⟨ho, fun z hz => mem_eqAt ru fy rv fx z (by simpa using hz), ?_⟩
  have ec : its.toArray.toList.countP (eqU y) = xs.countP fun z => eqV z y := countP_eqU rv fx
  refine ⟨.int (xs.countP (fun z => eqV z y) : Nat), H, I.tok _, ⟨s.toks, ?_⟩, q⟩
  show Value.int ((its.toArray.toList.countP (eqU y) : Nat) : Int) s.toks = Value.int ((xs.countP (fun z => eqV z y) : Nat) : Int) s.toks
  rw [ec]
theorem mt_countF_K {X : Cx} {K : PySem.W.Frag} (h : X.K = K) : MtR X "list.count" (rCntF K) := by subst h; exact mt_countF
/-! ### the same rules, the written part named (within a comprehension) -/
section
variable {X : Cx} {K : PySem.W.Frag}
theorem ix_list_K (h : X.K = K) : IxR X (rIxL K) := by subst h; exact ix_list
theorem ix_seq_K (h : X.K = K) : IxR X (rIx K) := by subst h; exact ix_seq
theorem sl_tupA_K (h : X.K = K) : SlR X (rSlA K) := by subst h; exact sl_tupA
theorem op_catA_K (h : X.K = K) : OpR X (binaryOp .Add) (rCatA K) := by subst h; exact op_catA
theorem cr_sorted_K (h : X.K = K) : CallR X (.builtin "sorted") (rSorted K) := by subst h; exact cr_sorted
theorem pi_list_K {tg l : Expr} {tl : TE} (h : X.K = K) (hl : PE X l tl) : PI X tg l (iList K tl) := by subst h; exact pi_list hl
theorem pi_tup_K {tg l : Expr} {tl : TE} (h : X.K = K) (hl : PE X l tl) : PI X tg l (iTup K tl) := by subst h; exact pi_tup hl
theorem pg_tup_K {es : List Expr} {k : Nat} {t : TGs} {n : Nat} {pos : Pos} (hK : X.K = K) (hc : X.calm = true) (h : PGs X es t) (hn : (assignEach es X.env).length = n := by rfl) (hst : (assignEach es X.env).findIdx? (·.1) = none := by rfl) : PG X (.Tuple es k pos) (gTup K n t) := by
  subst hK; exact pg_tup hc h hn hst
theorem pe_bm0_K {o : Expr} {to : TE} {name : Str} {apos cpos : Pos} {T id : String} {r : V → List V → Hp → VK → Prop} (hK : X.K = K) (pa : PlainAttrs T) (slot : Slot T name id) (hty : typeOf (.builtin id) = pure (.type "method_descriptor")) (hm : MtR X id r) (ho : PE X o to)
    (hbase : attributeBase o name X.env (eval o X.env) = eval o X.env := by rfl) (hline : (apos.endLine == cpos.line) = true := by rfl) : PE X (.Call (.Attribute o name apos) [] [] cpos) (tBM0 K T r to) := by
  subst hK; exact pe_bm0 pa slot hty hm ho hbase hline
theorem pe_bm_K {o e : Expr} {es : List Expr} {to : TE} {t : TA} {name : Str} {apos cpos : Pos} {T id : String} {r : V → List V → Hp → VK → Prop} (hK : X.K = K) (pa : PlainAttrs T) (slot : Slot T name id) (hty : typeOf (.builtin id) = pure (.type "method_descriptor")) (hm : MtR X id r) (ho : PE X o to) (ha : PA X (e :: es) t)
    (hbase : attributeBase o name X.env (eval o X.env) = eval o X.env := by rfl)
    (hfew : ((backTo cpos (starEach (e :: es) X.env)).all (fun x => !x.1) && (backToKw cpos (keywordEach [] X.env)).all (fun x => x.1.isSome) && decide ((e :: es).length + ([] : List Keyword).length + (if ([] : List Keyword).isEmpty then 0 else 1) < 30)) = true := by rfl)
    (hline : (apos.endLine == cpos.line) = true := by rfl) (hs : starEach (e :: es) X.env = (false, eval e X.env) :: starEach es X.env := by rfl) (hplain : (backTo cpos (starEach es X.env)).any (·.1) = false := by rfl) :
    PE X (.Call (.Attribute o name apos) (e :: es) [] cpos) (tBM K T r to t) := by
  subst hK; exact pe_bm pa slot hty hm ho ha hbase hfew hline hs hplain
theorem ix_tup_K (h : X.K = K) : IxR X (rIxT K) := by subst h; exact ix_tup
theorem sl_list_K (h : X.K = K) : SlR X (rSlL K) := by subst h; exact sl_list
theorem call_len_seq_K (h : X.K = K) : CallR X (.builtin "len") (fun xs H Q => ∃ p ys, xs = [.ref p] ∧ (SqL K H p ys ∨ SqT K H p ys) ∧ Q (.int ys.length) H) := by subst h; exact call_len_seq
theorem call_list_of_K (h : X.K = K) : CallR X (.type "list") (fun xs H Q => ∃ p ys, xs = [.ref p] ∧ (SqL K H p ys ∨ SqT K H p ys) ∧ ∀ l, H l = none → Q (.ref l) (upd H l (.lst ys))) := by subst h; exact call_list_of
theorem call_tuple_of_K (h : X.K = K) : CallR X (.type "tuple") (fun xs H Q => ∃ p ys, xs = [.ref p] ∧ ((SqL K H p ys ∧ ∀ l, H l = none → Q (.ref l) (upd H l (.tup ys))) ∨ (SqT K H p ys ∧ Q (.ref p) H))) := by subst h; exact call_tuple_of
theorem call_isi_K (h : X.K = K) : CallR X (.builtin "isinstance") (rIsi K) := by subst h; exact call_isi
theorem op_eqD_K (h : X.K = K) (hu : X.A.units + 64 < cLine) : OpR X (compareOp .Eq) (rEqD K) := by subst h; exact op_eqD hu
theorem op_neD_K (h : X.K = K) (hu : X.A.units + 64 < cLine) : OpR X (compareOp .NotEq) (rNeD K) := by subst h; exact op_neD hu
theorem op_inD_K (h : X.K = K) (hu : X.A.units + 65 < cLine) : OpR X (compareOp .In) (rInD K) := by subst h; exact op_inD hu
theorem op_notInD_K (h : X.K = K) (hu : X.A.units + 65 < cLine) : OpR X (compareOp .NotIn) (rNotInD K) := by subst h; exact op_notInD hu
theorem op_in_seq_K (h : X.K = K) : OpR X (compareOp .In) (rIn K false) := by subst h; exact op_in_seq
theorem op_notIn_seq_K (h : X.K = K) : OpR X (compareOp .NotIn) (rIn K true) := by subst h; exact op_notIn_seq
end
end Mz
namespace Mz
open PySem PySem.Spec PyProof.Rows L2 Evl

/-! ### data made of tuples alone: it stays while lists change -/
mutual
inductive Td (H : Hp) : V → PyData → Prop
  | non : Td H .non .none
  | bl (b : Bool) : Td H (.bl b) (.bool b)
  | int (i : Int) : Td H (.int i) (.int i)
  | str (x : Str) : Td H (.str x) (.str x)
  | tup {a : Addr} {xs : List V} {ds : List PyData} : H a = some (.tup xs) → TdAll H xs ds → Td H (.ref a) (.tuple ds)
inductive TdAll (H : Hp) : List V → List PyData → Prop
  | nil : TdAll H [] []
  | cons {v : V} {vs : List V} {d : PyData} {ds : List PyData} : Td H v d → TdAll H vs ds → TdAll H (v :: vs) (d :: ds)
end
section
variable {K : PySem.W.Frag} {H H' : Hp}
mutual
theorem Td.keep (k : ∀ b xs, H b = some (.tup xs) → H' b = some (.tup xs)) : ∀ {d : PyData} {v : V}, Td H v d → Td H' v d
  | .none, _, .non => .non
  | .bool _, _, .bl b => .bl b
  | .int _, _, .int i => .int i
  | .str _, _, .str x => .str x
  | .tuple ds, _, .tup h r => .tup (k _ _ h) (TdAll.keep k r)
theorem TdAll.keep (k : ∀ b xs, H b = some (.tup xs) → H' b = some (.tup xs)) : ∀ {ds : List PyData} {vs : List V}, TdAll H vs ds → TdAll H' vs ds
  | [], _, .nil => .nil
  | _ :: _, _, .cons h r => .cons (Td.keep k h) (TdAll.keep k r)
end
mutual
theorem Td.dp : ∀ {d : PyData} {v : V}, Td H v d → Dp K H v d
  | .none, _, .non => .non
  | .bool _, _, .bl b => .bl b
  | .int _, _, .int i => .int i
  | .str _, _, .str x => .str x
  | .tuple ds, _, .tup h r => .tup (SqT.of h) (TdAll.dp r)
theorem TdAll.dp : ∀ {ds : List PyData} {vs : List V}, TdAll H vs ds → DpAll K H vs ds
  | [], _, .nil => .nil
  | _ :: _, _, .cons h r => .cons (Td.dp h) (TdAll.dp r)
end
mutual
theorem dp_ex (e : Ex H H') : ∀ {d : PyData} {v : V}, Dp K H v d → Dp K H' v d
  | .none, _, .non => .non
  | .bool _, _, .bl b => .bl b
  | .int _, _, .int i => .int i
  | .str _, _, .str x => .str x
  | .list ds, _, .lst h r => .lst (ex_l e h) (dpAll_ex e r)
  | .tuple ds, _, .tup h r => .tup (ex_t e h) (dpAll_ex e r)
theorem dpAll_ex (e : Ex H H') : ∀ {ds : List PyData} {vs : List V}, DpAll K H vs ds → DpAll K H' vs ds
  | [], _, .nil => .nil
  | _ :: _, _, .cons h r => .cons (dp_ex e h) (dpAll_ex e r)
end
theorem Td.ex (e : Ex H H') {d : PyData} {v : V} (h : Td H v d) : Td H' v d := Td.keep (fun b xs q => e b _ q) h
theorem TdAll.ex (e : Ex H H') {ds : List PyData} {vs : List V} (h : TdAll H vs ds) : TdAll H' vs ds := TdAll.keep (fun b xs q => e b _ q) h
theorem upd_tups {l : Addr} {xs : List V} {o : HO} (h : H l = some (.lst xs)) : ∀ b ys, H b = some (.tup ys) → upd H l o b = some (.tup ys) := fun b ys q => by
  rw [upd_ne (ne_of q h (fun z => by cases z))]
  exact q
theorem Td.upd {l : Addr} {xs : List V} {o : HO} (h : H l = some (.lst xs)) {d : PyData} {v : V} (q : Td H v d) : Td (L2.upd H l o) v d := Td.keep (upd_tups h) q
theorem TdAll.upd {l : Addr} {xs : List V} {o : HO} (h : H l = some (.lst xs)) {ds : List PyData} {vs : List V} (q : TdAll H vs ds) : TdAll (L2.upd H l o) vs ds := TdAll.keep (upd_tups h) q
theorem TdAll.append {ds es : List PyData} : ∀ {vs us : List V}, TdAll H vs ds → TdAll H us es → TdAll H (vs ++ us) (ds ++ es) := by
  induction ds with
  | nil => intro vs us h q; cases h; exact q
  | cons d r ih => intro vs us h q; cases h with | cons a b => exact .cons a (ih b q)
theorem TdAll.len {ds : List PyData} : ∀ {vs : List V}, TdAll H vs ds → vs.length = ds.length := by
  induction ds with
  | nil => intro vs h; cases h; rfl
  | cons d r ih => intro vs h; cases h with | cons a b => simp [ih b]
theorem TdAll.get {ds : List PyData} : ∀ {vs : List V} {i : Nat} {d : PyData}, TdAll H vs ds → ds[i]? = some d → ∃ v, vs[i]? = some v ∧ Td H v d := by
  induction ds with
  | nil => intro vs i d h q; simp at q
  | cons d r ih =>
    intro vs i d' h q
    cases h with
    | cons a b =>
      cases i with
      | zero => simp at q; subst q; exact ⟨_, rfl, a⟩
      | succ i => simp at q; obtain ⟨v, e, t⟩ := ih b q; exact ⟨v, by simpa using e, t⟩
theorem TdAll.getV {ds : List PyData} : ∀ {vs : List V} {i : Nat} {v : V}, TdAll H vs ds → vs[i]? = some v → ∃ d, ds[i]? = some d ∧ Td H v d := by
  induction ds with
  | nil => intro vs i d h q; cases h; simp at q
  | cons d r ih =>
    intro vs i d' h q
    cases h with
    | cons a b =>
      cases i with
      | zero => simp at q; subst q; exact ⟨_, rfl, a⟩
      | succ i => simp at q; obtain ⟨v, e, t⟩ := ih b q; exact ⟨v, by simpa using e, t⟩
theorem dpAll_len {ds : List PyData} : ∀ {vs : List V}, DpAll K H vs ds → vs.length = ds.length := by
  induction ds with
  | nil => intro vs h; cases h; rfl
  | cons d r ih => intro vs h; cases h with | cons a b => simp [ih b]
theorem dpAll_getV {ds : List PyData} : ∀ {vs : List V} {i : Nat} {v : V}, DpAll K H vs ds → vs[i]? = some v → ∃ d, ds[i]? = some d ∧ Dp K H v d := by
  induction ds with
  | nil => intro vs i d h q; cases h; simp at q
  | cons d r ih =>
    intro vs i d' h q
    cases h with
    | cons a b =>
      cases i with
      | zero => simp at q; subst q; exact ⟨_, rfl, a⟩
      | succ i => simp at q; obtain ⟨v, e, t⟩ := ih b q; exact ⟨v, by simpa using e, t⟩
theorem dpAll_get {ds : List PyData} : ∀ {vs : List V} {i : Nat} {d : PyData}, DpAll K H vs ds → ds[i]? = some d → ∃ v, vs[i]? = some v ∧ Dp K H v d := by
  induction ds with
  | nil => intro vs i d h q; simp at q
  | cons d r ih =>
    intro vs i d' h q
    cases h with
    | cons a b =>
      cases i with
      | zero => simp at q; subst q; exact ⟨_, rfl, a⟩
      | succ i => simp at q; obtain ⟨v, e, t⟩ := ih b q; exact ⟨v, by simpa using e, t⟩
theorem dpAll_append {ds es : List PyData} : ∀ {vs us : List V}, DpAll K H vs ds → DpAll K H us es → DpAll K H (vs ++ us) (ds ++ es) := by
  induction ds with
  | nil => intro vs us h q; cases h; exact q
  | cons d r ih => intro vs us h q; cases h with | cons a b => exact .cons a (ih b q)
/-- ints -/
theorem td_ints : ∀ ns : List Int, TdAll H (ns.map V.int) (ns.map PyData.int)
  | [] => .nil
  | n :: r => .cons (.int n) (td_ints r)
theorem td_int_inv {v : V} {i : Int} (h : Td H v (.int i)) : v = .int i := by cases h; rfl
theorem dp_int_inv {v : V} {i : Int} (h : Dp K H v (.int i)) : v = .int i := by cases h; rfl
theorem dpAll_ints : ∀ {ns : List Int} {vs : List V}, DpAll K H vs (ns.map PyData.int) → vs = ns.map V.int
  | [], _, .nil => rfl
  | n :: r, _, .cons h q => by rw [dp_int_inv h, dpAll_ints q]; rfl
theorem tdAll_ints : ∀ {ns : List Int} {vs : List V}, TdAll H vs (ns.map PyData.int) → vs = ns.map V.int
  | [], _, .nil => rfl
  | n :: r, _, .cons h q => by rw [td_int_inv h, tdAll_ints q]; rfl
/-- a list that stands, of such data -/
def LstT (H : Hp) (p : Addr) (ds : List PyData) : Prop := ∃ xs, H p = some (.lst xs) ∧ TdAll H xs ds
theorem LstT.ex (e : Ex H H') {p : Addr} {ds : List PyData} (h : LstT H p ds) : LstT H' p ds := by
  obtain ⟨xs, a, b⟩ := h
  exact ⟨xs, e _ _ a, b.ex e⟩
theorem LstT.dp {p : Addr} {ds : List PyData} (h : LstT H p ds) : Dp K H (.ref p) (.list ds) := by
  obtain ⟨xs, a, b⟩ := h
  exact .lst (SqL.of a) b.dp
theorem LstT.push {p : Addr} {ds : List PyData} {d : PyData} {v : V} {xs : List V} (h : H p = some (.lst xs)) (b : TdAll H xs ds) (t : Td H v d) : LstT (L2.upd H p (.lst (xs ++ [v]))) p (ds ++ [d]) :=
  ⟨_, upd_same, TdAll.append (b.upd h) (.cons (t.upd h) .nil)⟩
end

theorem at0 {ds : List PyData} {d : PyData} {j : Nat} (h : ds[j]? = some d := by rfl) : atI ds (j : Int) = some d := atI_nat h
theorem atI0 {d : PyData} {r : List PyData} : atI (d :: r) 0 = some d := at0 (j := 0)
theorem atI1 {a d : PyData} {r : List PyData} : atI (a :: d :: r) 1 = some d := at0 (j := 1)
theorem atI2 {a b d : PyData} {r : List PyData} : atI (a :: b :: d :: r) 2 = some d := at0 (j := 2)
/-! ### what evaluates to data -/
def EvP (te : TE) (σ : L2.St) (H : Hp) (P : V → Hp → Prop) : Prop := ∀ H1, Ex H H1 → ∀ Q : VK, (∀ v H2, Ex H1 H2 → P v H2 → Q v H2) → te σ H1 Q
def EaP (ta : TA) (σ : L2.St) (H : Hp) (P : List V → Hp → Prop) : Prop := ∀ H1, Ex H H1 → ∀ Q : List V → Hp → Prop, (∀ v H2, Ex H1 H2 → P v H2 → Q v H2) → ta σ H1 Q
abbrev EvD (K : PySem.W.Frag) (te : TE) (σ : L2.St) (H : Hp) (d : PyData) : Prop := EvP te σ H fun v H' => Dp K H' v d
abbrev EvTd (te : TE) (σ : L2.St) (H : Hp) (d : PyData) : Prop := EvP te σ H fun v H' => Td H' v d
abbrev EaTd (ta : TA) (σ : L2.St) (H : Hp) (ds : List PyData) : Prop := EaP ta σ H fun vs H' => TdAll H' vs ds
abbrev EaD (K : PySem.W.Frag) (ta : TA) (σ : L2.St) (H : Hp) (ds : List PyData) : Prop := EaP ta σ H fun vs H' => DpAll K H' vs ds
/-- a new list of such data -/
def EvLT (te : TE) (σ : L2.St) (H : Hp) (ds : List PyData) : Prop := ∀ H1, Ex H H1 → ∀ Q : VK, (∀ p H2, H1 p = none → Ex H1 H2 → LstT H2 p ds → Q (.ref p) H2) → te σ H1 Q
section
variable {K : PySem.W.Frag} {σ : L2.St} {H H' : Hp} {ta tb te tx : TE} {t u : TT} {x y z v : V} {r : R2} {tr : TA} {D : Ends} {tu tw tz : TS} {P P' : V → Hp → Prop} {d : PyData} {ds : List PyData}
theorem EvP.mono (e : Ex H H') (h : EvP te σ H P) : EvP te σ H' P := fun H1 e1 => h H1 (e.trans e1)
theorem EvLT.mono (e : Ex H H') (h : EvLT te σ H ds) : EvLT te σ H' ds := fun H1 e1 => h H1 (e.trans e1)
theorem EvP.imp (h : EvP te σ H P) (k : ∀ v H2, Ex H H2 → P v H2 → P' v H2) : EvP te σ H P' := fun H1 e Q q => h H1 e Q fun v H2 e2 p => q v H2 e2 (k v H2 (e.trans e2) p)
theorem ep_ev (h : Ev te σ H v) (k : ∀ H2, Ex H H2 → P v H2) : EvP te σ H P := fun H1 e Q q => h H1 e Q fun H2 e2 => q v H2 e2 (k H2 (e.trans e2))
theorem td_int {i : Int} (h : Ev te σ H (.int i)) : EvTd te σ H (.int i) := ep_ev h fun _ _ => .int i
theorem td_non (h : Ev te σ H .non) : EvTd te σ H .none := ep_ev h fun _ _ => .non
theorem td_bl {b : Bool} (h : Ev te σ H (.bl b)) : EvTd te σ H (.bool b) := ep_ev h fun _ _ => .bl b
theorem td_str {b : Str} (h : Ev te σ H (.str b)) : EvTd te σ H (.str b) := ep_ev h fun _ _ => .str b
theorem td_any (h : Ev te σ H v) (t : Td H v d) : EvTd te σ H d := ep_ev h fun _ e => t.ex e
theorem ed_any (h : Ev te σ H v) (t : Dp K H v d) : EvD K te σ H d := ep_ev h fun _ e => dp_ex e t
theorem ed_td (h : EvTd te σ H d) : EvD K te σ H d := h.imp fun _ _ _ t => t.dp
theorem ev_of_td {i : Int} (h : EvTd te σ H (.int i)) : Ev te σ H (.int i) := fun H1 e Q q => h H1 e Q fun v H2 e2 p => by rw [td_int_inv p]; exact q H2 e2
theorem ev_of_ed {i : Int} (h : EvD K te σ H (.int i)) : Ev te σ H (.int i) := fun H1 e Q q => h H1 e Q fun v H2 e2 p => by rw [dp_int_inv p]; exact q H2 e2
theorem ed_lt (h : EvLT te σ H ds) : EvD K te σ H (.list ds) := fun H1 e Q q => h H1 e Q fun p H2 _ e2 l => q _ H2 e2 l.dp
theorem ea_tn : EaTd tNil σ H [] := fun H1 e Q q => q [] H1 (Ex.refl H1) .nil
theorem ea_tc (h : EvTd te σ H d) (hr : EaTd tr σ H ds) : EaTd (tCons te tr) σ H (d :: ds) := fun H1 e Q q => h H1 e _ fun v H2 e2 p => hr H2 (e.trans e2) _ fun vs H3 e3 ps => q _ H3 (e2.trans e3) (.cons (p.ex e3) ps)
theorem ea_dn : EaD K tNil σ H [] := fun H1 e Q q => q [] H1 (Ex.refl H1) .nil
theorem ea_dc (h : EvD K te σ H d) (hr : EaD K tr σ H ds) : EaD K (tCons te tr) σ H (d :: ds) := fun H1 e Q q => h H1 e _ fun v H2 e2 p => hr H2 (e.trans e2) _ fun vs H3 e3 ps => q _ H3 (e2.trans e3) (.cons (dp_ex e3 p) ps)
theorem td_tup (h : EaTd tr σ H ds) (hl : ds.length ≤ 100000) : EvTd (tTup tr) σ H (.tuple ds) := fun H1 e Q q => h H1 e _ fun vs H2 e2 p => ⟨sz_of (by rw [p.len]; exact hl), fun a na => q _ _ (e2.trans (Ex.new na)) (.tup upd_same (p.ex (Ex.new na)))⟩
theorem ed_tup (h : EaD K tr σ H ds) (hl : ds.length ≤ 100000) : EvD K (tTup tr) σ H (.tuple ds) := fun H1 e Q q => h H1 e _ fun vs H2 e2 p => ⟨sz_of (by rw [dpAll_len p]; exact hl), fun a na => q _ _ (e2.trans (Ex.new na)) (.tup (SqT.of upd_same) (dpAll_ex (Ex.new na) p))⟩
theorem lt_lst (h : EaTd tr σ H ds) (hl : ds.length ≤ 100000) : EvLT (tLst tr) σ H ds := fun H1 e Q q => h H1 e _ fun vs H2 e2 p => ⟨sz_of (by rw [p.len]; exact hl), fun a na => q _ _ (fresh_back e2 na) (e2.trans (Ex.new na)) ⟨vs, upd_same, p.ex (Ex.new na)⟩⟩
theorem ed_lst (h : EaD K tr σ H ds) (hl : ds.length ≤ 100000) : EvD K (tLst tr) σ H (.list ds) := fun H1 e Q q => h H1 e _ fun vs H2 e2 p => ⟨sz_of (by rw [dpAll_len p]; exact hl), fun a na => q _ _ (e2.trans (Ex.new na)) (.lst (SqL.of upd_same) (dpAll_ex (Ex.new na) p))⟩
/-! ### items -/
theorem td_ixT {i : Int} (ha : EvTd ta σ H (.tuple ds)) (hb : Ev tb σ H (.int i)) (h : atI ds i = some d) : EvTd (tOp (rIxT K) ta tb) σ H d := fun H1 e Q q => ha H1 e _ fun v H2 e2 p => hb H2 (e.trans e2) _ fun H3 e3 => by
  cases p with
  | tup ho hd =>
    rename_i xs
    obtain ⟨j, h1, h2, h3, _⟩ := atI_get h
    obtain ⟨w, h4, h5⟩ := hd.get h2
    refine ⟨_, xs, i, w, rfl, rfl, SqT.of (e3 _ _ ho), ?_, q w H3 (e2.trans e3) (h5.ex e3)⟩
    have : atI xs i = some w := by
      unfold atI at h ⊢
      rw [hd.len]
      cases e5 : ixN ds.length i with
      | none => rw [e5] at h; cases h
      | some k =>
        have hk := (ixN_seq e5).1
        rw [hk] at h1
        cases h1
        exact h4
    exact this
theorem ed_ixT {i : Int} (ha : EvD K ta σ H (.tuple ds)) (hb : Ev tb σ H (.int i)) (h : atI ds i = some d) : EvD K (tOp (rIxT K) ta tb) σ H d := fun H1 e Q q => ha H1 e _ fun v H2 e2 p => hb H2 (e.trans e2) _ fun H3 e3 => by
  cases p with
  | tup ho hd =>
    rename_i xs
    obtain ⟨j, h1, h2, h3, _⟩ := atI_get h
    obtain ⟨w, h4, h5⟩ := dpAll_get hd h2
    refine ⟨_, xs, i, w, rfl, rfl, ex_t e3 ho, ?_, q w H3 (e2.trans e3) (dp_ex e3 h5)⟩
    have : atI xs i = some w := by
      unfold atI at h ⊢
      rw [dpAll_len hd]
      cases e5 : ixN ds.length i with
      | none => rw [e5] at h; cases h
      | some k =>
        have hk := (ixN_seq e5).1
        rw [hk] at h1
        cases h1
        exact h4
    exact this
theorem ed_ixL {i : Int} (ha : EvD K ta σ H (.list ds)) (hb : Ev tb σ H (.int i)) (h : atI ds i = some d) : EvD K (tOp (rIxL K) ta tb) σ H d := fun H1 e Q q => ha H1 e _ fun v H2 e2 p => hb H2 (e.trans e2) _ fun H3 e3 => by
  cases p with
  | lst ho hd =>
    rename_i xs
    obtain ⟨j, h1, h2, h3, _⟩ := atI_get h
    obtain ⟨w, h4, h5⟩ := dpAll_get hd h2
    refine ⟨_, xs, i, w, rfl, rfl, ex_l e3 ho, ?_, q w H3 (e2.trans e3) (dp_ex e3 h5)⟩
    have : atI xs i = some w := by
      unfold atI at h ⊢
      rw [dpAll_len hd]
      cases e5 : ixN ds.length i with
      | none => rw [e5] at h; cases h
      | some k =>
        have hk := (ixN_seq e5).1
        rw [hk] at h1
        cases h1
        exact h4
    exact this
theorem td_ixL {i : Int} (ha : EvLT ta σ H ds) (hb : Ev tb σ H (.int i)) (h : atI ds i = some d) : EvTd (tOp (rIxL K) ta tb) σ H d := fun H1 e Q q => ha H1 e _ fun pp H2 _ e2 p => hb H2 (e.trans e2) _ fun H3 e3 => by
  obtain ⟨xs, ho, hd⟩ := p
  obtain ⟨j, h1, h2, h3, _⟩ := atI_get h
  obtain ⟨w, h4, h5⟩ := hd.get h2
  refine ⟨_, xs, i, w, rfl, rfl, SqL.of (e3 _ _ ho), ?_, q w H3 (e2.trans e3) (h5.ex e3)⟩
  have : atI xs i = some w := by
    unfold atI at h ⊢
    rw [hd.len]
    cases e5 : ixN ds.length i with
    | none => rw [e5] at h; cases h
    | some k =>
      have hk := (ixN_seq e5).1
      rw [hk] at h1
      cases h1
      exact h4
  exact this
/-! ### == and in, of data -/
theorem ev_eqD {e : PyData} (ha : EvD K ta σ H d) (hb : EvD K tb σ H e) (h1 : SeqAt.shaped d = true) (h2 : SeqAt.shaped e = true) : Ev (tOp (rEqD K) ta tb) σ H (.bl (PyData.eqv d e)) := fun H1 x Q q => ha H1 x _ fun v H2 x2 p => hb H2 (x.trans x2) _ fun w H3 x3 p2 => ⟨d, e, dp_ex x3 p, p2, h1, h2, q H3 (x2.trans x3)⟩
theorem ev_neD {e : PyData} (ha : EvD K ta σ H d) (hb : EvD K tb σ H e) (h1 : SeqAt.shaped d = true) (h2 : SeqAt.shaped e = true) : Ev (tOp (rNeD K) ta tb) σ H (.bl (!PyData.eqv d e)) := fun H1 x Q q => ha H1 x _ fun v H2 x2 p => hb H2 (x.trans x2) _ fun w H3 x3 p2 => ⟨d, e, dp_ex x3 p, p2, h1, h2, q H3 (x2.trans x3)⟩
theorem ev_inD {es : List PyData} (ha : EvD K ta σ H d) (hb : EvD K tb σ H (.list es)) (h1 : SeqAt.shaped d = true) (h2 : SeqAt.shaped (.list es) = true) : Ev (tOp (rInD K) ta tb) σ H (.bl (es.any fun z => PyData.eqv z d)) := fun H1 x Q q => ha H1 x _ fun v H2 x2 p => hb H2 (x.trans x2) _ fun w H3 x3 p2 => ⟨d, es, dp_ex x3 p, p2, h1, h2, q H3 (x2.trans x3)⟩
theorem ev_niD {es : List PyData} (ha : EvD K ta σ H d) (hb : EvD K tb σ H (.list es)) (h1 : SeqAt.shaped d = true) (h2 : SeqAt.shaped (.list es) = true) : Ev (tOp (rNotInD K) ta tb) σ H (.bl (!es.any fun z => PyData.eqv z d)) := fun H1 x Q q => ha H1 x _ fun v H2 x2 p => hb H2 (x.trans x2) _ fun w H3 x3 p2 => ⟨d, es, dp_ex x3 p, p2, h1, h2, q H3 (x2.trans x3)⟩
/-- an int in a tuple or list of ints -/
theorem inV_int (i : Int) : ∀ ns : List Int, inV (.int i) (ns.map V.int) = decide (i ∈ ns)
  | [] => by simp [inV]
  | n :: r => by
    have h := inV_int i r
    have e0 : inV (.int i) ((n :: r).map V.int) = ((n == i) || inV (.int i) (r.map V.int)) := rfl
    rw [e0, h]
    by_cases e : n = i
    · subst e; simp
    · have e2 : (n == i) = false := beq_false_of_ne e
      have e3 : ¬ i = n := fun z => e z.symm
      simp [e2, e3]
theorem flat_ints : ∀ ns : List Int, (ns.map V.int).all flatV = true
  | [] => rfl
  | _ :: r => by simp [flatV, flat_ints r]
theorem ev_inI {i : Int} {ns : List Int} (ha : Ev ta σ H (.int i)) (hb : EvD K tb σ H (.tuple (ns.map PyData.int)) ∨ EvD K tb σ H (.list (ns.map PyData.int))) : Ev (tOp (rIn K false) ta tb) σ H (.bl (decide (i ∈ ns))) := fun H1 x Q q => ha H1 x _ fun H2 x2 => by
  rcases hb with hb | hb
  · refine hb H2 (x.trans x2) _ fun w H3 x3 p2 => ?_
    cases p2 with
    | tup ho hd =>
      rename_i xs
      have e := dpAll_ints hd
      subst e
      refine ⟨_, _, rfl, .inr ho, rfl, flat_ints ns, ?_⟩
      show Q (.bl (inV (.int i) (ns.map V.int))) H3
      rw [inV_int]
      exact q H3 (x2.trans x3)
  · refine hb H2 (x.trans x2) _ fun w H3 x3 p2 => ?_
    cases p2 with
    | lst ho hd =>
      rename_i xs
      have e := dpAll_ints hd
      subst e
      refine ⟨_, _, rfl, .inl ho, rfl, flat_ints ns, ?_⟩
      show Q (.bl (inV (.int i) (ns.map V.int))) H3
      rw [inV_int]
      exact q H3 (x2.trans x3)
theorem ev_niI {i : Int} {ns : List Int} (ha : Ev ta σ H (.int i)) (hb : EvD K tb σ H (.tuple (ns.map PyData.int)) ∨ EvD K tb σ H (.list (ns.map PyData.int))) : Ev (tOp (rIn K true) ta tb) σ H (.bl (!decide (i ∈ ns))) := fun H1 x Q q => ha H1 x _ fun H2 x2 => by
  rcases hb with hb | hb
  · refine hb H2 (x.trans x2) _ fun w H3 x3 p2 => ?_
    cases p2 with
    | tup ho hd =>
      rename_i xs
      have e := dpAll_ints hd
      subst e
      refine ⟨_, _, rfl, .inr ho, rfl, flat_ints ns, ?_⟩
      show Q (.bl (!inV (.int i) (ns.map V.int))) H3
      rw [inV_int]
      exact q H3 (x2.trans x3)
  · refine hb H2 (x.trans x2) _ fun w H3 x3 p2 => ?_
    cases p2 with
    | lst ho hd =>
      rename_i xs
      have e := dpAll_ints hd
      subst e
      refine ⟨_, _, rfl, .inl ho, rfl, flat_ints ns, ?_⟩
      show Q (.bl (!inV (.int i) (ns.map V.int))) H3
      rw [inV_int]
      exact q H3 (x2.trans x3)
/-! ### built-ins -/
theorem ev_lenD (ha : EvD K ta σ H d) (h : d = .list ds ∨ d = .tuple ds) : Ev (tCB (fun xs H Q => ∃ p ys, xs = [.ref p] ∧ (SqL K H p ys ∨ SqT K H p ys) ∧ Q (.int ys.length) H) (tCons ta tNil)) σ H (.int (ds.length : Int)) := fun H1 x Q q => ha H1 x _ fun v H2 x2 p => by
  rcases h with rfl | rfl
  · cases p with
    | lst ho hd =>
      rename_i a xs
      refine ⟨a, xs, rfl, .inl ho, ?_⟩
      rw [dpAll_len hd]
      exact q H2 x2
  · cases p with
    | tup ho hd =>
      rename_i a xs
      refine ⟨a, xs, rfl, .inr ho, ?_⟩
      rw [dpAll_len hd]
      exact q H2 x2
theorem ev_lenS {a : Addr} {xs : List V} (ha : Ev ta σ H (.ref a)) (h : SqL K H a xs) : Ev (tCB (fun xs H Q => ∃ p ys, xs = [.ref p] ∧ (SqL K H p ys ∨ SqT K H p ys) ∧ Q (.int ys.length) H) (tCons ta tNil)) σ H (.int (xs.length : Int)) := fun H1 x Q q => ha H1 x _ fun H2 x2 => ⟨a, xs, rfl, .inl (ex_l (x.trans x2) h), q H2 x2⟩
/-- tuple(x) of data without lists -/
theorem td_tupleL (ha : EvLT ta σ H ds) : EvTd (tCB (fun xs H Q => ∃ p ys, xs = [.ref p] ∧ ((SqL K H p ys ∧ ∀ l, H l = none → Q (.ref l) (upd H l (.tup ys))) ∨ (SqT K H p ys ∧ Q (.ref p) H))) (tCons ta tNil)) σ H (.tuple ds) := fun H1 x Q q => ha H1 x _ fun p H2 _ x2 ⟨xs, ho, hd⟩ =>
  ⟨p, xs, rfl, .inl ⟨SqL.of ho, fun l hl => q _ _ (x2.trans (Ex.new hl)) (.tup upd_same (hd.ex (Ex.new hl)))⟩⟩
theorem td_tupleV {a : Addr} (ha : Ev ta σ H (.ref a)) (h : LstT H a ds) : EvTd (tCB (fun xs H Q => ∃ p ys, xs = [.ref p] ∧ ((SqL K H p ys ∧ ∀ l, H l = none → Q (.ref l) (upd H l (.tup ys))) ∨ (SqT K H p ys ∧ Q (.ref p) H))) (tCons ta tNil)) σ H (.tuple ds) := fun H1 x Q q => ha H1 x _ fun H2 x2 => by
  obtain ⟨xs, ho, hd⟩ := h.ex (x.trans x2)
  exact ⟨a, xs, rfl, .inl ⟨SqL.of ho, fun l hl => q _ _ (x2.trans (Ex.new hl)) (.tup upd_same (hd.ex (Ex.new hl)))⟩⟩
theorem lt_list {a : Addr} (ha : Ev ta σ H (.ref a)) (h : LstT H a ds) : EvLT (tCB (fun xs H Q => ∃ p ys, xs = [.ref p] ∧ (SqL K H p ys ∨ SqT K H p ys) ∧ ∀ l, H l = none → Q (.ref l) (upd H l (.lst ys))) (tCons ta tNil)) σ H ds := fun H1 x Q q => ha H1 x _ fun H2 x2 => by
  obtain ⟨xs, ho, hd⟩ := h.ex (x.trans x2)
  exact ⟨a, xs, rfl, .inl (SqL.of ho), fun l hl => q _ _ (fresh_back x2 hl) (x2.trans (Ex.new hl)) ⟨xs, upd_same, hd.ex (Ex.new hl)⟩⟩
theorem ev_abs {i : Int} (ha : Ev ta σ H (.int i)) : Ev (tCB (fun xs H Q => ∃ i, xs = [.int i] ∧ Q (.int (if i < 0 then -i else i)) H) (tCons ta tNil)) σ H (.int (if i < 0 then -i else i)) := fun H1 x Q q => ha H1 x _ fun H2 x2 => ⟨i, rfl, q H2 x2⟩
theorem ev_isN (ha : Ev ta σ H x) : Ev (tOp (fun x y H Q => y = .non ∧ Q (.bl (decide (x = .non))) H) ta (tC .non)) σ H (.bl (decide (x = .non))) := fun H1 e Q q => ha H1 e _ fun H2 e2 => ⟨rfl, q H2 e2⟩
theorem ev_notN (ha : Ev ta σ H x) : Ev (tOp (fun x y H Q => y = .non ∧ Q (.bl (!decide (x = .non))) H) ta (tC .non)) σ H (.bl (!decide (x = .non))) := fun H1 e Q q => ha H1 e _ fun H2 e2 => ⟨rfl, q H2 e2⟩
theorem rv_isN : RV (fun x y H Q => y = .non ∧ Q (.bl (decide (x = .non))) H) x .non H (.bl (decide (x = .non))) := fun H1 e Q q => ⟨rfl, q H1 (Ex.refl H1)⟩
theorem rv_notN : RV (fun x y H Q => y = .non ∧ Q (.bl (!decide (x = .non))) H) x .non H (.bl (!decide (x = .non))) := fun H1 e Q q => ⟨rfl, q H1 (Ex.refl H1)⟩
theorem rv_eqI {i j : Int} : RV rEq (.int i) (.int j) H (.bl (decide (i = j))) := fun H1 e Q q => ⟨rfl, by
  have e2 : decide (V.int i = V.int j) = decide (i = j) := by simp
  rw [e2]
  exact q H1 (Ex.refl H1)⟩
theorem rv_neI {i j : Int} : RV rNe (.int i) (.int j) H (.bl (!decide (i = j))) := fun H1 e Q q => ⟨rfl, by
  have e2 : decide (V.int i = V.int j) = decide (i = j) := by simp
  rw [e2]
  exact q H1 (Ex.refl H1)⟩
/-! ### calls -/
theorem ta_cons {Q : List V → Hp → Prop} (h : ta σ H fun x H1 => tr σ H1 fun xs H2 => Q (x :: xs) H2) : tCons ta tr σ H Q := h
theorem ep_call {sp : Sp} {dvs : List V} {E : XK} {tr : TA} {Pa : List V → Hp → Prop} (h : EaP tr σ H Pa) (hs : ∀ vs H1, Ex H H1 → Pa vs H1 → ∀ Q : VK, (∀ v H2, Ex H1 H2 → P v H2 → Q v H2) → sp (vs ++ dvs) H1 Q E) : EvP (tCall sp dvs E tr) σ H P := fun H1 e Q q => h H1 e _ fun vs H2 e2 p => hs vs H2 (e.trans e2) p Q fun v H3 e3 p3 => q v H3 (e2.trans e3) p3
theorem ev_call0 {sp : Sp} {vs : List V} {E : XK} {tr : TA} (h : EvA tr σ H vs) (hs : SpV sp vs H z) : Ev (tCall sp [] E tr) σ H z := ev_call h (by rw [List.append_nil]; exact hs)
theorem ep_call0 {sp : Sp} {E : XK} {tr : TA} {Pa : List V → Hp → Prop} (h : EaP tr σ H Pa) (hs : ∀ vs H1, Ex H H1 → Pa vs H1 → ∀ Q : VK, (∀ v H2, Ex H1 H2 → P v H2 → Q v H2) → sp vs H1 Q E) : EvP (tCall sp [] E tr) σ H P :=
  ep_call h fun vs H1 e p Q q => by rw [List.append_nil]; exact hs vs H1 e p Q q
theorem ea_ep1 (h : EvP te σ H P) : EaP (tCons te tNil) σ H (fun vs H' => ∃ v, vs = [v] ∧ P v H') := fun H1 e Q q => h H1 e _ fun v H2 e2 p => q [v] H2 e2 ⟨v, rfl, p⟩
/-! ### statements -/
theorem tif_cases {b : Bool} (h : EvT t σ H b) (h1 : b = true → ∀ H1, Ex H H1 → tu D σ H1) (h2 : b = false → ∀ H1, Ex H H1 → tw D σ H1) : tIfS t tu tw D σ H := s_if h h1 h2
theorem s_asgP {i : Nat} (h : EvP te σ H P) (k : ∀ v H1, Ex H H1 → P v H1 → D.nx (σ.set i (some v)) H1) : tAsg te (gName i) D σ H := h H (Ex.refl H) _ fun v H1 e p => k v H1 e p
theorem q_asgP {i : Nat} (h : EvP te σ H P) (k : ∀ v H1, Ex H H1 → P v H1 → tz D (σ.set i (some v)) H1) : tSeq (tAsg te (gName i)) tz D σ H := h H (Ex.refl H) _ fun v H1 e p => k v H1 e p
theorem s_asgLT {i : Nat} (h : EvLT te σ H ds) (k : ∀ p H1, H p = none → Ex H H1 → LstT H1 p ds → D.nx (σ.set i (some (.ref p))) H1) : tAsg te (gName i) D σ H := h H (Ex.refl H) _ fun v H1 n e p => k v H1 n e p
theorem q_asgLT {i : Nat} (h : EvLT te σ H ds) (k : ∀ p H1, H p = none → Ex H H1 → LstT H1 p ds → tz D (σ.set i (some (.ref p))) H1) : tSeq (tAsg te (gName i)) tz D σ H := h H (Ex.refl H) _ fun v H1 n e p => k v H1 n e p
theorem s_retP (h : EvP te σ H P) (k : ∀ v H1, Ex H H1 → P v H1 → D.rt v H1) : tRet te D σ H := h H (Ex.refl H) _ fun v H1 e p => k v H1 e p
theorem s_retLT (h : EvLT te σ H ds) (k : ∀ p H1, H p = none → Ex H H1 → LstT H1 p ds → D.rt (.ref p) H1) : tRet te D σ H := h H (Ex.refl H) _ fun v H1 n e p => k v H1 n e p
theorem s_appT {l : Addr} (hl : LstT H l ds) (ha : Ev ta σ H (.ref l)) (h : EvTd te σ H d) (hz : ds.length < 100000) (k : ∀ H1 xs v, Ex H H1 → H1 l = some (.lst xs) → LstT (upd H1 l (.lst (xs ++ [v]))) l (ds ++ [d]) → D.nx σ (upd H1 l (.lst (xs ++ [v])))) :
    tDrop (tBM K "list" rAppend ta (tCons te tNil)) D σ H := by
  obtain ⟨xs, ho, hd⟩ := hl
  refine ha H (Ex.refl H) _ fun H1 e1 => ⟨Or.inl ⟨rfl, xs, sq_of (e1 l _ ho)⟩, h H1 e1 _ fun v H2 e2 p => ⟨l, xs, v, rfl, rfl, e2 l _ (e1 l _ ho), sz_lt (by rw [hd.len]; exact hz), ?_⟩⟩
  exact k H2 xs v (e1.trans e2) (e2 l _ (e1 l _ ho)) (LstT.push (e2 l _ (e1 l _ ho)) (hd.ex (e1.trans e2)) p)
theorem q_appT {l : Addr} (hl : LstT H l ds) (ha : Ev ta σ H (.ref l)) (h : EvTd te σ H d) (hz : ds.length < 100000) (k : ∀ H1 xs v, Ex H H1 → H1 l = some (.lst xs) → LstT (upd H1 l (.lst (xs ++ [v]))) l (ds ++ [d]) → tz D σ (upd H1 l (.lst (xs ++ [v])))) :
    tSeq (tDrop (tBM K "list" rAppend ta (tCons te tNil))) tz D σ H := s_appT (D := { D with nx := tz D }) hl ha h hz k
/-! ### comprehensions whose items are such data -/
def Ct (H : Hp) (f : Nat → Bool) (v : Nat → PyData) (Dl : Addr) (i : Nat) (H' : Hp) : Prop := H Dl = none ∧ Ex H H' ∧ LstT H' Dl (((List.range i).filter f).map v)
theorem len_filt (f : Nat → Bool) (v : Nat → PyData) (n : Nat) : (((List.range n).filter f).map v).length ≤ n := by
  rw [List.length_map]
  exact Nat.le_trans (List.length_filter_le _ _) (by simp)
theorem filt_yes {f : Nat → Bool} {v : Nat → PyData} {n : Nat} (h : f n = true) : ((List.range (n + 1)).filter f).map v = ((List.range n).filter f).map v ++ [v n] := by
  rw [List.range_succ, List.filter_append, List.map_append]
  simp [h]
theorem filt_no {f : Nat → Bool} {v : Nat → PyData} {n : Nat} (h : f n = false) : ((List.range (n + 1)).filter f).map v = ((List.range n).filter f).map v := by
  rw [List.range_succ, List.filter_append, List.map_append]
  simp [h]
theorem ct_turn {f : Nat → Bool} {v : Nat → PyData} {Dl : Addr} {i : Nat} {σ2 : L2.St} (p : Ct H f v Dl i H') (hi : i < 50000) (ht : EvT t σ2 H (f i)) (he : f i = true → EvTd te σ2 H (v i)) :
    t σ2 H' fun b H3 => if b = true then te σ2 H3 fun y H4 => ∃ acc, H4 Dl = some (.lst acc) ∧ acc.length < sizeLine ∧ Ct H f v Dl (i + 1) (upd H4 Dl (.lst (acc ++ [y]))) else Ct H f v Dl (i + 1) H3 := by
  obtain ⟨p1, p2, xs, p3, p4⟩ := p
  refine ht H' p2 _ fun H3 e3 => ?_
  cases hf : f i with
  | true =>
    show te σ2 H3 fun y H4 => ∃ acc, H4 Dl = some (.lst acc) ∧ acc.length < sizeLine ∧ Ct H f v Dl (i + 1) (upd H4 Dl (.lst (acc ++ [y])))
    refine he hf H3 (p2.trans e3) _ fun y H4 e4 q4 => ⟨xs, e4 Dl _ (e3 Dl _ p3), sz_lt (by have := len_filt f v i; rw [p4.len]; omega), p1, Ex.mut ((p2.trans e3).trans e4) p1, ?_⟩
    rw [filt_yes hf]
    exact LstT.push (e4 Dl _ (e3 Dl _ p3)) (p4.ex (e3.trans e4)) q4
  | false =>
    show Ct H f v Dl (i + 1) H3
    refine ⟨p1, p2.trans e3, ?_⟩
    rw [filt_no hf]
    exact ⟨xs, e3 Dl _ p3, p4.ex e3⟩
theorem lt_lcR1 {tr : TA} {j : Nat} {vs : List Nat} {n : Int} (f : Nat → Bool) (v : Nat → PyData) (h : EvA tr σ H [.int n]) (hn : n ≤ 40000) (hw : ∀ x, wipe ((wipe σ vs).set j (some x)) vs = wipe σ vs)
    (ht : ∀ (i : Nat) H1, Ex H H1 → (i : Int) < n → EvT t ((wipe σ vs).set j (some (.int (i : Int)))) H1 (f i)) (he : ∀ (i : Nat) H1, Ex H H1 → (i : Int) < n → f i = true → EvTd te ((wipe σ vs).set j (some (.int (i : Int)))) H1 (v i)) (hn0 : -100000 ≤ n := by omega) :
    EvLT (tLc (iRng1 tr) (gName j) t te vs) σ H (((List.range n.toNat).filter f).map v) := fun H0 e Q q => h H0 e _ fun H1 e1 => ⟨n, rfl, by omega, by omega, fun Dl hD =>
  lc_range (lo := 0) (n := n.toNat) (Ct H1 f v Dl) ⟨hD, Ex.new hD, ⟨[], upd_same, .nil⟩⟩ (fun i H' hi p => by
    have e0 : (0 : Int) + (i : Int) = (i : Int) := Int.zero_add _
    show wipe ((wipe σ vs).set j (some (.int ((0 : Int) + (i : Int))))) vs = wipe σ vs ∧ t ((wipe σ vs).set j (some (.int ((0 : Int) + (i : Int))))) H' fun b H3 => if b = true then te ((wipe σ vs).set j (some (.int ((0 : Int) + (i : Int))))) H3 fun y H4 => ∃ acc, H4 Dl = some (.lst acc) ∧ acc.length < sizeLine ∧ Ct H1 f v Dl (i + 1) (upd H4 Dl (.lst (acc ++ [y]))) else Ct H1 f v Dl (i + 1) H3
    rw [e0]
    exact ⟨hw _, ct_turn p (by omega) (ht i H1 (e.trans e1) (by omega)) (fun hf => he i H1 (e.trans e1) (by omega) hf)⟩) (fun H' p => q Dl H' (fresh_back e1 p.1) (e1.trans p.2.1) p.2.2)⟩
theorem lt_lcR2 {tr : TA} {j : Nat} {vs : List Nat} {lo n : Int} (f : Nat → Bool) (v : Nat → PyData) (h : EvA tr σ H [.int lo, .int n]) (hn : 0 ≤ lo ∧ lo ≤ 100000 ∧ -100000 ≤ n ∧ n ≤ 40000) (hw : ∀ x, wipe ((wipe σ vs).set j (some x)) vs = wipe σ vs)
    (ht : ∀ (i : Nat) H1, Ex H H1 → lo + (i : Int) < n → EvT t ((wipe σ vs).set j (some (.int (lo + (i : Int))))) H1 (f i)) (he : ∀ (i : Nat) H1, Ex H H1 → lo + (i : Int) < n → f i = true → EvTd te ((wipe σ vs).set j (some (.int (lo + (i : Int))))) H1 (v i)) :
    EvLT (tLc (iRng2 tr) (gName j) t te vs) σ H (((List.range (n - lo).toNat).filter f).map v) := fun H0 e Q q => h H0 e _ fun H1 e1 => ⟨lo, n, rfl, ⟨by omega, by omega, by omega, by omega⟩, fun Dl hD =>
  lc_range (lo := lo) (n := (n - lo).toNat) (Ct H1 f v Dl) ⟨hD, Ex.new hD, ⟨[], upd_same, .nil⟩⟩ (fun i H' hi p =>
    ⟨hw _, ct_turn p (by omega) (ht i H1 (e.trans e1) (by omega)) (fun hf => he i H1 (e.trans e1) (by omega) hf)⟩) (fun H' p => q Dl H' (fresh_back e1 p.1) (e1.trans p.2.1) p.2.2)⟩
end
section
variable {K : PySem.W.Frag} {σ : L2.St} {H H' : Hp} {ta tb te tx : TE} {t u : TT} {x y z v : V} {r : R2} {tr : TA} {D : Ends} {tu tw tz : TS} {P P' : V → Hp → Prop} {d : PyData} {ds : List PyData}
theorem filt_all {n : Nat} (v : Nat → PyData) : ((List.range n).filter fun _ => true).map v = (List.range n).map v := by rw [List.filter_eq_self.mpr (fun _ _ => rfl)]
theorem et_yes0 : EvT tYes σ H true := fun H1 _ Q q => q H1 (Ex.refl H1)
theorem lt_mapR1 {j : Nat} {vs : List Nat} {n : Int} (v : Nat → PyData) (h : EvA tr σ H [.int n]) (hn : n ≤ 40000) (hw : ∀ x, wipe ((wipe σ vs).set j (some x)) vs = wipe σ vs)
    (he : ∀ (i : Nat) H1, Ex H H1 → (i : Int) < n → EvTd te ((wipe σ vs).set j (some (.int (i : Int)))) H1 (v i)) (hn0 : -100000 ≤ n := by omega) :
    EvLT (tLc (iRng1 tr) (gName j) tYes te vs) σ H ((List.range n.toNat).map v) := by
  have h2 := lt_lcR1 (t := tYes) (te := te) (fun _ => true) v h hn hw (fun _ _ _ _ => et_yes0) (fun i H1 e hi _ => he i H1 e hi) hn0
  rw [filt_all] at h2
  exact h2
theorem lt_mapR2 {j : Nat} {vs : List Nat} {lo n : Int} (v : Nat → PyData) (h : EvA tr σ H [.int lo, .int n]) (hn : 0 ≤ lo ∧ lo ≤ 100000 ∧ -100000 ≤ n ∧ n ≤ 40000) (hw : ∀ x, wipe ((wipe σ vs).set j (some x)) vs = wipe σ vs)
    (he : ∀ (i : Nat) H1, Ex H H1 → lo + (i : Int) < n → EvTd te ((wipe σ vs).set j (some (.int (lo + (i : Int))))) H1 (v i)) :
    EvLT (tLc (iRng2 tr) (gName j) tYes te vs) σ H ((List.range (n - lo).toNat).map v) := by
  have h2 := lt_lcR2 (t := tYes) (te := te) (fun _ => true) v h hn hw (fun _ _ _ _ => et_yes0) (fun i H1 e hi _ => he i H1 e hi)
  rw [filt_all] at h2
  exact h2
theorem atI_getD {i : Int} (h0 : 0 ≤ i) (h1 : i < (ds.length : Int)) : atI ds i = some (ds.getD i.toNat .none) := by
  have hl : i.toNat < ds.length := by omega
  have := at0 (ds := ds) (j := i.toNat) (d := ds.getD i.toNat .none) (by rw [List.getD_eq_getElem?_getD, List.getElem?_eq_getElem hl]; rfl)
  rw [show ((i.toNat : Nat) : Int) = i by omega] at this
  exact this
/-- an item of a written list of ints -/
theorem ev_ixInts {xs : List Int} {i : Int} (h : EaTd tr σ H (xs.map PyData.int)) (hb : Ev tb σ H (.int i)) (h0 : 0 ≤ i) (h1 : i < (xs.length : Int)) (hl : xs.length ≤ 100000 := by first | decide | simp) : Ev (tOp (rIxL K) (tLst tr) tb) σ H (.int (xs.getD i.toNat 0)) := by
  refine ev_of_td (td_ixL (lt_lst h (by rw [List.length_map]; exact hl)) hb ?_)
  have hl2 : i.toNat < xs.length := by omega
  have := at0 (ds := xs.map PyData.int) (j := i.toNat) (d := .int (xs.getD i.toNat 0)) (by rw [List.getElem?_map, List.getD_eq_getElem?_getD, List.getElem?_eq_getElem hl2]; rfl)
  rw [show ((i.toNat : Nat) : Int) = i by omega] at this
  exact this
theorem ev_callP {sp : Sp} {E : XK} {Pa : List V → Hp → Prop} (h : EaP tr σ H Pa) (hs : ∀ vs H1, Ex H H1 → Pa vs H1 → SpV sp vs H1 z) : Ev (tCall sp [] E tr) σ H z := fun H1 e Q q => h H1 e _ fun vs H2 e2 p => by
  show sp (vs ++ []) H2 Q E
  rw [List.append_nil]
  exact hs vs H2 (e.trans e2) p H2 (Ex.refl H2) Q (fun H3 e3 => q H3 (e2.trans e3)) E
/-- arguments, one by one -/
theorem dpAll1 {vs : List V} {d : PyData} (h : DpAll K H vs [d]) : ∃ v, vs = [v] ∧ Dp K H v d := by
  cases h with | cons a b => cases b; exact ⟨_, rfl, a⟩
theorem dpAll2 {vs : List V} {d e : PyData} (h : DpAll K H vs [d, e]) : ∃ v u, vs = [v, u] ∧ Dp K H v d ∧ Dp K H u e := by
  cases h with | cons a b => cases b with | cons b c => cases c; exact ⟨_, _, rfl, a, b⟩
theorem dpAll3 {vs : List V} {d e f : PyData} (h : DpAll K H vs [d, e, f]) : ∃ v u x, vs = [v, u, x] ∧ Dp K H v d ∧ Dp K H u e ∧ Dp K H x f := by
  cases h with | cons a b => cases b with | cons b c => cases c with | cons c d => cases d; exact ⟨_, _, _, rfl, a, b, c⟩
theorem dpAll4 {vs : List V} {d e f g : PyData} (h : DpAll K H vs [d, e, f, g]) : ∃ v u x y, vs = [v, u, x, y] ∧ Dp K H v d ∧ Dp K H u e ∧ Dp K H x f ∧ Dp K H y g := by
  cases h with | cons a b => cases b with | cons b c => cases c with | cons c d => cases d with | cons d e => cases e; exact ⟨_, _, _, _, rfl, a, b, c, d⟩
theorem ed_int {i : Int} (h : Ev te σ H (.int i)) : EvD K te σ H (.int i) := ep_ev h fun _ _ => .int i
end
section
variable {K : PySem.W.Frag} {σ : L2.St} {H H' : Hp} {ta tb te tx : TE} {D : Ends} {tz : TS} {d : PyData} {ds es : List PyData}
theorem TdAll.set {v : V} (h : Td H v d) : ∀ {ds : List PyData} {vs : List V} (j : Nat), TdAll H vs ds → TdAll H (vs.set j v) (ds.set j d)
  | [], _, _, .nil => .nil
  | _ :: _, _, 0, .cons _ b => .cons h b
  | _ :: _, _, j + 1, .cons a b => .cons a (TdAll.set h j b)
/-- xs[j] = e -/
theorem s_setT {l : Addr} {i : Int} {j : Nat} (hl : LstT H l ds) (h : EvTd te σ H d) (ho : Ev ta σ H (.ref l)) (hi : Ev tb σ H (.int i)) (ei : i = (j : Int)) (hj : j < ds.length) (k : ∀ H1 xs v, Ex H H1 → H1 l = some (.lst xs) → LstT (upd H1 l (.lst (xs.set j v))) l (ds.set j d) → D.nx σ (upd H1 l (.lst (xs.set j v)))) :
    tAsg te (gSub ta tb rSetL) D σ H := by
  obtain ⟨xs, hx, hd⟩ := hl
  subst ei
  refine h H (Ex.refl H) _ fun v H1 e1 p => ho H1 e1 _ fun H2 e2 => hi H2 (e1.trans e2) _ fun H3 e3 => ?_
  have e13 := (e1.trans e2).trans e3
  have hx3 := e13 _ _ hx
  refine ⟨l, xs, (j : Int), j, rfl, rfl, hx3, ixN_nat (by rw [hd.len]; exact hj), k H3 xs v e13 hx3 ⟨_, upd_same, ?_⟩⟩
  exact TdAll.upd hx3 (TdAll.set (p.ex (e2.trans e3)) j (hd.ex e13))
theorem q_setT {l : Addr} {i : Int} {j : Nat} (hl : LstT H l ds) (h : EvTd te σ H d) (ho : Ev ta σ H (.ref l)) (hi : Ev tb σ H (.int i)) (ei : i = (j : Int)) (hj : j < ds.length) (k : ∀ H1 xs v, Ex H H1 → H1 l = some (.lst xs) → LstT (upd H1 l (.lst (xs.set j v))) l (ds.set j d) → tz D σ (upd H1 l (.lst (xs.set j v)))) :
    tSeq (tAsg te (gSub ta tb rSetL)) tz D σ H := s_setT (D := { D with nx := tz D }) hl h ho hi ei hj k
/-- list + list -/
theorem lt_cat {l : Addr} (ha : Ev ta σ H (.ref l)) (hl : LstT H l ds) (hb : EvLT tb σ H es) (hz : ds.length + es.length ≤ 100000) : EvLT (tOp rCat ta tb) σ H (ds ++ es) := fun H1 e Q q => ha H1 e _ fun H2 e2 => hb H2 (e.trans e2) _ fun p H3 np e3 hp => by
  obtain ⟨xs, hx, hd⟩ := hl.ex ((e.trans e2).trans e3)
  obtain ⟨ys, hy, he⟩ := hp
  refine ⟨l, p, xs, ys, rfl, rfl, hx, hy, sz_of (by rw [hd.len, he.len]; exact hz), fun r nr => q r _ (fresh_back (e2.trans e3) nr) ((e2.trans e3).trans (Ex.new nr)) ⟨_, upd_same, (TdAll.append hd he).ex (Ex.new nr)⟩⟩
theorem lt_cat2 (ha : EvLT ta σ H ds) (hb : EvLT tb σ H es) (hz : ds.length + es.length ≤ 100000) : EvLT (tOp rCat ta tb) σ H (ds ++ es) := fun H1 e Q q => ha H1 e _ fun l H2 nl e2 hl => hb H2 (e.trans e2) _ fun p H3 np e3 hp => by
  obtain ⟨xs, hx, hd⟩ := hl.ex e3
  obtain ⟨ys, hy, he⟩ := hp
  refine ⟨l, p, xs, ys, rfl, rfl, hx, hy, sz_of (by rw [hd.len, he.len]; exact hz), fun r nr => q r _ (fresh_back (e2.trans e3) nr) ((e2.trans e3).trans (Ex.new nr)) ⟨_, upd_same, (TdAll.append hd he).ex (Ex.new nr)⟩⟩
end
section
variable {K : PySem.W.Frag} {σ : L2.St} {H H' : Hp} {ta tb te tx tl : TE} {D : Ends} {tz tu : TS} {d : PyData} {ds es : List PyData} {tr : TA} {g : TG}
/-! ### loops over data -/
theorem s_forD (h : EvD K tl σ H (.list ds)) (Pv : Hp → Nat → L2.St → Hp → Prop) (h0 : ∀ H1, Ex H H1 → Pv H1 0 σ H1) (hx : ∀ H1 i σ' H', Pv H1 i σ' H' → Ex H1 H')
    (hs : ∀ H1, Ex H H1 → ∀ i d x σ' H', ds[i]? = some d → Dp K H' x d → Pv H1 i σ' H' → g x σ' H' fun σ2 H2 => tu { D with nx := Pv H1 (i + 1), ct := Pv H1 (i + 1), bk := D.nx } σ2 H2)
    (hd : ∀ H1, Ex H H1 → ∀ σ' H', Pv H1 ds.length σ' H' → D.nx σ' H') : tFor (iList K tl) g tu D σ H := by
  refine h H (Ex.refl H) _ fun v H1 e1 p => ?_
  cases p with
  | lst ho hda =>
    rename_i a xs
    have hlen := dpAll_len hda
    refine ⟨a, rfl, ⟨xs, ho⟩, for_list (K := K) (a := a) (xs := xs) (Pv H1) (h0 H1 e1) (fun i σ' H' _ p => ex_l (hx H1 i σ' H' p) ho) (fun i x σ' H' hx' p => ?_) (fun σ' H' p => hd H1 e1 σ' H' (by rw [← hlen]; exact p))⟩
    obtain ⟨d, hd1, hd2⟩ := dpAll_getV hda hx'
    exact hs H1 e1 i d x σ' H' hd1 (dp_ex (hx H1 i σ' H' p) hd2) p
theorem s_forU (h : EvD K tl σ H (.tuple ds)) (Pv : Hp → Nat → L2.St → Hp → Prop) (h0 : ∀ H1, Ex H H1 → Pv H1 0 σ H1) (hx : ∀ H1 i σ' H', Pv H1 i σ' H' → Ex H1 H')
    (hs : ∀ H1, Ex H H1 → ∀ i d x σ' H', ds[i]? = some d → Dp K H' x d → Pv H1 i σ' H' → g x σ' H' fun σ2 H2 => tu { D with nx := Pv H1 (i + 1), ct := Pv H1 (i + 1), bk := D.nx } σ2 H2)
    (hd : ∀ H1, Ex H H1 → ∀ σ' H', Pv H1 ds.length σ' H' → D.nx σ' H') : tFor (iTup K tl) g tu D σ H := by
  refine h H (Ex.refl H) _ fun v H1 e1 p => ?_
  cases p with
  | tup ho hda =>
    rename_i a xs
    have hlen := dpAll_len hda
    refine ⟨a, rfl, ⟨xs, ho⟩, for_tup (K := K) (a := a) (xs := xs) (Pv H1) (h0 H1 e1) (fun i σ' H' _ p => ex_t (hx H1 i σ' H' p) ho) (fun i x σ' H' hx' p => ?_) (fun σ' H' p => hd H1 e1 σ' H' (by rw [← hlen]; exact p))⟩
    obtain ⟨d, hd1, hd2⟩ := dpAll_getV hda hx'
    exact hs H1 e1 i d x σ' H' hd1 (dp_ex (hx H1 i σ' H' p) hd2) p
theorem q_forD (h : EvD K tl σ H (.list ds)) (Pv : Hp → Nat → L2.St → Hp → Prop) (h0 : ∀ H1, Ex H H1 → Pv H1 0 σ H1) (hx : ∀ H1 i σ' H', Pv H1 i σ' H' → Ex H1 H')
    (hs : ∀ H1, Ex H H1 → ∀ i d x σ' H', ds[i]? = some d → Dp K H' x d → Pv H1 i σ' H' → g x σ' H' fun σ2 H2 => tu { D with nx := Pv H1 (i + 1), ct := Pv H1 (i + 1), bk := tz D } σ2 H2)
    (hd : ∀ H1, Ex H H1 → ∀ σ' H', Pv H1 ds.length σ' H' → tz D σ' H') : tSeq (tFor (iList K tl) g tu) tz D σ H := s_forD (D := { D with nx := tz D }) h Pv h0 hx hs hd
theorem q_forU (h : EvD K tl σ H (.tuple ds)) (Pv : Hp → Nat → L2.St → Hp → Prop) (h0 : ∀ H1, Ex H H1 → Pv H1 0 σ H1) (hx : ∀ H1 i σ' H', Pv H1 i σ' H' → Ex H1 H')
    (hs : ∀ H1, Ex H H1 → ∀ i d x σ' H', ds[i]? = some d → Dp K H' x d → Pv H1 i σ' H' → g x σ' H' fun σ2 H2 => tu { D with nx := Pv H1 (i + 1), ct := Pv H1 (i + 1), bk := tz D } σ2 H2)
    (hd : ∀ H1, Ex H H1 → ∀ σ' H', Pv H1 ds.length σ' H' → tz D σ' H') : tSeq (tFor (iTup K tl) g tu) tz D σ H := s_forU (D := { D with nx := tz D }) h Pv h0 hx hs hd
/-! ### a call whose value is dropped; arguments of data -/
theorem s_dropC {sp : Sp} {E : XK} (h : EaD K tr σ H ds) (k : ∀ vs H1, Ex H H1 → DpAll K H1 vs ds → sp vs H1 (fun _ H2 => D.nx σ H2) E) : tDrop (tCall sp [] E tr) D σ H := h H (Ex.refl H) _ fun vs H1 e1 p => by
  show sp (vs ++ []) H1 _ E
  rw [List.append_nil]
  exact k vs H1 e1 p
theorem q_dropC {sp : Sp} {E : XK} (h : EaD K tr σ H ds) (k : ∀ vs H1, Ex H H1 → DpAll K H1 vs ds → sp vs H1 (fun _ H2 => tz D σ H2) E) : tSeq (tDrop (tCall sp [] E tr)) tz D σ H := s_dropC (D := { D with nx := tz D }) h k
/-- x = f(..) -/
theorem s_asgC {sp : Sp} {E : XK} {i : Nat} (h : EaD K tr σ H ds) (k : ∀ vs H1, Ex H H1 → DpAll K H1 vs ds → sp vs H1 (fun v H2 => D.nx (σ.set i (some v)) H2) E) : tAsg (tCall sp [] E tr) (gName i) D σ H := h H (Ex.refl H) _ fun vs H1 e1 p => by
  show sp (vs ++ []) H1 _ E
  rw [List.append_nil]
  exact k vs H1 e1 p
theorem q_asgC {sp : Sp} {E : XK} {i : Nat} (h : EaD K tr σ H ds) (k : ∀ vs H1, Ex H H1 → DpAll K H1 vs ds → sp vs H1 (fun v H2 => tz D (σ.set i (some v)) H2) E) : tSeq (tAsg (tCall sp [] E tr) (gName i)) tz D σ H := s_asgC (D := { D with nx := tz D }) h k
theorem s_retC {sp : Sp} {E : XK} (h : EaD K tr σ H ds) (k : ∀ vs H1, Ex H H1 → DpAll K H1 vs ds → sp vs H1 D.rt E) : tRet (tCall sp [] E tr) D σ H := h H (Ex.refl H) _ fun vs H1 e1 p => by
  show sp (vs ++ []) H1 _ E
  rw [List.append_nil]
  exact k vs H1 e1 p
/-! ### slices of tuples -/
theorem dpAll_drop : ∀ {ds : List PyData} {vs : List V} (n : Nat), DpAll K H vs ds → DpAll K H (vs.drop n) (ds.drop n)
  | _, _, 0, h => h
  | [], _, n + 1, .nil => .nil
  | _ :: _, _, n + 1, .cons _ b => dpAll_drop n b
theorem dpAll_take : ∀ {ds : List PyData} {vs : List V} (n : Nat), DpAll K H vs ds → DpAll K H (vs.take n) (ds.take n)
  | _, _, 0, _ => by simp only [List.take_zero]; exact .nil
  | [], _, n + 1, .nil => .nil
  | _ :: _, _, n + 1, .cons a b => .cons a (dpAll_take n b)
def cutD (ds : List PyData) (lo hi : Option Int) : List PyData := (ds.drop (HT.sIx ds.length 0 lo)).take (HT.sIx ds.length ds.length hi - HT.sIx ds.length 0 lo)
theorem ed_slU {lo hi : Option Int} {t1 t2 : TO} (h : EvD K te σ H (.tuple ds)) (h1 : EvO t1 σ H lo) (h2 : EvO t2 σ H hi) : EvD K (tSl (rSlA K) te t1 t2) σ H (.tuple (cutD ds lo hi)) := fun H1 e Q q => h H1 e _ fun v H2 e2 p => h1 H2 (e.trans e2) _ fun H3 e3 => h2 H3 ((e.trans e2).trans e3) _ fun H4 e4 => by
  have p4 := dp_ex (e3.trans e4) p
  have e24 := (e2.trans e3).trans e4
  cases p4 with
  | tup ho hd =>
    rename_i a xs
    have hlen := dpAll_len hd
    refine ⟨a, xs, rfl, ho, fun hw => ?_, fun hw r nr => ?_⟩
    · have ec : cutD ds lo hi = ds := by
        unfold cutD
        rw [← hlen, hw.1, hw.2, List.drop_zero, hlen, Nat.sub_zero, List.take_length]
      exact q _ H4 e24 (by rw [ec]; exact .tup ho hd)
    · refine q _ _ (e24.trans (Ex.new nr)) (.tup (SqT.of upd_same) ?_)
      unfold cutD cutV
      rw [hlen]
      exact dpAll_ex (Ex.new nr) (dpAll_take _ (dpAll_drop _ hd))
/-! ### xs.count(True) of a list of truth values -/
theorem td_bls : ∀ bs : List Bool, TdAll H (bs.map V.bl) (bs.map PyData.bool)
  | [] => .nil
  | b :: r => .cons (.bl b) (td_bls r)
theorem tdAll_bls : ∀ {bs : List Bool} {vs : List V}, TdAll H vs (bs.map PyData.bool) → vs = bs.map V.bl
  | [], _, .nil => rfl
  | b :: r, _, .cons h q => by
    cases h
    rw [tdAll_bls q]
    rfl
theorem count_bls (bs : List Bool) : (bs.map V.bl).countP (fun z => eqV z (.bl true)) = bs.countP id := by
  induction bs with
  | nil => rfl
  | cons b r ih =>
    rw [List.map_cons, List.countP_cons, List.countP_cons, ih]
    cases b <;> rfl
theorem flat_bls : ∀ bs : List Bool, (bs.map V.bl).all flatV = true
  | [] => rfl
  | _ :: r => by simp [flatV, flat_bls r]
theorem ev_countT {l : Addr} {bs : List Bool} (ha : Ev ta σ H (.ref l)) (hl : LstT H l (bs.map PyData.bool)) : Ev (tBM K "list" (rCntF K) ta (tCons (tC (.bl true)) tNil)) σ H (.int (bs.countP id : Nat)) := fun H1 e Q q => ha H1 e _ fun H2 e2 => by
  obtain ⟨xs, hx, hd⟩ := hl.ex (e.trans e2)
  have ex := tdAll_bls hd
  subst ex
  refine ⟨.inl ⟨rfl, _, SqL.of hx⟩, l, _, _, rfl, rfl, SqL.of hx, rfl, flat_bls bs, ?_⟩
  rw [count_bls]
  exact q H2 e2
end
section
variable {K : PySem.W.Frag} {σ : L2.St} {H H' : Hp} {ta tb te : TE} {d : PyData} {ds : List PyData}
theorem lt_listU (ha : EvTd ta σ H (.tuple ds)) : EvLT (tCB (fun xs H Q => ∃ p ys, xs = [.ref p] ∧ (SqL K H p ys ∨ SqT K H p ys) ∧ ∀ l, H l = none → Q (.ref l) (upd H l (.lst ys))) (tCons ta tNil)) σ H ds := fun H1 x Q q => ha H1 x _ fun v H2 x2 p => by
  cases p with
  | tup ho hd =>
    rename_i a xs
    exact ⟨a, xs, rfl, .inr (SqT.of ho), fun l hl => q _ _ (fresh_back x2 hl) (x2.trans (Ex.new hl)) ⟨xs, upd_same, hd.ex (Ex.new hl)⟩⟩
theorem td_ixLV {l : Addr} {i : Int} (ha : Ev ta σ H (.ref l)) (hl : LstT H l ds) (hb : Ev tb σ H (.int i)) (h : atI ds i = some d) : EvTd (tOp (rIxL K) ta tb) σ H d := fun H1 e Q q => ha H1 e _ fun H2 e2 => hb H2 (e.trans e2) _ fun H3 e3 => by
  obtain ⟨xs, ho, hd⟩ := hl.ex ((e.trans e2).trans e3)
  obtain ⟨j, h1, h2, h3, _⟩ := atI_get h
  obtain ⟨w, h4, h5⟩ := hd.get h2
  refine ⟨_, xs, i, w, rfl, rfl, SqL.of ho, ?_, q w H3 (e2.trans e3) h5⟩
  have : atI xs i = some w := by
    unfold atI at h ⊢
    rw [hd.len]
    cases e5 : ixN ds.length i with
    | none => rw [e5] at h; cases h
    | some k =>
      have hk := (ixN_seq e5).1
      rw [hk] at h1
      cases h1
      exact h4
  exact this
theorem LstT.upd_ne {l p : Addr} {xs : List V} {o : HO} (h : LstT H p ds) (hl : H l = some (.lst xs)) (ne : p ≠ l) : LstT (L2.upd H l o) p ds := by
  obtain ⟨ys, a, b⟩ := h
  exact ⟨ys, by rw [L2.upd_ne ne]; exact a, b.upd hl⟩
theorem ev_inW {i : Int} {ns : List Int} (ha : Ev ta σ H (.int i)) (hb : EvTd tb σ H (.tuple (ns.map PyData.int))) : Ev (tOp (rIn K false) ta tb) σ H (.bl (decide (i ∈ ns))) := ev_inI ha (.inl (ed_td hb))
theorem ev_niW {i : Int} {ns : List Int} (ha : Ev ta σ H (.int i)) (hb : EvTd tb σ H (.tuple (ns.map PyData.int))) : Ev (tOp (rIn K true) ta tb) σ H (.bl (!decide (i ∈ ns))) := ev_niI ha (.inl (ed_td hb))
end
section
variable {K : PySem.W.Frag} {σ : L2.St} {H H' : Hp} {ta tb te : TE} {d : PyData} {ds : List PyData} {tr : TA} {v : V} {P : V → Hp → Prop} {R : List V → Hp → Prop}
/-! ### arguments and tuples, part by part -/
theorem ea_pn (h : ∀ H1, Ex H H1 → R [] H1) : EaP tNil σ H R := fun H1 e Q q => q [] H1 (Ex.refl H1) (h H1 e)
theorem ea_pc (h : EvP te σ H P) (k : ∀ v H1, Ex H H1 → P v H1 → EaP tr σ H1 (fun vs H' => R (v :: vs) H')) : EaP (tCons te tr) σ H R := fun H1 e Q q => h H1 e _ fun v H2 e2 p => k v H2 (e.trans e2) p H2 (Ex.refl H2) _ fun vs H3 e3 r => q _ H3 (e2.trans e3) r
theorem ea_pv (h : Ev te σ H v) (k : ∀ H1, Ex H H1 → EaP tr σ H1 (fun vs H' => R (v :: vs) H')) : EaP (tCons te tr) σ H R := fun H1 e Q q => h H1 e _ fun H2 e2 => k H2 (e.trans e2) H2 (Ex.refl H2) _ fun vs H3 e3 r => q _ H3 (e2.trans e3) r
theorem ea_pl (h : EvLT te σ H ds) (k : ∀ p H1, Ex H H1 → H p = none → LstT H1 p ds → EaP tr σ H1 (fun vs H' => R (.ref p :: vs) H')) : EaP (tCons te tr) σ H R := fun H1 e Q q => h H1 e _ fun p H2 np e2 r => k p H2 (e.trans e2) (fresh_back e np) r H2 (Ex.refl H2) _ fun vs H3 e3 r => q _ H3 (e2.trans e3) r
theorem ep_tupP (h : EaP tr σ H R) (hl : ∀ vs H', R vs H' → vs.length ≤ 100000) : EvP (tTup tr) σ H (fun v H' => ∃ p vs H0, v = .ref p ∧ H' p = some (.tup vs) ∧ Ex H H0 ∧ Ex H0 H' ∧ R vs H0) := fun H1 e Q q => h H1 e _ fun vs H2 e2 r => ⟨sz_of (hl vs H2 r), fun p np => q _ _ (e2.trans (Ex.new np)) ⟨p, vs, H2, rfl, upd_same, e.trans e2, Ex.new np, r⟩⟩
end
theorem et_yes {σ : L2.St} {H : Hp} : EvT tYes σ H true := fun H1 _ Q q => q H1 (Ex.refl H1)
end Mz
namespace Mz
open PySem PySem.Spec PyProof.Rows L2 Evl
def topS (i : Nat) : Stmt := PySem.Challenge.pw_mazeguide_k11_written.main.body.getD i (.Pass ⟨0, 0, 0, 0⟩)
abbrev s_written : Stmt := topS 1
theorem sc_written : FnScope ["maze", "rows", "door", "row", "lying"] ["maze"] (defScope s_written) := ⟨rfl, rfl, rfl, by decide +kernel, rfl, by decide +kernel, by decide +kernel⟩
abbrev s_l_mix : Stmt := topS 3
theorem sc_l_mix : FnScope ["_law_cell", "_law_k", "_law_number"] ["_law_cell", "_law_k"] (defScope s_l_mix) := ⟨rfl, rfl, rfl, by decide +kernel, rfl, by decide +kernel, by decide +kernel⟩
abbrev s_l_cell_at : Stmt := topS 4
theorem sc_l_cell_at : FnScope ["_law_script", "_law_k"] ["_law_script", "_law_k"] (defScope s_l_cell_at) := ⟨rfl, rfl, rfl, by decide +kernel, rfl, by decide +kernel, by decide +kernel⟩
abbrev s_law : Stmt := topS 5
theorem sc_law : FnScope ["_law_script", "_law_size", "_law_more", "_law_doors", "_law_due", "_law_k", "_law_one", "_law_other", "_law_lock", "_law_lying", "_law_handed", "_law_found"] ["_law_script"] (defScope s_law) := ⟨rfl, rfl, rfl, by decide +kernel, rfl, by decide +kernel, by decide +kernel⟩
structure Txt (K : PySem.W.Frag) (mg : Str → Option Value) : Prop where
  n_int : mg "int" = none
  n_isinstance : mg "isinstance" = none
  n_len : mg "len" = none
  n_list : mg "list" = none
  n_range : mg "range" = none
  n_str : mg "str" = none
  d_written : Dfn K mg "written" s_written ["maze"]
  d_l_mix : Dfn K mg "_law_mix" s_l_mix ["_law_cell", "_law_k"]
  d_l_cell_at : Dfn K mg "_law_cell_at" s_l_cell_at ["_law_script", "_law_k"]
  d_law : Dfn K mg "law" s_law ["_law_script"]
end Mz
namespace Mz
open PySem PySem.Spec PyProof.Rows L2 Evl
/-! ### the tactics of the readings -/
local macro_rules | `(tactic| walk_at "mz side") => `(tactic| first
  | assumption
  | omega
  | decide
  | exact Or.inl ⟨by omega, by omega⟩
  | exact Or.inr ⟨by omega, by omega⟩
  | exact ⟨by omega, by omega⟩
  | exact ⟨by decide, by decide, by decide⟩)
local macro_rules | `(tactic| walk_at "mz ev1") => `(tactic| first
  | exact ev_c
  | exact ev_var rfl
  | with_reducible apply ev_op
  | with_reducible exact rv_I0
  | ((with_reducible refine rv_I ?_); walk_at "mz side")
  | with_reducible exact rv_eqI
  | with_reducible exact rv_neI
  | with_reducible exact rv_isN
  | with_reducible exact rv_notN
  | with_reducible apply ev_un
  | with_reducible exact ru_neg
  | with_reducible apply ev_abs
  | with_reducible apply et_test
  | with_reducible apply et_B
  | with_reducible apply et_not
  | with_reducible apply et_and
  | with_reducible apply et_or
  | with_reducible apply ev_andV
  | with_reducible apply ev_orV
  | with_reducible apply ev_notV
  | with_reducible exact ea_nil
  | with_reducible apply ea_cons
  | with_reducible exact ea_tn
  | with_reducible apply ea_tc
  | with_reducible refine td_tup ?_ (by first | decide | simp)
  | with_reducible exact et_yes
  | ((with_reducible show ((_ : Bool) = (_ : Bool)) → _); intro _))
local macro_rules | `(tactic| walk_at "mz ev") => `(tactic| repeat' walk_at "mz ev1")
/-! ### the data of mazes -/
abbrev Key2 := Int × Int
abbrev Door := Int × Int × Option Int
def lockD : Option Int → PyData
  | none => .none
  | some k => .int k
def doorD (d : Door) : PyData := .tuple [.int d.1, .int d.2.1, lockD d.2.2]
def keyD (k : Key2) : PyData := .tuple [.int k.1, .int k.2]
def intsD (ns : List Int) : PyData := .tuple (ns.map PyData.int)
mutual
def nb : PyData → Bool
  | .none => true
  | .int _ => true
  | .list xs => nbAll xs
  | .tuple xs => nbAll xs
  | _ => false
def nbAll : List PyData → Bool
  | [] => true
  | x :: xs => nb x && nbAll xs
end
mutual
theorem nb_lay : ∀ d : PyData, nb d = true → d.canLay0 = true
  | .none, _ => by simp only [PyData.canLay0]
  | .int _, _ => by simp only [PyData.canLay0]
  | .bool _, h => by simp [nb] at h
  | .str _, h => by simp [nb] at h
  | .dict _, h => by simp [nb] at h
  | .list xs, h => by simp only [PyData.canLay0]; exact nb_layAll xs (by simpa only [nb] using h)
  | .tuple xs, h => by simp only [PyData.canLay0]; exact nb_layAll xs (by simpa only [nb] using h)
theorem nb_layAll : ∀ ds : List PyData, nbAll ds = true → PyData.canLayAll0 ds = true
  | [], _ => by simp only [PyData.canLayAll0]
  | x :: xs, h => by
    simp only [nbAll, Bool.and_eq_true] at h
    simp only [PyData.canLayAll0, Bool.and_eq_true]
    exact ⟨nb_lay x h.1, nb_layAll xs h.2⟩
end
mutual
theorem eqv_nb : ∀ d e : PyData, nb d = true → nb e = true → (PyData.eqv d e = true ↔ d = e)
  | .none, .none, _, _ => by simp [PyData.eqv]
  | .none, .int _, _, _ => by simp [PyData.eqv]
  | .none, .list _, _, _ => by simp [PyData.eqv]
  | .none, .tuple _, _, _ => by simp [PyData.eqv]
  | .int _, .none, _, _ => by simp [PyData.eqv]
  | .int i, .int j, _, _ => by simp [PyData.eqv]
  | .int _, .list _, _, _ => by simp [PyData.eqv]
  | .int _, .tuple _, _, _ => by simp [PyData.eqv]
  | .list _, .none, _, _ => by simp [PyData.eqv]
  | .list _, .int _, _, _ => by simp [PyData.eqv]
  | .list xs, .list ys, h, q => by
    simp only [PyData.eqv, PyData.list.injEq]
    exact eqv_nbAll xs ys (by simpa only [nb] using h) (by simpa only [nb] using q)
  | .list _, .tuple _, _, _ => by simp [PyData.eqv]
  | .tuple _, .none, _, _ => by simp [PyData.eqv]
  | .tuple _, .int _, _, _ => by simp [PyData.eqv]
  | .tuple _, .list _, _, _ => by simp [PyData.eqv]
  | .tuple xs, .tuple ys, h, q => by
    simp only [PyData.eqv, PyData.tuple.injEq]
    exact eqv_nbAll xs ys (by simpa only [nb] using h) (by simpa only [nb] using q)
  | .bool _, _, h, _ => by simp [nb] at h
  | .str _, _, h, _ => by simp [nb] at h
  | .dict _, _, h, _ => by simp [nb] at h
  | .none, .bool _, _, h => by simp [nb] at h
  | .none, .str _, _, h => by simp [nb] at h
  | .none, .dict _, _, h => by simp [nb] at h
  | .int _, .bool _, _, h => by simp [nb] at h
  | .int _, .str _, _, h => by simp [nb] at h
  | .int _, .dict _, _, h => by simp [nb] at h
  | .list _, .bool _, _, h => by simp [nb] at h
  | .list _, .str _, _, h => by simp [nb] at h
  | .list _, .dict _, _, h => by simp [nb] at h
  | .tuple _, .bool _, _, h => by simp [nb] at h
  | .tuple _, .str _, _, h => by simp [nb] at h
  | .tuple _, .dict _, _, h => by simp [nb] at h
theorem eqv_nbAll : ∀ ds es : List PyData, nbAll ds = true → nbAll es = true → (PyData.eqvAll ds es = true ↔ ds = es)
  | [], [], _, _ => by simp [PyData.eqvAll]
  | [], _ :: _, _, _ => by simp [PyData.eqvAll]
  | _ :: _, [], _, _ => by simp [PyData.eqvAll]
  | x :: xs, y :: ys, h, q => by
    simp only [nbAll, Bool.and_eq_true] at h q
    simp only [PyData.eqvAll, Bool.and_eq_true, List.cons.injEq, eqv_nb x y h.1 q.1, eqv_nbAll xs ys h.2 q.2]
end
theorem eqv_self {d : PyData} (h : nb d = true) : PyData.eqv d d = true := (eqv_nb d d h h).mpr rfl
theorem eqv_dec {d e : PyData} {p : Prop} [Decidable p] (h : nb d = true) (q : nb e = true) (k : d = e ↔ p) : PyData.eqv d e = decide p := by
  by_cases c : p
  · rw [decide_eq_true c]
    exact (eqv_nb d e h q).mpr (k.mpr c)
  · rw [decide_eq_false c]
    cases z : PyData.eqv d e with
    | false => rfl
    | true => exact absurd (k.mp ((eqv_nb d e h q).mp z)) c
theorem nbAll_iff : ∀ {ds : List PyData}, nbAll ds = true ↔ ∀ d ∈ ds, nb d = true
  | [] => by simp [nbAll]
  | x :: xs => by simp [nbAll, nbAll_iff (ds := xs)]
theorem nbAll_map {α : Type} {f : α → PyData} (h : ∀ a, nb (f a) = true) (l : List α) : nbAll (l.map f) = true := nbAll_iff.mpr fun d hd => by
  obtain ⟨a, _, rfl⟩ := List.mem_map.mp hd
  exact h a
/-- depth -/
theorem depthAll_le {n : Nat} : ∀ {ds : List PyData}, (∀ d ∈ ds, d.depth ≤ n) → PyData.depthAll ds ≤ n
  | [], _ => by simp [PyData.depthAll]
  | x :: xs, h => by
    have h1 := h x (by simp)
    have h2 := depthAll_le (ds := xs) fun d hd => h d (by simp [hd])
    simp only [PyData.depthAll]
    omega
theorem depth_tuple {n : Nat} {ds : List PyData} (h : ∀ d ∈ ds, d.depth ≤ n) : PyData.depth (.tuple ds) ≤ n + 1 := by
  have := depthAll_le h
  simp only [PyData.depth]
  omega
theorem depth_list {n : Nat} {ds : List PyData} (h : ∀ d ∈ ds, d.depth ≤ n) : PyData.depth (.list ds) ≤ n + 1 := by
  have := depthAll_le h
  simp only [PyData.depth]
  omega
theorem depth_int (i : Int) : PyData.depth (.int i) = 0 := by simp [PyData.depth]
theorem depth_map {α : Type} {n : Nat} {f : α → PyData} (h : ∀ a, (f a).depth ≤ n) (l : List α) : ∀ d ∈ l.map f, d.depth ≤ n := fun d hd => by
  obtain ⟨a, _, rfl⟩ := List.mem_map.mp hd
  exact h a
theorem shaped_of {d : PyData} (h : nb d = true) (k : d.depth ≤ 64) : SeqAt.shaped d = true := by
  show (d.canLay0 && decide (d.depth ≤ 64)) = true
  rw [Bool.and_eq_true]
  exact ⟨nb_lay d h, decide_eq_true k⟩
theorem nb_lock (l : Option Int) : nb (lockD l) = true := by cases l <;> simp [lockD, nb]
theorem nb_door (d : Door) : nb (doorD d) = true := by simp [doorD, nb, nbAll, nb_lock]
theorem nb_key (k : Key2) : nb (keyD k) = true := by simp [keyD, nb, nbAll]
theorem nb_intD (i : Int) : nb (.int i) = true := by simp [nb]
theorem nb_ints (ns : List Int) : nb (intsD ns) = true := by simp only [intsD, nb]; exact nbAll_map nb_intD ns
theorem dep_lock (l : Option Int) : (lockD l).depth = 0 := by cases l <;> simp [lockD, PyData.depth]
theorem dep_door (d : Door) : (doorD d).depth ≤ 1 := by simp [doorD, PyData.depth, PyData.depthAll, dep_lock]
theorem dep_key (k : Key2) : (keyD k).depth ≤ 1 := by simp [keyD, PyData.depth, PyData.depthAll]
theorem dep_ints (ns : List Int) : (intsD ns).depth ≤ 1 := depth_tuple (depth_map (fun i => by simp [PyData.depth]) ns)
theorem sh_key (k : Key2) : SeqAt.shaped (keyD k) = true := shaped_of (nb_key k) (by have := dep_key k; omega)
theorem sh_ints (ns : List Int) : SeqAt.shaped (intsD ns) = true := shaped_of (nb_ints ns) (by have := dep_ints ns; omega)
theorem nb_keys (ks : List Key2) : nb (.list (ks.map keyD)) = true := by simp only [nb]; exact nbAll_map nb_key ks
theorem sh_keys (ks : List Key2) : SeqAt.shaped (.list (ks.map keyD)) = true := shaped_of (nb_keys ks) (by have := depth_list (depth_map dep_key ks); omega)
theorem nb_doors (ks : List Door) : nb (.list (ks.map doorD)) = true := by simp only [nb]; exact nbAll_map nb_door ks
theorem sh_doors (ks : List Door) : SeqAt.shaped (.list (ks.map doorD)) = true := shaped_of (nb_doors ks) (by have := depth_list (depth_map dep_door ks); omega)
theorem keyD_inj {a b : Key2} : keyD a = keyD b ↔ a = b := by
  obtain ⟨a1, a2⟩ := a
  obtain ⟨b1, b2⟩ := b
  simp [keyD]
theorem eqv_key (a b : Key2) : PyData.eqv (keyD a) (keyD b) = decide (a = b) := eqv_dec (nb_key a) (nb_key b) keyD_inj
theorem any_key (k : Key2) : ∀ ks : List Key2, ((ks.map keyD).any fun z => PyData.eqv z (keyD k)) = decide (k ∈ ks)
  | [] => by simp
  | a :: r => by
    have h := any_key k r
    rw [List.map_cons, List.any_cons, h, eqv_key]
    by_cases e : a = k
    · subst e; simp
    · have e2 : ¬ k = a := fun z => e z.symm
      simp [e, e2]
theorem map_inj {α β : Type} {f : α → β} (h : ∀ a b, f a = f b → a = b) : ∀ {l m : List α}, l.map f = m.map f → l = m
  | [], [], _ => rfl
  | [], _ :: _, e => by simp at e
  | _ :: _, [], e => by simp at e
  | a :: l, b :: m, e => by
    simp only [List.map_cons, List.cons.injEq] at e
    rw [h a b e.1, map_inj h e.2]
theorem intsD_inj {a b : List Int} : intsD a = intsD b ↔ a = b := by
  refine ⟨fun e => ?_, fun e => by rw [e]⟩
  simp only [intsD, PyData.tuple.injEq] at e
  exact map_inj (fun a b z => by simpa using z) e
theorem eqv_ints (a b : List Int) : PyData.eqv (intsD a) (intsD b) = decide (a = b) := eqv_dec (nb_ints a) (nb_ints b) intsD_inj
/-- the kinds of which p tells True, ascending -/
def kindsOf (p : Nat → Bool) : List Int := ((List.range 5).filter p).map fun (i : Nat) => (i : Int)
theorem kindsOf_data (p : Nat → Bool) : ((List.range 5).filter p).map (fun (i : Nat) => PyData.int (i : Int)) = (kindsOf p).map PyData.int := by
  unfold kindsOf
  rw [List.map_map]
  rfl
def keysIn (ks : List Key2) (room : Int) : List Int := kindsOf fun i => decide ((room, (i : Int)) ∈ ks)
def takenF (ks : List Key2) (room : Int) (held : List Int) : List Int := kindsOf fun i => decide ((i : Int) ∈ held) || decide ((room, (i : Int)) ∈ ks)
def mazeD (n : Int) (dd : List PyData) (ks : List Key2) : PyData := .tuple [.int n, .list dd, .list (ks.map keyD)]
/-- the room is there -/
abbrev Here (n room : Int) : Prop := 0 ≤ room ∧ room < n
/-- a cell of the script -/
def cellAt (ns : List Int) (k : Int) : Int := if k < ns.length then ns.getD k.toNat 0 else 0

section
variable {P : Program} {w : World} {K : PySem.W.Frag} {mg : Str → Option Value} {base : Heap}
/-! ### isinstance -/
theorem rc_isi {H : Hp} {x c : V} {t u : Value} {b : Bool} (kc : ClsV c u) (ty : ∀ H1, Ex H H1 → TyX K H1 x t) (hk : PySem.W.kitOne K t u = some b) : RC (rIsi K) [x, c] H (.bl b) := fun H1 e Q q => ⟨x, c, t, u, b, rfl, kc, ty H1 e, hk, q H1 (Ex.refl H1)⟩
theorem ty_tup {H : Hp} {v : V} {ds : List PyData} (h : Dp K H v (.tuple ds)) : TyX K H v (.type "tuple") := by
  cases h with
  | tup h _ =>
    rcases h with (h | ⟨o, h⟩) | ⟨o, its, n, h, hc, _⟩
    · exact .base (.tup h)
    · exact .fTuple h
    · exact .kTuple h hc
theorem ty_lst {H : Hp} {v : V} {ds : List PyData} (h : Dp K H v (.list ds)) : TyX K H v (.type "list") := by
  cases h with
  | lst h _ =>
    rcases h with (h | ⟨o, h⟩) | ⟨o, its, n, h, hc, _⟩
    · exact .base (.lst h)
    · exact .base (.frz h)
    · exact .kList h hc
theorem ev_isi {σ : L2.St} {H : Hp} {ta : TE} {v : V} {n m : String} {b : Bool} (h : Ev ta σ H v) (ty : ∀ H1, Ex H H1 → TyX K H1 v (.type n)) (hk : kitB n m = some b) : Ev (tCB (rIsi K) (tCons ta (tCons (tC (.ty m)) tNil))) σ H (.bl b) :=
  ev_cb (ea_cons h (ea_cons ev_c ea_nil)) (rc_isi (.ty m) ty (kit_ty hk))
theorem ev_isiD {σ : L2.St} {H : Hp} {ta : TE} {d : PyData} {n m : String} {b : Bool} (h : EvD K ta σ H d) (ty : ∀ v H1, Ex H H1 → Dp K H1 v d → TyX K H1 v (.type n)) (hk : kitB n m = some b) : Ev (tCB (rIsi K) (tCons ta (tCons (tC (.ty m)) tNil))) σ H (.bl b) := fun H1 e Q q =>
  h H1 e _ fun v H2 e2 p => ⟨v, .ty m, .type n, .type m, b, rfl, .ty m, ty v H2 (e.trans e2) p, kit_ty hk, q H2 e2⟩
theorem ev_isE {st : L2.St} {H : Hp} {ta : TE} {a D : Addr} {c : V} {cv : Value} {b : Bool} (h : Ev ta st H (.ref a)) (hc : ∀ u, L2.RelV c u → u = cv) (hk : PySem.W.kitOne K (.ref D) cv = some b) : Ev (tCB (rIsE K D a) (tCons ta (tCons (tC c) tNil))) st H (.bl b) :=
  ev_cb (ea_cons h (ea_cons ev_c ea_nil)) fun H1 _ Q q => ⟨c, cv, b, rfl, hc, hk, q H1 (Ex.refl H1)⟩
end

def mix (c k : Int) : Int := (c + 7919 * k + 1) * 48271 % 1000003 * ((c + 7919 * k + 1) * 48271 % 1000003) % 999983
theorem mix_pos (c k : Int) : 0 ≤ mix c k := Int.emod_nonneg _ (by decide)
theorem mix_lt (c k : Int) : mix c k < 999983 := Int.emod_lt_of_pos _ (by decide)
def sp_l_mix (K : PySem.W.Frag) : Sp := fun vs H Q _ => ∃ c k : Int, vs = [.int c, .int k] ∧ ∀ H2, Ex H H2 → Q (.int (mix c k)) H2
section
variable {P : Program} {w : World} {K : PySem.W.Frag} {mg : Str → Option Value} {base : Heap}
theorem ok_l_mix (T : Txt K mg) : Kept P w K mg base 1 "_law_mix" ["_law_cell", "_law_k"] (sp_l_mix K) := by
  refine T.d_l_mix.kept sc_l_mix (fun vs H Q E h => ?_) (fun cdv A outer s H vs Q E hr h => ?_)
  · obtain ⟨c, k, rfl, _⟩ := h
    rfl
  · obtain ⟨c, k, rfl, q⟩ := h
    refine ⟨_, (pss_cons (ps_set (i := 2) sc_l_mix.nd rfl (Or.inl rfl) (pe_op op_mod (pe_op op_mul (pe_op op_add (pe_op op_add (pv 0) (pe_op op_mul pe_int (pv 1))) pe_int) pe_int) pe_int))
      (pss_one (ps_ret (pe_op op_mod (pe_op op_mul (pv 2) (pv 2)) pe_int)))), ?_⟩
    refine q_asg (v := .int ((c + 7919 * k + 1) * 48271 % 1000003)) ?_ fun H1 e1 => ?_
    · walk_at "mz ev"
    refine s_ret (v := .int (mix c k)) ?_ fun H2 e2 => q _ (e1.trans e2)
    unfold mix
    walk_at "mz ev"
theorem sv_l_mix {H : Hp} {c k : Int} : SpV (sp_l_mix K) [.int c, .int k] H (.int (mix c k)) := fun H1 e Q q E => ⟨c, k, rfl, q⟩
end

section
variable {P : Program} {w : World} {K : PySem.W.Frag} {mg : Str → Option Value} {base : Heap}
/-! ### a cell of the script -/
def sp_l_cell_at (K : PySem.W.Frag) : Sp := fun vs H Q _ => ∃ (a : Addr) (ns : List Int) (k : Int), vs = [.ref a, .int k] ∧ SqL K H a (ns.map V.int) ∧ 0 ≤ k ∧ ∀ H2, Ex H H2 → Q (.int (cellAt ns k)) H2
theorem ok_l_cell_at (T : Txt K mg) : Kept P w K mg base 1 "_law_cell_at" ["_law_script", "_law_k"] (sp_l_cell_at K) := by
  refine T.d_l_cell_at.kept sc_l_cell_at (fun vs H Q E h => ?_) (fun cdv A outer s H vs Q E hr h => ?_)
  · obtain ⟨a, ns, k, rfl, _⟩ := h
    rfl
  · obtain ⟨a, ns, k, rfl, hS, h0, q⟩ := h
    refine ⟨_, (pss_cons (ps_if (pt_cmpR op_lt (pv 1) (pe_callB (call_len_seq_K (K := K) rfl) (by rfl) T.n_len (by decide +kernel) (pa_cons (pv 0) pa_nil)) (nomark _))
        (pss_one (ps_ret (pe_ix (ix_list_K (K := K) rfl) (pv 0) (pv 1) (fun _ _ => rfl))))
        pss_nil)
      (pss_one (ps_ret pe_int))), ?_⟩
    refine q_when (et_test (ev_op (ev_var rfl) (ev_lenS (ev_var rfl) hS) rv_I0)) (fun hb H1 e1 => ?_) (fun hb H1 e1 => ?_)
    · have hb' : k < (ns.map V.int).length := of_decide_eq_true hb
      rw [List.length_map] at hb'
      have e : (ns.map V.int)[k.toNat]? = some (.int (cellAt ns k)) := by
        have hl : k.toNat < ns.length := by omega
        rw [List.getElem?_map, List.getElem?_eq_getElem hl]
        simp [cellAt, hb', List.getD, List.getElem?_eq_getElem hl]
      refine s_ret (v := .int (cellAt ns k)) (ev_op (ev_var rfl) (ev_var rfl) (rv_ixL (ex_l e1 hS) ?_)) fun H2 e2 => q _ (e1.trans e2)
      exact at_of (by omega) e
    · have hb' : ¬ k < (ns.map V.int).length := of_decide_eq_false hb
      rw [List.length_map] at hb'
      have e : cellAt ns k = 0 := by simp [cellAt, hb']
      refine s_ret (v := .int 0) ev_c fun H2 e2 => ?_
      have := q _ (e1.trans e2)
      rw [e] at this
      exact this
theorem sv_l_cell_at {H : Hp} {a : Addr} {ns : List Int} {k : Int} (hS : SqL K H a (ns.map V.int)) (h0 : 0 ≤ k) : SpV (sp_l_cell_at K) [.ref a, .int k] H (.int (cellAt ns k)) := fun H1 e Q q E => ⟨a, ns, k, rfl, ex_l e hS, h0, q⟩
end

/-! ### of laws -/
section
variable {K : PySem.W.Frag}
theorem cut_ints (ns : List Int) (lo hi : Option Int) : ∃ ms : List Int, cutV (ns.map V.int) lo hi = ms.map V.int ∧ ms.length ≤ ns.length := by
  refine ⟨(ns.drop (HT.sIx ns.length 0 lo)).take (HT.sIx ns.length ns.length hi - HT.sIx ns.length 0 lo), ?_, ?_⟩
  · unfold cutV
    simp [List.map_take, List.map_drop]
  · rw [List.length_take, List.length_drop]
    omega
theorem mod_here {n : Int} (h : 0 < n) (x : Int) : Here n (x % n) := ⟨Int.emod_nonneg _ (by omega), Int.emod_lt_of_pos _ h⟩
def sp_law (K : PySem.W.Frag) : Sp := fun vs H Q _ => ∃ (a : Addr) (ns : List Int), vs = [.ref a] ∧ SqL K H a (ns.map V.int) ∧ ns.length ≤ 63 ∧ ∀ H', Q (.bl true) H'
end

/-! ### texts -/
def ts (i : Int) : Str := Str.ofString (toString i)
theorem sjoin_snoc (sep x : Str) : ∀ {xs : List Str}, xs ≠ [] → Str.join sep (xs ++ [x]) = Str.join sep xs ++ sep ++ x
  | [], h => absurd rfl h
  | [a], _ => rfl
  | a :: b :: r, _ => by
    show a ++ sep ++ Str.join sep ((b :: r) ++ [x]) = a ++ sep ++ Str.join sep (b :: r) ++ sep ++ x
    rw [sjoin_snoc sep x (xs := b :: r) (by simp)]
    simp only [Str.append_assoc]
theorem join_eq (sep : Str) (xs : List Str) : Txt.join sep xs = Str.join sep xs := StrLaws.glued_eq_join sep xs
theorem ts_len {i : Int} (h0 : 0 ≤ i) (h1 : i < 100) : (ts i).length ≤ 2 := by
  have key : ∀ j : Fin 100, (ts ((j.val : Nat) : Int)).length ≤ 2 := by decide +kernel
  have := key ⟨i.toNat, by omega⟩
  rw [show (((⟨i.toNat, by omega⟩ : Fin 100).val : Nat) : Int) = i by show ((i.toNat : Nat) : Int) = i; omega] at this
  exact this
section
variable {K : PySem.W.Frag} {σ : L2.St} {H H' : Hp} {ta tb te : TE} {t : TE} {tss : List TE}
theorem rv_addS {i j : Str} (h : i.length + j.length ≤ 100000) : RV (fun x y H Q => ∃ i j, x = .str i ∧ y = .str j ∧ i.length + j.length ≤ sizeLine ∧ Q (.str (i ++ j)) H) (.str i) (.str j) H (.str (i ++ j)) := fun H1 e Q q => ⟨i, j, rfl, rfl, sz_of h, q H1 (Ex.refl H1)⟩
theorem log_small {i : Int} (h : i.natAbs < 2 ^ 1000) : i.natAbs.log2 < 1920 := by
  by_cases h0 : i.natAbs = 0
  · rw [h0]; decide
  · exact Nat.lt_trans ((Nat.log2_lt h0).mpr h) (by decide)
theorem small100 {i : Int} (h0 : 0 ≤ i) (h1 : i < 100) : i.natAbs < 2 ^ 1000 := Nat.lt_of_lt_of_le (show i.natAbs < 2 ^ 7 by omega) (Nat.pow_le_pow_right (by decide) (by decide))
theorem ev_strI {i : Int} (h : Ev ta σ H (.int i)) (hz : i.natAbs < 2 ^ 1000) : Ev (tCB (fun xs H Q => ∃ i, xs = [.int i] ∧ i.natAbs.log2 < 1920 ∧ Q (.str (toString i)) H) (tCons ta tNil)) σ H (.str (ts i)) := fun H1 e Q q => h H1 e _ fun H2 e2 => ⟨i, rfl, log_small hz, q H2 e2⟩
theorem ev_fmtI {i : Int} (h : Ev te σ H (.int i)) (hz : i.natAbs < 2 ^ 1000) : Ev (tFmt te) σ H (.str (ts i)) := fun H1 e Q q => h H1 e _ fun H2 e2 => .inr ⟨i, rfl, log_small hz, q H2 e2⟩
def EvJ (tss : List TE) (acc : Str) (σ : L2.St) (H : Hp) (out : Str) : Prop := ∀ H1, Ex H H1 → ∀ Q : Str → Hp → Prop, (∀ H2, Ex H1 H2 → Q out H2) → tJs tss acc σ H1 Q
theorem ej_nil {acc : Str} : EvJ [] acc σ H acc := fun H1 e Q q => q H1 (Ex.refl H1)
theorem ej_cons {acc y out : Str} (h : Ev t σ H (.str y)) (hz : (acc ++ y).length ≤ 100000) (r : EvJ tss (acc ++ y) σ H out) : EvJ (t :: tss) acc σ H out := fun H1 e Q q => h H1 e _ fun H2 e2 => ⟨y, rfl, sz_of hz, r H2 (e.trans e2) _ fun H3 e3 => q H3 (e2.trans e3)⟩
theorem ev_joined {out : Str} (h : EvJ tss Str.empty σ H out) : Ev (fun σ H Q => tJs tss Str.empty σ H fun out H1 => Q (.str out) H1) σ H (.str out) := fun H1 e Q q => h H1 e _ fun H2 e2 => q H2 e2
theorem td_strs : ∀ ns : List Str, TdAll H (ns.map V.str) (ns.map PyData.str)
  | [] => .nil
  | n :: r => .cons (.str n) (td_strs r)
theorem tdAll_strs : ∀ {ns : List Str} {vs : List V}, TdAll H vs (ns.map PyData.str) → vs = ns.map V.str
  | [], _, .nil => rfl
  | n :: r, _, .cons h q => by
    cases h
    rw [tdAll_strs q]
    rfl
theorem dpAll_strs : ∀ {ns : List Str} {vs : List V}, DpAll K H vs (ns.map PyData.str) → vs = ns.map V.str
  | [], _, .nil => rfl
  | n :: r, _, .cons h q => by
    cases h
    rw [dpAll_strs q]
    rfl
theorem ev_of_tdS {x : Str} (h : EvTd te σ H (.str x)) : Ev te σ H (.str x) := fun H1 e Q q => h H1 e Q fun v H2 e2 p => by cases p; exact q H2 e2
theorem ev_of_edS {x : Str} (h : EvD K te σ H (.str x)) : Ev te σ H (.str x) := fun H1 e Q q => h H1 e Q fun v H2 e2 p => by cases p; exact q H2 e2
end
def rowD (d : Door) : Str := ("door " : Str) ++ ts d.1 ++ (" " : Str) ++ ts d.2.1 ++ (match d.2.2 with
  | none => Str.empty
  | some k => (" by " : Str) ++ ts k)
def rowK (k : Key2) : Str := ("key " : Str) ++ ts k.2 ++ (" in " : Str) ++ ts k.1
def rowsF (n : Int) (ds : List Door) (ks : List Key2) : List Str := (("rooms " : Str) ++ ts n) :: (ds.map rowD ++ ks.map rowK)

/-! ### data of a heap that stands below -/
section
variable {K : PySem.W.Frag} {σ : L2.St} {H H' H0 : Hp} {ta tb te tl : TE} {t : TT} {tu tz : TS} {D : Ends} {g : TG} {d : PyData} {ds : List PyData} {v : V} {tr : TA}
theorem ev_of_tdN (h : EvTd te σ H .none) : Ev te σ H .non := fun H1 e Q q => h H1 e Q fun v H2 e2 p => by cases p; exact q H2 e2
theorem ev_of_edN (h : EvD K te σ H .none) : Ev te σ H .non := fun H1 e Q q => h H1 e Q fun v H2 e2 p => by cases p; exact q H2 e2
theorem atI_len {α β : Type} {xs : List α} {ys : List β} (hl : xs.length = ys.length) {i : Int} {y : β} {j : Nat} (h : atI ys i = some y) (h1 : ixN ys.length i = some j) {x : α} (hx : xs[j]? = some x) : atI xs i = some x := by
  unfold atI
  rw [hl, h1]
  exact hx
/-- an item of data that stands -/
theorem dp_item {i : Int} (h : Dp K H0 v (.tuple ds)) (hi : atI ds i = some d) : ∃ u, Dp K H0 u d ∧ ∀ {ta tb : TE} {σ : L2.St} {H : Hp}, Ex H0 H → Ev ta σ H v → Ev tb σ H (.int i) → Ev (tOp (rIxT K) ta tb) σ H u := by
  cases h with
  | tup ho hd =>
    rename_i a xs
    obtain ⟨j, h1, h2, h3, _⟩ := atI_get hi
    obtain ⟨w, h4, h5⟩ := dpAll_get hd h2
    have hat : atI xs i = some w := by
      unfold atI at hi ⊢
      rw [dpAll_len hd]
      cases e5 : ixN ds.length i with
      | none => rw [e5] at hi; cases hi
      | some k =>
        have hk := (ixN_seq e5).1
        rw [hk] at h1
        cases h1
        exact h4
    exact ⟨w, h5, fun e h1 h2 => ev_op h1 h2 (rv_ixT (ex_t e ho) hat)⟩
theorem dp_itemL {i : Int} (h : Dp K H0 v (.list ds)) (hi : atI ds i = some d) : ∃ u, Dp K H0 u d ∧ ∀ {ta tb : TE} {σ : L2.St} {H : Hp}, Ex H0 H → Ev ta σ H v → Ev tb σ H (.int i) → Ev (tOp (rIxL K) ta tb) σ H u := by
  cases h with
  | lst ho hd =>
    rename_i a xs
    obtain ⟨j, h1, h2, h3, _⟩ := atI_get hi
    obtain ⟨w, h4, h5⟩ := dpAll_get hd h2
    have hat : atI xs i = some w := by
      unfold atI at hi ⊢
      rw [dpAll_len hd]
      cases e5 : ixN ds.length i with
      | none => rw [e5] at hi; cases hi
      | some k =>
        have hk := (ixN_seq e5).1
        rw [hk] at h1
        cases h1
        exact h4
    exact ⟨w, h5, fun e h1 h2 => ev_op h1 h2 (rv_ixL (ex_l e ho) hat)⟩
/-- loops over it -/
theorem s_forV (h : Ev tl σ H v) (hv : Dp K H0 v (.list ds)) (e0 : Ex H0 H) (Pv : Nat → L2.St → Hp → Prop) (h0 : ∀ H1, Ex H H1 → Pv 0 σ H1) (hx : ∀ i σ' H', Pv i σ' H' → Ex H0 H')
    (hs : ∀ i d x σ' H', ds[i]? = some d → Dp K H0 x d → Pv i σ' H' → g x σ' H' fun σ2 H2 => tu { D with nx := Pv (i + 1), ct := Pv (i + 1), bk := D.nx } σ2 H2)
    (hd : ∀ σ' H', Pv ds.length σ' H' → D.nx σ' H') : tFor (iList K tl) g tu D σ H := by
  cases hv with
  | lst ho hda =>
    rename_i a xs
    have hlen := dpAll_len hda
    refine s_forL h (ex_l e0 ho) Pv h0 (fun i σ' H' _ p => ex_l (hx i σ' H' p) ho) (fun i x σ' H' hx' p => ?_) (fun σ' H' p => hd σ' H' (by rw [← hlen]; exact p))
    obtain ⟨d, hd1, hd2⟩ := dpAll_getV hda hx'
    exact hs i d x σ' H' hd1 hd2 p
theorem q_forV (h : Ev tl σ H v) (hv : Dp K H0 v (.list ds)) (e0 : Ex H0 H) (Pv : Nat → L2.St → Hp → Prop) (h0 : ∀ H1, Ex H H1 → Pv 0 σ H1) (hx : ∀ i σ' H', Pv i σ' H' → Ex H0 H')
    (hs : ∀ i d x σ' H', ds[i]? = some d → Dp K H0 x d → Pv i σ' H' → g x σ' H' fun σ2 H2 => tu { D with nx := Pv (i + 1), ct := Pv (i + 1), bk := tz D } σ2 H2)
    (hd : ∀ σ' H', Pv ds.length σ' H' → tz D σ' H') : tSeq (tFor (iList K tl) g tu) tz D σ H := s_forV (D := { D with nx := tz D }) h hv e0 Pv h0 hx hs hd
/-- comprehensions over it -/
theorem filt_take {α β : Type} {xs : List α} {i : Nat} {a : α} (h : xs[i]? = some a) (p : α → Bool) (w : α → β) : ((xs.take (i + 1)).filter p).map w = ((xs.take i).filter p).map w ++ (if p a = true then [w a] else []) := by
  have e : xs.take (i + 1) = xs.take i ++ [a] := by rw [List.take_succ, h]; rfl
  rw [e, List.filter_append, List.map_append]
  by_cases hp : p a = true
  · simp [hp]
  · simp [hp]
theorem lt_lcV {α : Type} {Dd : α → PyData} {xs : List α} {lv : V} {vs : List Nat} (p : α → Bool) (w : α → PyData) (h : Ev tl σ H lv) (hl : Dp K H lv (.list (xs.map Dd))) (hn : xs.length ≤ 40000)
    (hg : ∀ a, a ∈ xs → ∀ x H1, Ex H H1 → Dp K H x (Dd a) → ∀ Q : L2.St → Hp → Prop, (∀ σ2, wipe σ2 vs = wipe σ vs → EvT t σ2 H1 (p a) → (p a = true → EvTd te σ2 H1 (w a)) → Q σ2 H1) → g x (wipe σ vs) H1 Q) :
    EvLT (tLc (iList K tl) g t te vs) σ H ((xs.filter p).map w) := fun H1 e Q q => h H1 e _ fun H2 e2 => by
  cases hl with
  | lst ho hda =>
    rename_i a ys
    have hlen := dpAll_len hda
    rw [List.length_map] at hlen
    have e02 := e.trans e2
    refine ⟨a, rfl, ⟨ys, ex_l e02 ho⟩, fun Dl hD => lc_list (K := K) (a := a) (xs := ys) (fun i H' => H2 Dl = none ∧ Ex H2 H' ∧ LstT H' Dl (((xs.take i).filter p).map w)) ⟨hD, Ex.new hD, ⟨[], upd_same, .nil⟩⟩ (fun i H' _ pp => ex_l (e02.trans pp.2.1) ho) (fun i x H' hx pp => ?_) (fun H' pp => ?_)⟩
    · obtain ⟨p1, p2, zs, p3, p4⟩ := pp
      obtain ⟨d, hd1, hd2⟩ := dpAll_getV hda hx
      rw [List.getElem?_map] at hd1
      obtain ⟨b, hb, rfl⟩ := Option.map_eq_some_iff.mp hd1
      have hil : i < xs.length := (List.getElem?_eq_some_iff.mp hb).1
      refine hg b (List.mem_of_getElem? hb) x H' (e02.trans p2) hd2 _ fun σ2 hw ht he => ⟨hw, ht H' (Ex.refl H') _ fun H3 e3 => ?_⟩
      cases hf : p b with
      | true =>
        show te σ2 H3 fun y H4 => ∃ acc, H4 Dl = some (.lst acc) ∧ acc.length < sizeLine ∧ (H2 Dl = none ∧ Ex H2 (upd H4 Dl (.lst (acc ++ [y]))) ∧ LstT (upd H4 Dl (.lst (acc ++ [y]))) Dl (((xs.take (i + 1)).filter p).map w))
        refine he hf H3 e3 _ fun y H4 e4 q4 => ⟨zs, e4 Dl _ (e3 Dl _ p3), sz_lt ?_, p1, Ex.mut ((p2.trans e3).trans e4) p1, ?_⟩
        · rw [p4.len, List.length_map]
          have h1 := List.length_filter_le p (xs.take i)
          have h2 := List.length_take_le i xs
          omega
        · rw [filt_take hb, if_pos hf]
          exact LstT.push (e4 Dl _ (e3 Dl _ p3)) (p4.ex (e3.trans e4)) q4
      | false =>
        show H2 Dl = none ∧ Ex H2 H3 ∧ LstT H3 Dl (((xs.take (i + 1)).filter p).map w)
        refine ⟨p1, p2.trans e3, ?_⟩
        rw [filt_take hb, if_neg (by rw [hf]; simp), List.append_nil]
        exact ⟨zs, e3 Dl _ p3, p4.ex e3⟩
    · obtain ⟨p1, p2, p3⟩ := pp
      rw [hlen, List.take_length] at p3
      exact q Dl H' (fresh_back e2 p1) (e2.trans p2) p3
/-- clear -/
theorem q_clear {l : Addr} {xs : List V} (ha : Ev ta σ H (.ref l)) (hl : H l = some (.lst xs)) (k : ∀ H1, Ex H H1 → H1 l = some (.lst xs) → tz D σ (upd H1 l (.lst []))) : tSeq (tDrop (tBM0 K "list" rClear ta)) tz D σ H := ha H (Ex.refl H) _ fun H1 e1 => ⟨Or.inl ⟨rfl, xs, sq_of (e1 l _ hl)⟩, l, xs, rfl, rfl, e1 l _ hl, k H1 e1 (e1 l _ hl)⟩
end
section
variable {K : PySem.W.Frag} {σ : L2.St} {H H' H0 : Hp} {ta tb te tl : TE} {v : V} {tr : TA}
theorem rv_eqB {a b : Bool} : RV rEq (.bl a) (.bl b) H (.bl (decide (a = b))) := fun H1 e Q q => ⟨rfl, by
  have e2 : decide (V.bl a = V.bl b) = decide (a = b) := by simp
  rw [e2]
  exact q H1 (Ex.refl H1)⟩
theorem rv_neB {a b : Bool} : RV rNe (.bl a) (.bl b) H (.bl (!decide (a = b))) := fun H1 e Q q => ⟨rfl, by
  have e2 : decide (V.bl a = V.bl b) = decide (a = b) := by simp
  rw [e2]
  exact q H1 (Ex.refl H1)⟩
theorem rv_eqS {a b : Str} : RV rEq (.str a) (.str b) H (.bl (decide (a = b))) := fun H1 e Q q => ⟨rfl, by
  have e2 : decide (V.str a = V.str b) = decide (a = b) := by simp
  rw [e2]
  exact q H1 (Ex.refl H1)⟩
theorem rv_neS {a b : Str} : RV rNe (.str a) (.str b) H (.bl (!decide (a = b))) := fun H1 e Q q => ⟨rfl, by
  have e2 : decide (V.str a = V.str b) = decide (a = b) := by simp
  rw [e2]
  exact q H1 (Ex.refl H1)⟩
end

def mazeF (n : Int) (ds : List Door) (ks : List Key2) : PyData := mazeD n (ds.map doorD) ks
theorem nb_maze (n : Int) (ds : List Door) (ks : List Key2) : nb (mazeF n ds ks) = true := by
  have h1 := nb_doors ds
  have h2 := nb_keys ks
  simp only [mazeF, mazeD, nb, nbAll, Bool.and_eq_true, Bool.and_true, Bool.true_and]
  simp only [nb] at h1 h2
  exact ⟨h1, h2⟩
theorem sh_maze (n : Int) (ds : List Door) (ks : List Key2) : SeqAt.shaped (mazeF n ds ks) = true := shaped_of (nb_maze n ds ks) (by
  have h1 := depth_list (depth_map dep_door ds)
  have h2 := depth_list (depth_map dep_key ks)
  have := depth_tuple (n := 2) (ds := [.int n, .list (ds.map doorD), .list (ks.map keyD)]) (by
    intro d hd
    simp at hd
    rcases hd with rfl | rfl | rfl
    · simp [PyData.depth]
    · omega
    · omega)
  exact Nat.le_trans this (by decide))

section
variable {P : Program} {w : World} {K : PySem.W.Frag} {mg : Str → Option Value} {base : Heap}
abbrev Sm (i : Int) : Prop := 0 ≤ i ∧ i < 100
def smL : Option Int → Prop
  | none => True
  | some k => Sm k
def SmD (d : Door) : Prop := Sm d.1 ∧ Sm d.2.1 ∧ smL d.2.2
def SmK (k : Key2) : Prop := Sm k.1 ∧ Sm k.2
def SmM (n : Int) (ds : List Door) (ks : List Key2) : Prop := Sm n ∧ (∀ d ∈ ds, SmD d) ∧ (∀ k ∈ ks, SmK k) ∧ ds.length ≤ 1000 ∧ ks.length ≤ 1000
theorem len_door : (("door " : Str)).length = 5 := by decide +kernel
theorem len_key : (("key " : Str)).length = 4 := by decide +kernel
theorem len_in : ((" in " : Str)).length = 4 := by decide +kernel
theorem len_by : ((" by " : Str)).length = 4 := by decide +kernel
theorem len_sp : ((" " : Str)).length = 1 := by decide +kernel
theorem len_nl : (("\n" : Str)).length = 1 := by decide +kernel
theorem len_rooms : (("rooms " : Str)).length = 6 := by decide +kernel
theorem rowD_len {d : Door} (h : SmD d) : (rowD d).length ≤ 20 := by
  obtain ⟨d1, d2, l⟩ := d
  obtain ⟨h1, h2, h3⟩ := h
  have t1 : (ts d1).length ≤ 2 := ts_len h1.1 h1.2
  have t2 : (ts d2).length ≤ 2 := ts_len h2.1 h2.2
  cases l with
  | none =>
    simp only [rowD, Str.length_append, len_door, len_sp, Str.append_empty]
    omega
  | some k =>
    have t3 : (ts k).length ≤ 2 := ts_len (i := k) h3.1 h3.2
    simp only [rowD, Str.length_append, len_door, len_sp, len_by]
    omega
theorem rowK_len {k : Key2} (h : SmK k) : (rowK k).length ≤ 20 := by
  obtain ⟨k1, k2⟩ := k
  have t1 : (ts k1).length ≤ 2 := ts_len h.1.1 h.1.2
  have t2 : (ts k2).length ≤ 2 := ts_len h.2.1 h.2.2
  simp only [rowK, Str.length_append, len_key, len_in]
  omega
theorem rows_len {n : Int} {ds : List Door} {ks : List Key2} (h : Sm n) (hd : ∀ d ∈ ds, SmD d) (hk : ∀ k ∈ ks, SmK k) : ∀ x ∈ rowsF n ds ks, x.length ≤ 20 := by
  intro x hx
  rcases List.mem_cons.mp hx with h1 | h1
  · subst h1
    have t1 := ts_len h.1 h.2
    simp only [Str.length_append, len_rooms]
    omega
  · rcases List.mem_append.mp h1 with h2 | h2
    · obtain ⟨d, hdm, rfl⟩ := List.mem_map.mp h2
      exact rowD_len (hd d hdm)
    · obtain ⟨k, hkm, rfl⟩ := List.mem_map.mp h2
      exact rowK_len (hk k hkm)
theorem sum_le {c : Nat} : ∀ {xs : List Str}, (∀ x ∈ xs, x.length ≤ c) → (xs.map (·.length)).sum ≤ xs.length * c
  | [], _ => by simp
  | x :: r, h => by
    have h1 := h x (by simp)
    have h2 := sum_le (xs := r) fun y hy => h y (by simp [hy])
    simp only [List.map_cons, List.sum_cons, List.length_cons, Nat.succ_mul]
    omega
theorem ev_join {σ : L2.St} {H : Hp} {to te : TE} {a : Str} {p : Addr} {ys : List Str} (h1 : Ev to σ H (.str a)) (h2 : Ev te σ H (.ref p)) (hl : LstT H p (ys.map PyData.str)) (hz : (ys.map (·.length)).sum + ys.length * a.length ≤ 16777216) : Ev (tM1 (fun x xs H Q => ∃ a p, ∃ ys : List Str, x = .str a ∧ xs = [.ref p] ∧ (SqL K H p (ys.map V.str) ∨ SqT K H p (ys.map V.str)) ∧
      (ys.map (·.length)).sum + ys.length * a.length ≤ 16777216 ∧ Q (.str (Txt.join a ys)) H) to te) σ H (.str (Str.join a ys)) := fun H1 e Q q => h1 H1 e _ fun H2 e2 => ⟨⟨a, rfl⟩, h2 H2 (e.trans e2) _ fun H3 e3 => by
  obtain ⟨xs, hx, hd⟩ := hl.ex ((e.trans e2).trans e3)
  have ex := tdAll_strs hd
  subst ex
  exact ⟨a, p, ys, rfl, rfl, .inl (SqL.of hx), hz, by rw [join_eq]; exact q H3 (e2.trans e3)⟩⟩
def sp_written (K : PySem.W.Frag) : Sp := fun vs H Q _ => ∃ (v : V) (n : Int) (ds : List Door) (ks : List Key2), vs = [v] ∧ Dp K H v (mazeF n ds ks) ∧ SmM n ds ks ∧ ∀ H2, Ex H H2 → Q (.str (Str.join ("\n" : Str) (rowsF n ds ks))) H2
theorem ok_written (T : Txt K mg) : Kept P w K mg base 1 "written" ["maze"] (sp_written K) := by
  refine T.d_written.kept sc_written (fun vs H Q E h => ?_) (fun cdv A outer s H vs Q E hr h => ?_)
  · obtain ⟨v, n, ds, ks, rfl, _⟩ := h
    rfl
  · obtain ⟨v, n, ds, ks, rfl, hm, ⟨hn, hds, hks, hdl, hkl⟩, q⟩ := h
    refine ⟨_, (pss_cons (ps_set (i := 1) sc_written.nd rfl (Or.inl rfl) (pe_lst (pa_cons (pe_op op_add_str pe_str (pe_callTy call_str_int (by rfl) T.n_str (by decide +kernel) (pa_cons (pe_ix (ix_tup_K (K := K) rfl) (pv 0) pe_int (fun _ _ => rfl)) pa_nil))) pa_nil)))
      (pss_cons (ps_for (passes_of rfl) rfl (pi_list_K (K := K) rfl (pe_ix (ix_tup_K (K := K) rfl) (pv 0) pe_int (fun _ _ => rfl))) (pg_name (i := 2) sc_written.nd rfl (Or.inl rfl))
        (pss_cons (ps_set (i := 3) sc_written.nd rfl (Or.inl rfl) (pe_op op_add_str (pe_op op_add_str (pe_op op_add_str pe_str (pe_callTy call_str_int (by rfl) T.n_str (by decide +kernel) (pa_cons (pe_ix (ix_tup_K (K := K) rfl) (pv 2) pe_int (fun _ _ => rfl)) pa_nil))) pe_str) (pe_callTy call_str_int (by rfl) T.n_str (by decide +kernel) (pa_cons (pe_ix (ix_tup_K (K := K) rfl) (pv 2) pe_int (fun _ _ => rfl)) pa_nil))))
      (pss_cut (ps_if (pt_cmpR op_notN (pe_ix (ix_tup_K (K := K) rfl) (pv 2) pe_int (fun _ _ => rfl)) pe_non (nomark _))
        (pss_one (ps_set (i := 3) sc_written.nd rfl (Or.inl rfl) (pe_op op_add_str (pe_op op_add_str (pv 3) pe_str) (pe_callTy call_str_int (by rfl) T.n_str (by decide +kernel) (pa_cons (pe_ix (ix_tup_K (K := K) rfl) (pv 2) pe_int (fun _ _ => rfl)) pa_nil)))))
        pss_nil)
      (pss_one (ps_expr (pe_bm_K (K := K) rfl PySem.F.plainAttrs_list PySem.F.slot_list_append PySem.F.type_list_append mt_append (pv 1) (pa_cons (pv 3) pa_nil)))))))
      (pss_cons (ps_for (passes_of rfl) rfl (pi_list_K (K := K) rfl (pe_ix (ix_tup_K (K := K) rfl) (pv 0) pe_int (fun _ _ => rfl))) (pg_name (i := 4) sc_written.nd rfl (Or.inl rfl))
        (pss_one (ps_expr (pe_bm_K (K := K) rfl PySem.F.plainAttrs_list PySem.F.slot_list_append PySem.F.type_list_append mt_append (pv 1) (pa_cons (pe_op op_add_str (pe_op op_add_str (pe_op op_add_str pe_str (pe_callTy call_str_int (by rfl) T.n_str (by decide +kernel) (pa_cons (pe_ix (ix_tup_K (K := K) rfl) (pv 4) pe_int (fun _ _ => rfl)) pa_nil))) pe_str) (pe_callTy call_str_int (by rfl) T.n_str (by decide +kernel) (pa_cons (pe_ix (ix_tup_K (K := K) rfl) (pv 4) pe_int (fun _ _ => rfl)) pa_nil))) pa_nil)))))
      (pss_one (ps_ret (pe_join pe_str (pv 1))))))), ?_⟩
    refine q_asgLT (ds := ([("rooms " : Str) ++ ts n] : List Str).map PyData.str) (lt_lst (ea_tc (td_str (ev_op ev_c (ev_strI (ev_of_ed (ed_ixT (ed_any (ev_var rfl) hm) ev_c atI0)) (small100 hn.1 hn.2)) (rv_addS (by have := ts_len hn.1 hn.2; rw [len_rooms]; omega)))) ea_tn) (by simp)) fun l H1 nl e1 hl => ?_
    obtain ⟨dv, hdv, edv⟩ := dp_item hm atI1
    obtain ⟨kv, hkv, ekv⟩ := dp_item hm atI2
    refine q_forV (edv e1 (ev_var rfl) ev_c) hdv e1 (fun i σ' H' => Ex H H' ∧ ∃ y2 y3, σ' = [some v, some (.ref l), y2, y3, none] ∧ LstT H' l ((rowsF n (ds.take i) []).map PyData.str)) (fun H3 e3 => ⟨e1.trans e3, none, none, rfl, by simpa [rowsF] using hl.ex e3⟩) (fun i σ' H' hP => hP.1) (fun i d x σ' H' hdi hx hP => ?_) (fun σ' H' hP => ?_)
    · obtain ⟨eH, y2, y3, rfl, hL⟩ := hP
      rw [List.getElem?_map] at hdi
      obtain ⟨⟨d1, d2, d3⟩, hd1, rfl⟩ := Option.map_eq_some_iff.mp hdi
      obtain ⟨hs1, hs2, hs3⟩ := hds _ (List.mem_of_getElem? hd1)
      have t1 : (ts d1).length ≤ 2 := ts_len hs1.1 hs1.2
      have t2 : (ts d2).length ≤ 2 := ts_len hs2.1 hs2.2
      have hil : i < ds.length := (List.getElem?_eq_some_iff.mp hd1).1
      have hrl : ((rowsF n (ds.take i) []).map PyData.str).length < 100000 := by
        simp only [rowsF, List.length_map, List.length_cons, List.length_append, List.length_take, List.length_nil]
        omega
      have hnext : rowsF n (ds.take (i + 1)) [] = rowsF n (ds.take i) [] ++ [rowD (d1, d2, d3)] := by
        have e : ds.take (i + 1) = ds.take i ++ [(d1, d2, d3)] := by rw [List.take_succ, hd1]; rfl
        simp only [rowsF, e, List.map_append, List.map_cons, List.map_nil, List.append_nil, List.cons_append]
      show tSeq _ _ _ _ _
      obtain ⟨r0, er0⟩ : ∃ r0 : Str, ("door " : Str) ++ ts d1 ++ (" " : Str) ++ ts d2 = r0 := ⟨_, rfl⟩
      have hr0 : r0.length ≤ 10 := by
        rw [← er0]
        simp only [Str.length_append, len_door, len_sp]
        omega
      refine q_asg (v := .str r0) ?_ fun H3 e3 => ?_
      · rw [← er0]
        refine ev_op (ev_op (ev_op ev_c (ev_strI (ev_of_ed (ed_ixT (ed_any (ev_var rfl) (dp_ex eH hx)) ev_c atI0)) (small100 hs1.1 hs1.2)) (rv_addS ?_)) ev_c (rv_addS ?_)) (ev_strI (ev_of_ed (ed_ixT (ed_any (ev_var rfl) (dp_ex eH hx)) ev_c atI1)) (small100 hs2.1 hs2.2)) (rv_addS ?_)
        all_goals (simp only [Str.length_append, len_door, len_sp]; omega)
      have eH3 := eH.trans e3
      refine q_cut (M := fun σ' H' => Ex H3 H' ∧ σ' = [some v, some (.ref l), some x, some (.str (rowD (d1, d2, d3))), none]) ?_ ?_
      · cases d3 with
        | none =>
          refine s_when (b := false) (et_test (ev_is (ev_notN (ev_of_edN (ed_ixT (d := .none) (ed_any (ev_var rfl) (dp_ex eH3 hx)) ev_c atI2))) (by simp))) (fun z => by cases z) (fun _ H4 e4 => ⟨e4, ?_⟩)
          rw [← er0]
          simp only [rowD, Str.append_empty]
          rfl
        | some k =>
          have hk := small100 (i := k) hs3.1 hs3.2
          have t3 := ts_len (i := k) hs3.1 hs3.2
          have hix : ∀ {H' : Hp}, Ex H H' → Ev (tOp (rIxT K) (tVar 2) (tC (.int 2))) [some v, some (.ref l), some x, some (.str r0), none] H' (.int k) := fun e => ev_of_ed (ed_ixT (d := .int k) (ed_any (ev_var rfl) (dp_ex e hx)) ev_c atI2)
          refine s_when (b := true) (et_test (ev_is (ev_notN (hix eH3)) (by simp))) (fun _ H4 e4 => ?_) (fun z => by cases z)
          refine s_asg (v := .str (rowD (d1, d2, some k))) (ev_is (ev_op (ev_op (ev_var rfl) ev_c (rv_addS (by rw [len_by]; omega))) (ev_strI (hix (eH3.trans e4)) hk) (rv_addS (by rw [Str.length_append, len_by]; omega))) ?_) fun H5 e5 => ⟨e4.trans e5, rfl⟩
          rw [← er0]
          simp only [rowD, Str.append_assoc]
      · rintro σ' H4 ⟨e4, rfl⟩
        refine s_appT (d := .str (rowD (d1, d2, d3))) (hL.ex (e3.trans e4)) (ev_var rfl) (td_str (ev_var rfl)) hrl fun H5 xs v5 e5 hx5 hp5 => ⟨Ex.mut ((eH3.trans e4).trans e5) nl, _, _, rfl, ?_⟩
        rw [hnext, List.map_append]
        exact hp5
    obtain ⟨eH, y2, y3, rfl, hL⟩ := hP
    rw [List.length_map, List.take_length] at hL
    refine q_forV (ekv eH (ev_var rfl) ev_c) hkv eH (fun i σ' H' => Ex H H' ∧ ∃ y4, σ' = [some v, some (.ref l), y2, y3, y4] ∧ LstT H' l ((rowsF n ds (ks.take i)).map PyData.str)) (fun H3 e3 => ⟨eH.trans e3, none, rfl, by simpa using hL.ex e3⟩) (fun i σ' H' hP => hP.1) (fun i d x σ' H' hdi hx hP => ?_) (fun σ' H' hP => ?_)
    · obtain ⟨eH, y4, rfl, hL⟩ := hP
      rw [List.getElem?_map] at hdi
      obtain ⟨⟨k1, k2⟩, hd1, rfl⟩ := Option.map_eq_some_iff.mp hdi
      obtain ⟨hs1, hs2⟩ := hks _ (List.mem_of_getElem? hd1)
      have t1 : (ts k1).length ≤ 2 := ts_len hs1.1 hs1.2
      have t2 : (ts k2).length ≤ 2 := ts_len hs2.1 hs2.2
      have hil : i < ks.length := (List.getElem?_eq_some_iff.mp hd1).1
      have hrl : ((rowsF n ds (ks.take i)).map PyData.str).length < 100000 := by
        simp only [rowsF, List.length_map, List.length_cons, List.length_append, List.length_take]
        omega
      have hnext : rowsF n ds (ks.take (i + 1)) = rowsF n ds (ks.take i) ++ [rowK (k1, k2)] := by
        have e : ks.take (i + 1) = ks.take i ++ [(k1, k2)] := by rw [List.take_succ, hd1]; rfl
        simp only [rowsF, e, List.map_append, List.map_cons, List.map_nil, List.cons_append, List.append_assoc]
      show tDrop _ _ _ _
      refine s_appT (d := .str (rowK (k1, k2))) hL (ev_var rfl) (td_str (ev_op (ev_op (ev_op ev_c (ev_strI (ev_of_ed (ed_ixT (ed_any (ev_var rfl) (dp_ex eH hx)) ev_c atI1)) (small100 hs2.1 hs2.2)) (rv_addS ?_)) ev_c (rv_addS ?_)) (ev_strI (ev_of_ed (ed_ixT (ed_any (ev_var rfl) (dp_ex eH hx)) ev_c atI0)) (small100 hs1.1 hs1.2)) (rv_addS ?_))) hrl fun H5 xs v5 e5 hx5 hp5 => ⟨Ex.mut (eH.trans e5) nl, _, rfl, ?_⟩
      · rw [len_key]; dsimp only; omega
      · simp only [Str.length_append, len_key, len_in]; omega
      · simp only [Str.length_append, len_key, len_in]; omega
      · rw [hnext, List.map_append]
        exact hp5
    obtain ⟨eH, y4, rfl, hL⟩ := hP
    rw [List.length_map, List.take_length] at hL
    refine s_ret (ev_join ev_c (ev_var rfl) hL ?_) fun H5 e5 => q H5 (eH.trans e5)
    have h1 := sum_le (rows_len hn hds hks)
    have h2 : (rowsF n ds ks).length ≤ 2001 := by
      simp only [rowsF, List.length_cons, List.length_append, List.length_map]
      omega
    have h3 : (rowsF n ds ks).length * (("\n" : Str)).length = (rowsF n ds ks).length := by rw [len_nl, Nat.mul_one]
    omega
theorem sv_written {H : Hp} {v : V} {n : Int} {ds : List Door} {ks : List Key2} (h : Dp K H v (mazeF n ds ks)) (hs : SmM n ds ks) : SpV (sp_written K) [v] H (.str (Str.join ("\n" : Str) (rowsF n ds ks))) := fun H1 e Q q E => ⟨v, n, ds, ks, rfl, dp_ex e h, hs, q⟩
end

section
theorem ev_intB {σ : L2.St} {H : Hp} {ta : TE} {b : Bool} (h : Ev ta σ H (.bl b)) : Ev (tCB (fun xs H Q => (∃ i, xs = [.int i] ∧ Q (.int i) H) ∨ ∃ k, xs = [.bl k] ∧ Q (.int (if k then 1 else 0)) H) (tCons ta tNil)) σ H (.int (if b then 1 else 0)) := fun H1 e Q q => h H1 e _ fun H2 e2 => .inr ⟨b, rfl, q H2 e2⟩
variable {P : Program} {w : World} {K : PySem.W.Frag} {mg : Str → Option Value} {base : Heap}
theorem join_rows_len {xs : List Str} (h : ∀ x ∈ xs, x.length ≤ 20) : (Str.join ("\n" : Str) xs).length ≤ xs.length * 21 := by
  have h1 := StrLaws.join_length_le ("\n" : Str) xs
  have h2 := sum_le h
  rw [len_nl] at h1
  omega
theorem nlkey : ("\nkey " : Str) = ("\n" : Str) ++ ("key " : Str) := by decide +kernel
theorem len_nlkey : (("\nkey " : Str)).length = 5 := by decide +kernel
theorem estr : ("" : Str) = Str.empty := by decide +kernel
theorem rowsF_push {n : Int} {ds : List Door} {d : Door} : rowsF n (ds ++ [d]) [] = rowsF n ds [] ++ [rowD d] := by simp [rowsF]
theorem rowsF_pushK {n : Int} {ds : List Door} {ks : List Key2} {k : Key2} : rowsF n ds (ks ++ [k]) = rowsF n ds ks ++ [rowK k] := by simp [rowsF]
theorem rowsF_len {n : Int} {ds : List Door} {ks : List Key2} : (rowsF n ds ks).length = 1 + ds.length + ks.length := by
  simp only [rowsF, List.length_cons, List.length_append, List.length_map]
  omega
theorem rowsF_ne {n : Int} {ds : List Door} {ks : List Key2} : rowsF n ds ks ≠ [] := by simp [rowsF]
theorem ok_law (T : Txt K mg) {f : Addr} {fd : FuncData} (F : FunD K "law" "law" (defArgs s_law) (defBody s_law) (defScope s_law) [] [] f fd) : FnOk P w K mg base CX0 2 f fd ["_law_script"] (sp_law K) := by
  refine F.ok sc_law (fun vs H Q E h => ?_) (fun cdv A outer s H vs Q E hr h => ?_)
  · obtain ⟨a, ns, rfl, _⟩ := h
    rfl
  · obtain ⟨a, ns, rfl, hS, hl63, q⟩ := h
    refine ⟨_, (PSs.nox (pss_cons (ps_set (i := 1) sc_law.nd rfl (Or.inl rfl) (pe_op op_add pe_int (pe_op op_mod (pe_fn (ok_l_cell_at (K := K) T) (hr.mono (by decide)) passL (by rfl) (pa_cons (pv 0) (pa_cons pe_int pa_nil))) pe_int)))
      (pss_cons (ps_setLc (i := 2) (own := [("_law_k", 5)]) (g := gName 5) rfl sc_law.nd rfl rfl (sw_true rfl rfl rfl (by decide +kernel)) (pi_range1 (by rfl) T.n_range (pa_cons pe_int pa_nil)) (blkOk_by (own := [("_law_k", 5)]) (N := ["_law_script", "_law_size", "_law_more", "_law_doors", "_law_due", "_law_k", "_law_one", "_law_other", "_law_lock", "_law_lying", "_law_handed", "_law_found"]) (sc := defScope s_law) (by decide +kernel)) (fun _ _ _ _ _ => (pg_name (i := 5) sc_law.nd rfl (Or.inl rfl))) (fun _ _ _ _ _ => pts_nil) (fun _ _ _ _ _ => (pe_fn (ok_l_mix (K := K) T) (hr.mono (by decide)) passL (by rfl) (pa_cons (pe_fn (ok_l_cell_at (K := K) T) (hr.mono (by decide)) passL (by rfl) (pa_cons (pv 0) (pa_cons (pv 5) pa_nil))) (pa_cons pe_int pa_nil)))))
      (pss_cons (ps_set (i := 3) sc_law.nd rfl (Or.inl rfl) (pe_lst pa_nil))
      (pss_cons (ps_set (i := 4) sc_law.nd rfl (Or.inl rfl) (pe_op op_add_str pe_str (pe_callTy call_str_int (by rfl) T.n_str (by decide +kernel) (pa_cons (pv 1) pa_nil))))
      (pss_cons (ps_for PassesOwn.never rfl (pi_range1 (by rfl) T.n_range (pa_cons (pe_op op_mod (pe_ix (ix_list_K (K := K) rfl) (pv 2) pe_int (fun _ _ => rfl)) pe_int) pa_nil)) (pg_name (i := 5) sc_law.nd rfl (Or.inl rfl))
        (pss_cons (ps_set (i := 6) sc_law.nd rfl (Or.inl rfl) (pe_op op_mod (pe_op op_mul (pv 5) (pe_ix (ix_list_K (K := K) rfl) (pv 2) pe_int (fun _ _ => rfl))) (pv 1)))
      (pss_cons (ps_set (i := 7) sc_law.nd rfl (Or.inl rfl) (pe_op op_mod (pe_op op_mul (pv 5) (pe_ix (ix_list_K (K := K) rfl) (pv 2) pe_int (fun _ _ => rfl))) (pv 1)))
      (pss_cons (ps_set (i := 8) sc_law.nd rfl (Or.inl rfl) (pe_op op_mod (pe_op op_add (pv 5) (pe_op op_fdiv (pe_ix (ix_list_K (K := K) rfl) (pv 2) pe_int (fun _ _ => rfl)) pe_int)) pe_int))
      (pss_cons (ps_expr (pe_bm_K (K := K) rfl PySem.F.plainAttrs_list PySem.F.slot_list_append PySem.F.type_list_append mt_append (pv 3) (pa_cons (pe_tup (pa_cons (pv 6) (pa_cons (pv 7) (pa_cons (pe_ix (ix_list_K (K := K) rfl) (pe_lst (pa_cons pe_int (pa_cons pe_int (pa_cons pe_int (pa_cons pe_int (pa_cons pe_int (pa_cons pe_non pa_nil))))))) (pv 8) (fun _ _ => rfl)) pa_nil)))) pa_nil)))
      (pss_one (ps_set (i := 4) sc_law.nd rfl (Or.inl rfl) (pe_op op_add_str (pe_op op_add_str (pe_op op_add_str (pv 4) pe_str) (pe_joined (PJ.cons pe_str (PJ.cons (pe_fmt (pv 6)) (PJ.cons pe_str (PJ.cons (pe_fmt (pv 7)) PJ.nil)))))) (pe_ix (ix_list_K (K := K) rfl) (pe_lst (pa_cons pe_str (pa_cons (pe_joined (PJ.cons pe_str (PJ.cons (pe_fmt (pv 8)) PJ.nil))) pa_nil))) (pe_callTy call_int1 (by rfl) T.n_int (by decide +kernel) (pa_cons (pe_cmpR op_lt (pv 8) pe_int (nomark _)) pa_nil)) (fun _ _ => rfl))))))))))
      (pss_cons (ps_set (i := 9) sc_law.nd rfl (Or.inl rfl) (pe_lst pa_nil))
      (pss_cons (ps_for PassesOwn.never rfl (pi_range1 (by rfl) T.n_range (pa_cons (pe_op op_mod (pe_ix (ix_list_K (K := K) rfl) (pv 2) pe_int (fun _ _ => rfl)) pe_int) pa_nil)) (pg_name (i := 5) sc_law.nd rfl (Or.inl rfl))
        (pss_cons (ps_expr (pe_bm_K (K := K) rfl PySem.F.plainAttrs_list PySem.F.slot_list_append PySem.F.type_list_append mt_append (pv 9) (pa_cons (pe_tup (pa_cons (pe_op op_mod (pe_op op_mul (pv 5) (pe_ix (ix_list_K (K := K) rfl) (pv 2) pe_int (fun _ _ => rfl))) (pv 1)) (pa_cons (pe_op op_mod (pe_op op_add (pv 5) (pe_ix (ix_list_K (K := K) rfl) (pv 2) pe_int (fun _ _ => rfl))) pe_int) pa_nil))) pa_nil)))
      (pss_one (ps_set (i := 4) sc_law.nd rfl (Or.inl rfl) (pe_op op_add_str (pe_op op_add_str (pe_op op_add_str (pe_op op_add_str (pv 4) pe_str) (pe_callTy call_str_int (by rfl) T.n_str (by decide +kernel) (pa_cons (pe_ix (ix_tup_K (K := K) rfl) (pe_ix (ix_list_K (K := K) rfl) (pv 9) (pv 5) (fun _ _ => rfl)) pe_int (fun _ _ => rfl)) pa_nil))) pe_str) (pe_callTy call_str_int (by rfl) T.n_str (by decide +kernel) (pa_cons (pe_ix (ix_tup_K (K := K) rfl) (pe_ix (ix_list_K (K := K) rfl) (pv 9) (pv 5) (fun _ _ => rfl)) pe_int (fun _ _ => rfl)) pa_nil)))))))
      (pss_cons (ps_set (i := 10) sc_law.nd rfl (Or.inl rfl) (pe_tup (pa_cons (pv 1) (pa_cons (pe_callTy (call_list_of_K (K := K) rfl) (by rfl) T.n_list (by decide +kernel) (pa_cons (pv 3) pa_nil)) (pa_cons (pe_callTy (call_list_of_K (K := K) rfl) (by rfl) T.n_list (by decide +kernel) (pa_cons (pv 9) pa_nil)) pa_nil)))))
      (pss_cons (ps_set (i := 11) sc_law.nd rfl (Or.inl rfl) (pe_fn (ok_written (K := K) T) (hr.mono (by decide)) passL (by rfl) (pa_cons (pv 10) pa_nil)))
      (pss_one (ps_ret (pe_and (pe_callB (call_isi_K (K := K) rfl) (by rfl) T.n_isinstance (by decide +kernel) (pa_cons (pv 11) (pa_cons (pe_bltn (v := .ty "str") (u := .type "str") (by rfl) T.n_str (by decide +kernel) rfl) pa_nil))) (pe_and (pe_cmpR op_eq (pv 11) (pv 4) (nomark _)) (pe_one (pe_cmpR (op_eqD_K (K := K) rfl hr.units) (pv 10) (pe_tup (pa_cons (pv 1) (pa_cons (pv 3) (pa_cons (pv 9) pa_nil)))) (nomark _))))))))))))))))), ?_⟩
    obtain ⟨n, en, hn⟩ : ∃ n : Int, 1 + cellAt ns 0 % 60 = n ∧ 1 ≤ n ∧ n ≤ 60 := ⟨_, rfl, by omega, by omega⟩
    refine q_asg (v := .int n) ?_ fun H1 e1 => ?_
    · rw [← en]
      exact ev_op ev_c (ev_op (ev_call0 (ea_cons (ev_var rfl) (ea_cons ev_c ea_nil)) (sv_l_cell_at hS (by decide))) ev_c (rv_I (by decide))) rv_I0
    refine q_asgLT (lt_mapR1 (n := 3) (fun i => PyData.int (mix (cellAt ns (i : Int)) 0)) (ea_cons ev_c ea_nil) (by decide) (fun x => rfl) fun i H2 e2 hi => td_int (ev_call0 (ea_cons (ev_call0 (ea_cons (ev_var rfl) (ea_cons (ev_var rfl) ea_nil)) (sv_l_cell_at (ex_l (e1.trans e2) hS) (by omega))) (ea_cons ev_c ea_nil)) sv_l_mix)) fun mp H2 nmp e2 hmp => ?_
    obtain ⟨m0, em0⟩ : ∃ m0, mix (cellAt ns 0) 0 = m0 := ⟨_, rfl⟩
    obtain ⟨m1, em1⟩ : ∃ m1, mix (cellAt ns 1) 0 = m1 := ⟨_, rfl⟩
    obtain ⟨m2, em2⟩ : ∃ m2, mix (cellAt ns 2) 0 = m2 := ⟨_, rfl⟩
    have b0 : 0 ≤ m0 ∧ m0 < 999983 := by rw [← em0]; exact ⟨mix_pos _ _, mix_lt _ _⟩
    have b1 : 0 ≤ m1 ∧ m1 < 999983 := by rw [← em1]; exact ⟨mix_pos _ _, mix_lt _ _⟩
    have b2 : 0 ≤ m2 ∧ m2 < 999983 := by rw [← em2]; exact ⟨mix_pos _ _, mix_lt _ _⟩
    have hmp2 : LstT H2 mp [.int m0, .int m1, .int m2] := by
      have e : (List.range (3 : Int).toNat).map (fun i => PyData.int (mix (cellAt ns ((i : Nat) : Int)) 0)) = [.int m0, .int m1, .int m2] := by
        rw [← em0, ← em1, ← em2]
        rfl
      rw [e] at hmp
      exact hmp
    have x0 : ∀ {σ : L2.St} {H' : Hp}, Ex H2 H' → σ[2]? = some (some (.ref mp)) → Ev (tOp (rIxL K) (tVar 2) (tC (.int 0))) σ H' (.int m0) := fun e h => ev_of_td (td_ixLV (ev_var h) (hmp2.ex e) ev_c atI0)
    have x1 : ∀ {σ : L2.St} {H' : Hp}, Ex H2 H' → σ[2]? = some (some (.ref mp)) → Ev (tOp (rIxL K) (tVar 2) (tC (.int 1))) σ H' (.int m1) := fun e h => ev_of_td (td_ixLV (ev_var h) (hmp2.ex e) ev_c atI1)
    have x2 : ∀ {σ : L2.St} {H' : Hp}, Ex H2 H' → σ[2]? = some (some (.ref mp)) → Ev (tOp (rIxL K) (tVar 2) (tC (.int 2))) σ H' (.int m2) := fun e h => ev_of_td (td_ixLV (ev_var h) (hmp2.ex e) ev_c atI2)
    refine q_asgLT (ds := ([] : List Door).map doorD) (lt_lst ea_tn (by simp)) fun l H3 nl e3 hl => ?_
    have hsn : Sm n := ⟨by omega, by omega⟩
    have tn := ts_len hsn.1 hsn.2
    refine q_asg (v := .str (Str.join ("\n" : Str) (rowsF n [] []))) (ev_op ev_c (ev_strI (ev_var rfl) (small100 hsn.1 hsn.2)) (rv_addS (by rw [len_rooms]; omega))) fun H4 e4 => ?_
    have e24 := e3.trans e4
    refine q_forR1 (n := m1 % 91) (ea_cons (ev_op (x1 e24 rfl) ev_c (rv_I (by decide))) ea_nil) ⟨by omega, by omega⟩ (fun i σ' H' => Ex H2 H' ∧ ∃ (y5 y6 y7 y8 : Option V) (ds : List Door), σ' = [some (.ref a), some (.int n), some (.ref mp), some (.ref l), some (.str (Str.join ("\n" : Str) (rowsF n ds []))), y5, y6, y7, y8, none, none, none] ∧ LstT H' l (ds.map doorD) ∧ (∀ d ∈ ds, SmD d) ∧ ds.length = i) (fun H5 e5 => ⟨e24.trans e5, none, none, none, none, [], rfl, hl.ex (e4.trans e5), (fun d hd => absurd hd (by simp)), rfl⟩) (fun i σ' H' hi hP => ?_) (fun σ' H' hP => ?_)
    · obtain ⟨eH, y5, y6, y7, y8, ds, rfl, hL, hsd, hlen⟩ := hP
      have hdue : (Str.join ("\n" : Str) (rowsF n ds [])).length ≤ 3000 := by
        have h1 := join_rows_len (rows_len hsn hsd (ks := []) (fun k hk => absurd hk (by simp)))
        rw [rowsF_len] at h1
        simp only [List.length_nil] at h1
        omega
      obtain ⟨due, edue⟩ : ∃ due, Str.join ("\n" : Str) (rowsF n ds []) = due := ⟨_, rfl⟩
      rw [edue] at hdue ⊢
      obtain ⟨one, eo, ho⟩ : ∃ one, (i : Int) * m0 % n = one ∧ Here n one := ⟨_, rfl, mod_here (n := n) (by omega) _⟩
      obtain ⟨oth, eoth, hoth⟩ : ∃ oth, (i : Int) * m2 % n = oth ∧ Here n oth := ⟨_, rfl, mod_here (n := n) (by omega) _⟩
      obtain ⟨lk, elk, hlk⟩ : ∃ lk, ((i : Int) + m1 / 91) % 6 = lk ∧ (0 ≤ lk ∧ lk < 6) := ⟨_, rfl, by omega, by omega⟩
      have so : Sm one := ⟨ho.1, by have := ho.2; omega⟩
      have sh : Sm oth := ⟨hoth.1, by have := hoth.2; omega⟩
      have sl : Sm lk := ⟨hlk.1, by omega⟩
      have t1 := ts_len so.1 so.2
      have t2 := ts_len sh.1 sh.2
      have t3 := ts_len sl.1 sl.2
      refine q_asg (v := .int one) (by rw [← eo]; exact ev_op (ev_op (ev_var rfl) (x0 eH rfl) (rv_I (by walk_at "mz side"))) (ev_var rfl) (rv_I (by omega))) fun H5 e5 => ?_
      refine q_asg (v := .int oth) (by rw [← eoth]; exact ev_op (ev_op (ev_var rfl) (x2 (eH.trans e5) rfl) (rv_I (by walk_at "mz side"))) (ev_var rfl) (rv_I (by omega))) fun H6 e6 => ?_
      refine q_asg (v := .int lk) (by rw [← elk]; exact ev_op (ev_op (ev_var rfl) (ev_op (x1 ((eH.trans e5).trans e6) rfl) ev_c (rv_I (by walk_at "mz side"))) rv_I0) ev_c (rv_I (by decide))) fun H7 e7 => ?_
      have eH7 := ((eH.trans e5).trans e6).trans e7
      have hL7 := hL.ex ((e5.trans e6).trans e7)
      obtain ⟨lo, elo⟩ : ∃ lo, ([some 0, some 1, some 2, some 3, some 4, none] : List (Option Int)).getD lk.toNat none = lo := ⟨_, rfl⟩
      have hlo : (lk < 5 → lo = some lk) ∧ (¬ lk < 5 → lo = none) := by
        rw [← elo]
        rcases (show lk = 0 ∨ lk = 1 ∨ lk = 2 ∨ lk = 3 ∨ lk = 4 ∨ lk = 5 by omega) with h | h | h | h | h | h <;> subst h <;> simp
      have hsm : SmD (one, oth, lo) := ⟨so, sh, by
        by_cases c : lk < 5
        · rw [hlo.1 c]; exact sl
        · rw [hlo.2 c]; trivial⟩
      refine q_appT (d := doorD (one, oth, lo)) hL7 (ev_var rfl) (td_tup (ds := [.int one, .int oth, lockD lo]) (ea_tc (td_int (ev_var rfl)) (ea_tc (td_int (ev_var rfl)) (ea_tc ?_ ea_tn))) (by simp)) (by rw [List.length_map]; omega) fun H8 xs v8 e8 hx8 hp8 => ?_
      · rw [← elo]
        refine td_ixL (lt_lst (ds := ([some 0, some 1, some 2, some 3, some 4, none] : List (Option Int)).map lockD) (ea_tc (td_int ev_c) (ea_tc (td_int ev_c) (ea_tc (td_int ev_c) (ea_tc (td_int ev_c) (ea_tc (td_int ev_c) (ea_tc (td_non ev_c) ea_tn)))))) (by simp)) (ev_var rfl) ?_
        rcases (show lk = 0 ∨ lk = 1 ∨ lk = 2 ∨ lk = 3 ∨ lk = 4 ∨ lk = 5 by omega) with h | h | h | h | h | h <;> subst h <;> rfl
      have eHu : Ex H2 (upd H8 l (.lst (xs ++ [v8]))) := Ex.mut (eH7.trans e8) nl
      obtain ⟨fs, efs⟩ : ∃ fs, Str.empty ++ ("door " : Str) ++ ts one ++ (" " : Str) ++ ts oth = fs := ⟨_, rfl⟩
      have hfs : fs.length ≤ 20 := by
        rw [← efs, Str.empty_append]
        simp only [Str.length_append, len_door, len_sp]
        omega
      obtain ⟨tl, etl⟩ : ∃ tl : Str, (if lk < 5 then Str.empty ++ (" by " : Str) ++ ts lk else ("" : Str)) = tl := ⟨_, rfl⟩
      have htl : tl.length ≤ 20 := by
        rw [← etl]
        split
        · rw [Str.empty_append, Str.length_append, len_by]; omega
        · rw [estr]; decide
      have hrow : due ++ ("\n" : Str) ++ fs ++ tl = Str.join ("\n" : Str) (rowsF n (ds ++ [(one, oth, lo)]) []) := by
        rw [rowsF_push, sjoin_snoc _ _ rowsF_ne, edue, ← efs, ← etl, Str.empty_append]
        by_cases c : lk < 5
        · rw [if_pos c, hlo.1 c, Str.empty_append]
          simp only [rowD, Str.append_assoc]
        · rw [if_neg c, hlo.2 c, estr]
          simp only [rowD, Str.append_assoc]
      refine s_asg (v := .str (Str.join ("\n" : Str) (rowsF n (ds ++ [(one, oth, lo)]) []))) ?_ fun H9 e9 => ⟨eHu.trans e9, _, _, _, _, ds ++ [(one, oth, lo)], rfl, by rw [List.map_append]; exact (LstT.ex e9 hp8), fun d hd => ?_, by simp [hlen]⟩
      · rw [← hrow]
        refine ev_op (ev_op (ev_op (ev_var rfl) ev_c (rv_addS (by rw [len_nl]; omega))) (ev_joined ?_) (rv_addS (by rw [Str.length_append, len_nl]; omega))) (ev_of_tdS ?_) (rv_addS (by simp only [Str.length_append, len_nl]; omega))
        · rw [← efs]
          refine ej_cons ev_c ?_ (ej_cons (ev_fmtI (ev_var rfl) (small100 so.1 so.2)) ?_ (ej_cons ev_c ?_ (ej_cons (ev_fmtI (ev_var rfl) (small100 sh.1 sh.2)) ?_ ej_nil)))
          all_goals (simp only [Str.empty_append, Str.length_append, len_door, len_sp]; omega)
        · refine td_ixL (i := if decide (lk < 5) = true then 1 else 0) (lt_lst (ds := [.str ("" : Str), .str (Str.empty ++ (" by " : Str) ++ ts lk)]) (ea_tc (td_str ev_c) (ea_tc (td_str (ev_joined (ej_cons ev_c ?_ (ej_cons (ev_fmtI (ev_var rfl) (small100 sl.1 sl.2)) ?_ ej_nil)))) ea_tn)) (by simp)) (ev_intB (ev_op (ev_var rfl) ev_c rv_I0)) ?_
          · simp only [Str.empty_append, Str.length_append, len_by]; omega
          · simp only [Str.empty_append, Str.length_append, len_by]; omega
          · rw [← etl]
            by_cases c : lk < 5
            · rw [if_pos c, if_pos (by simp [c])]
              exact atI1
            · rw [if_neg c, if_neg (by simp [c])]
              exact atI0
      · rcases List.mem_append.mp hd with h1 | h1
        · exact hsd d h1
        · simp at h1
          subst h1
          exact hsm
    obtain ⟨eH, y5, y6, y7, y8, ds, rfl, hL, hsd, hlen⟩ := hP
    have hdl : ds.length ≤ 91 := by omega
    refine q_asgLT (ds := ([] : List Key2).map keyD) (lt_lst ea_tn (by simp)) fun kl H5 nk e5 hkl => ?_
    have e25 := eH.trans e5
    have nk2 : H2 kl = none := fresh_back eH nk
    have hL5 := hL.ex e5
    refine q_forR1 (n := m2 % 61) (ea_cons (ev_op (x2 e25 rfl) ev_c (rv_I (by decide))) ea_nil) ⟨by omega, by omega⟩ (fun i σ' H6 => Ex H' H6 ∧ ∃ (y5 : Option V) (ks : List Key2), σ' = [some (.ref a), some (.int n), some (.ref mp), some (.ref l), some (.str (Str.join ("\n" : Str) (rowsF n ds ks))), y5, y6, y7, y8, some (.ref kl), none, none] ∧ LstT H6 kl (ks.map keyD) ∧ (∀ k ∈ ks, SmK k) ∧ ks.length = i) (fun H6 e6 => ⟨e5.trans e6, y5, [], rfl, hkl.ex e6, (fun d hd => absurd hd (by simp)), rfl⟩) (fun i σ' H6 hi hP => ?_) (fun σ' H6 hP => ?_)
    · obtain ⟨eH6, y5, ks, rfl, hKL, hsk, hlen2⟩ := hP
      have e26 := eH.trans eH6
      have hdue : (Str.join ("\n" : Str) (rowsF n ds ks)).length ≤ 4000 := by
        have h1 := join_rows_len (rows_len hsn hsd hsk)
        rw [rowsF_len] at h1
        omega
      obtain ⟨due, edue⟩ : ∃ due, Str.join ("\n" : Str) (rowsF n ds ks) = due := ⟨_, rfl⟩
      rw [edue] at hdue ⊢
      obtain ⟨k1, ek1, hk1⟩ : ∃ k1, (i : Int) * m1 % n = k1 ∧ Here n k1 := ⟨_, rfl, mod_here (n := n) (by omega) _⟩
      obtain ⟨k2, ek2, hk2⟩ : ∃ k2, ((i : Int) + m0) % 5 = k2 ∧ (0 ≤ k2 ∧ k2 < 5) := ⟨_, rfl, by omega, by omega⟩
      have s1 : Sm k1 := ⟨hk1.1, by have := hk1.2; omega⟩
      have s2 : Sm k2 := ⟨hk2.1, by omega⟩
      have t1 := ts_len s1.1 s1.2
      have t2 := ts_len s2.1 s2.2
      refine q_appT (d := keyD (k1, k2)) hKL (ev_var rfl) (td_tup (ds := [.int k1, .int k2]) (ea_tc (td_int ?_) (ea_tc (td_int ?_) ea_tn)) (by simp)) (by rw [List.length_map]; omega) fun H8 xs v8 e8 hx8 hp8 => ?_
      · rw [← ek1]
        exact ev_op (ev_op (ev_var rfl) (x1 e26 rfl) (rv_I (by walk_at "mz side"))) (ev_var rfl) (rv_I (by omega))
      · rw [← ek2]
        exact ev_op (ev_op (ev_var rfl) (x0 e26 rfl) rv_I0) ev_c (rv_I (by decide))
      have eHu : Ex H' (upd H8 kl (.lst (xs ++ [v8]))) := Ex.mut (eH6.trans e8) nk
      have hpi : atI (ks.map keyD ++ [keyD (k1, k2)]) (i : Int) = some (keyD (k1, k2)) := at0 (by rw [List.getElem?_append_right (by simp; omega)]; simp [hlen2])
      have hit : EvTd (tOp (rIxL K) (tVar 9) (tVar 5)) [some (.ref a), some (.int n), some (.ref mp), some (.ref l), some (.str due), some (.int (i : Int)), y6, y7, y8, some (.ref kl), none, none] (upd H8 kl (.lst (xs ++ [v8]))) (keyD (k1, k2)) := td_ixLV (ev_var rfl) hp8 (ev_var rfl) hpi
      have hrow : due ++ ("\nkey " : Str) ++ ts k2 ++ (" in " : Str) ++ ts k1 = Str.join ("\n" : Str) (rowsF n ds (ks ++ [(k1, k2)])) := by
        rw [rowsF_pushK, sjoin_snoc _ _ rowsF_ne, edue, nlkey]
        simp only [rowK, Str.append_assoc]
      refine s_asg (v := .str (Str.join ("\n" : Str) (rowsF n ds (ks ++ [(k1, k2)])))) ?_ fun H9 e9 => ⟨eHu.trans e9, _, ks ++ [(k1, k2)], rfl, by rw [List.map_append]; exact (LstT.ex e9 hp8), fun d hd => ?_, by simp [hlen2]⟩
      · rw [← hrow]
        refine ev_op (ev_op (ev_op (ev_op (ev_var rfl) ev_c (rv_addS ?_)) (ev_strI (ev_of_td (td_ixT hit ev_c atI1)) (small100 s2.1 s2.2)) (rv_addS ?_)) ev_c (rv_addS ?_)) (ev_strI (ev_of_td (td_ixT hit ev_c atI0)) (small100 s1.1 s1.2)) (rv_addS ?_)
        all_goals (simp only [Str.length_append, len_nlkey, len_in]; omega)
      · rcases List.mem_append.mp hd with h1 | h1
        · exact hsk d h1
        · simp at h1
          subst h1
          exact ⟨s1, s2⟩
    obtain ⟨eH6, y5, ks, rfl, hKL, hsk, hlen2⟩ := hP
    have hL6 := hL.ex eH6
    refine q_asgP (P := fun v H' => Dp K H' v (mazeF n ds ks)) (ed_tup (ds := [.int n, .list (ds.map doorD), .list (ks.map keyD)]) (ea_dc (ed_int (ev_var rfl)) (ea_dc (ed_lt (lt_list (ev_var rfl) hL6)) (ea_dc (ed_lt (lt_list (ev_var rfl) hKL)) ea_dn))) (by simp)) fun mv H7 e7 hmv => ?_
    refine q_asg (v := .str (Str.join ("\n" : Str) (rowsF n ds ks))) (ev_call0 (ea_cons (ev_var rfl) ea_nil) (sv_written hmv ⟨hsn, hsd, hsk, by omega, by omega⟩)) fun H8 e8 => ?_
    have e68 := e7.trans e8
    refine s_ret (v := .bl (true && (decide (Str.join ("\n" : Str) (rowsF n ds ks) = Str.join ("\n" : Str) (rowsF n ds ks)) && PyData.eqv (mazeF n ds ks) (mazeF n ds ks)))) (ev_andV (ev_isi (n := "str") (ev_var rfl) (fun _ _ => .base (.str _)) (by decide +kernel)) fun _ => ev_andV (ev_op (ev_var rfl) (ev_var rfl) rv_eqS) fun _ => ev_eqD (ed_any (ev_var rfl) (dp_ex e8 hmv)) (ed_tup (ds := [.int n, .list (ds.map doorD), .list (ks.map keyD)]) (ea_dc (ed_int (ev_var rfl)) (ea_dc (ed_any (ev_var rfl) (hL6.ex e68).dp) (ea_dc (ed_any (ev_var rfl) (hKL.ex e68).dp) ea_dn))) (by simp)) (sh_maze n ds ks) (sh_maze n ds ks)) fun H9 e9 => ?_
    have := q H9
    rw [eqv_self (nb_maze n ds ks)]
    simpa using this
end

set_option maxHeartbeats 0

/-! ### the head -/
section
variable {K : PySem.W.Frag} {h : Heap} {mg : Str → Option Value}
def faL : List Fx := ([.fa (.free "int"), .fa (.free "isinstance"), .fa (.free "len"), .fa (.free "list"), .fa (.free "range"), .fa (.free "str"), .fa (.glo "written"), .fa (.glo "_law_mix"), .fa (.glo "_law_cell_at"), .fa (.glo "law")] : List Fx)
def fnL : List He.DefD := ([⟨("written", none), "written", "written", defArgs s_written, defBody s_written, defScope s_written, [], []⟩, ⟨("_law_mix", none), "_law_mix", "_law_mix", defArgs s_l_mix, defBody s_l_mix, defScope s_l_mix, [], []⟩, ⟨("_law_cell_at", none), "_law_cell_at", "_law_cell_at", defArgs s_l_cell_at, defBody s_l_cell_at, defScope s_l_cell_at, [], []⟩, ⟨("law", none), "law", "law", defArgs s_law, defBody s_law, defScope s_law, [], []⟩] : List He.DefD)
theorem txt_of (X : K.In h) (G : h.Ns mainGlobals mg) (c : SaysX faL fnL K) : Txt K mg where
  n_int := He.free_ok X G (c.fact 0 (f := .fa (.free "int")) rfl)
  n_isinstance := He.free_ok X G (c.fact 1 (f := .fa (.free "isinstance")) rfl)
  n_len := He.free_ok X G (c.fact 2 (f := .fa (.free "len")) rfl)
  n_list := He.free_ok X G (c.fact 3 (f := .fa (.free "list")) rfl)
  n_range := He.free_ok X G (c.fact 4 (f := .fa (.free "range")) rfl)
  n_str := He.free_ok X G (c.fact 5 (f := .fa (.free "str")) rfl)
  d_written := c.dfn X G 0 6 rfl rfl fun _ _ _ _ _ _ us hl => match us, hl with | [_], _ => rfl
  d_l_mix := c.dfn X G 1 7 rfl rfl fun _ _ _ _ _ _ us hl => match us, hl with | [_, _], _ => rfl
  d_l_cell_at := c.dfn X G 2 8 rfl rfl fun _ _ _ _ _ _ us hl => match us, hl with | [_, _], _ => rfl
  d_law := c.dfn X G 3 9 rfl rfl fun _ _ _ _ _ _ us hl => match us, hl with | [_], _ => rfl
end
abbrev Rrow : PySem.W.OpenRow := PySem.W.OpenLaw.row PySem.Challenge.rw_mazeguide_k11_written
abbrev hkL : PySem.W.Hook := hookX 4 faL fnL
def looseL : List Str := (["written", "_law_mix", "_law_cell_at"] : List Str)
def obL (s : PySem.W.SharedT) : He.AlD := obsXG 4 faL fnL (HandSHeadRun.getT s)
theorem obL_eq (s : PySem.W.SharedT) : obL s = hkL.obs s.abs := obsXG_eq (HandSHeadRun.getT_eq s)
theorem runL (w : World) : HandSHeadRun.RunEq Rrow (PySem.W.view Rrow.prog [5]) hkL obL 6000 looseL w := by
  intro os
  kernel_rfl
theorem law_fn {P : Program} {w : World} {K : PySem.W.Frag} {h : Heap} {mg : Str → Option Value} {f : Addr} (X : K.In h) (G : h.Ns mainGlobals mg) (hfa : mg ("law" : Str) = some (.ref f)) (c : SaysX faL fnL K) :
    ∃ fd : FuncData, (∀ (s : Shared) (v : Value), BindsTo s fd ⟨[v], []⟩ [("_law_script", v)]) ∧ ∀ base : Heap, K.In base → base.Ns mainGlobals mg → FnOk P w K mg base CX0 2 f fd ["_law_script"] (sp_law K) := by
  have T : Txt K mg := txt_of X G c
  obtain ⟨fd, F⟩ := c.def_ 3 (d := ⟨("law", none), "law", "law", defArgs s_law, defBody s_law, defScope s_law, [], []⟩) rfl
  have e := hfa.symm.trans T.d_law.1
  cases e
  have b := FunD.bindsA (ps := ["_law_script"]) F fun _ _ _ _ _ _ us hl => match us, hl with | [_], _ => rfl
  exact ⟨fd, fun s v => b s [v] rfl, fun base _ _ => ok_law T F⟩
end Mz
open PySem PySem.W PySem.Calls PyProof.Rows
theorem PySem.Challenge.cw_mazeguide_k11_written_holds : PySem.Challenge.rw_mazeguide_k11_written.Holds := by
  w_on; o_law
  refine HandSHeadRun.head_any (r := OpenLaw.row PySem.Challenge.rw_mazeguide_k11_written) (q := view (OpenLaw.row PySem.Challenge.rw_mazeguide_k11_written).prog [5]) (H := Mz.hkL) (ob := Mz.obL) (M := 6000) (loose := Mz.looseL) (d := HandSHeadRun.topDef (OpenLaw.row PySem.Challenge.rw_mazeguide_k11_written).prog 5) (kwd := []) Mz.obL_eq
    (by kernel_rfl) (fun s => by kernel_rfl) Mz.runL (by kernel_rfl) (by kernel_rfl) (by kernel_rfl) (by rfl) (by first | assumption | decide +kernel) (by decide +kernel) ⟨rfl, rfl, rfl, rfl, rfl, by decide +kernel⟩ ?hw ?hc
  case hw => w_witness2
  case hc =>
    refine L2.walk_ofE (l := PySem.Challenge.rw_mazeguide_k11_written) (n := 63) (k := 2) (x := "_law_script") (CX := L2.CX0) rfl (by decide) (by kernel_rfl) ⟨rfl, by decide, by decide⟩ ?F (fun _ _ _ _ z => z)
    intro w mg fa h Y G hmg0
    obtain ⟨K, KX, c⟩ := Y
    have hmg : mg ("law" : PySem.Str) = some (.ref fa) := by
      have e : (HandSHeadRun.topDef (OpenLaw.row PySem.Challenge.rw_mazeguide_k11_written).prog 5).name = ("law" : PySem.Str) := by kernel_rfl
      rw [← e]
      exact hmg0
    obtain ⟨fd, hb, hF⟩ := Mz.law_fn (P := (PySem.Challenge.rw_mazeguide_k11_written).prog) (w := w) KX G hmg c
    exact ⟨K, fd, Mz.sp_law K, KX, hb, fun H a ns hl _ hS => ⟨a, ns, rfl, hS, hl, fun _ => rfl⟩, hF⟩
