import PyProof.Rows.All
import Wide.All
import OpenK.AllK
import Wide.FinOn
import PyProof.EqAt
import PyProof.EqKinds
import PyProof.TupleCall
import KE.KStateDown
import HandS.ForMost
import HandS.ForExc
import HandS.Deep
import HandS.TupAny
import HandS.IsInst
import HandS.ExcIs
import HandS.TryMany
import HandS.Defaults
import HandS.Head0
import HandS.Head1
import HandS.Head2
import HandS.HeadEnd
import HandS.HeadHook1
import HandS.HeadHook2
import HandS.Evl
import HandS.Text
import Lean
import PySem.Challenge.RW_mazeguide_k05_mazes_checked
set_option Elab.async false
set_option linter.all false
set_option maxRecDepth 100000
set_option maxHeartbeats 4000000
namespace Mz
open PySem PySem.Spec PyProof.Rows L2

/-! ### a def that keeps its promise -/
/-- the def of the text at the module's name x -/
def Dfn (K : PySem.W.Frag) (mg : Str → Option Value) (x : Str) (st : Stmt) (ps : List Str) : Prop :=
  mg x = some (.ref (He.ga K x)) ∧ ∃ fd, FunD K x x (defArgs st) (defBody st) (defScope st) [] [] (He.ga K x) fd ∧ Binds K fd ps []
def Kept (P : Program) (w : World) (K : PySem.W.Frag) (mg : Str → Option Value) (base : Heap) (k : Nat) (x : Str) (ps : List Str) (sp : Sp) : Prop :=
  ∃ f fd, FnOk P w K mg base (L2.CX P w) k f fd ps sp ∧ mg x = some (.ref f) ∧ PySem.W.keepIn K (.ref f) = true ∧ Binds K fd ps []
section
variable {P : Program} {w : World} {K : PySem.W.Frag} {mg : Str → Option Value} {base : Heap}
theorem Dfn.kept {x : Str} {st : Stmt} {N ps : List Str} {k : Nat} {sp : Sp} (D : Dfn K mg x st ps) (S : FnScope N ps (defScope st)) (len : ∀ vs H Q E, sp vs H Q E → vs.length = ps.length)
    (hbody : ∀ (cdv : Value) (A : Around) (outer : List Env) (s : Shared) (H : Hp) (vs : List V) (Q : VK) (E : XK), Room k (A.deeper (envOfC x (defScope st) s.heap.objs.size (He.ga K x) cdv)) → sp vs H Q E →
      ∃ t, PSs (cxOf (L2.CX P w) P w K mg base N x (defScope st) (He.ga K x) cdv A outer s H E) (defBody st) t ∧ t { nx := fun _ H' => Q .non H', rt := Q } (start N vs) H) :
    Kept P w K mg base (k + 1) x ps sp := by
  obtain ⟨g, fd, F, b⟩ := D
  exact ⟨_, fd, F.ok S len hbody, g, F.kp, b⟩
end
section
variable {X : Cx} {k : Nat} {x : Str} {ps : List Str} {sp : Sp} {p pos : Pos} {e : Expr} {es : List Expr} {t : TA}
theorem pe_fn {E : XK} (F : Kept X.prog X.w X.K X.mg X.base k x ps sp) (hr : Room k X.A) (hx : Passes (L2.CX X.prog X.w) X E) (hg : Gl X x) (ha : PA X (e :: es) t)
    (hdb : (x == ("__debug__" : Str)) = false := by decide) (he : starEach (e :: es) X.env = (false, eval e X.env) :: starEach es X.env := by rfl) (hpl : (backTo pos (starEach es X.env)).any (·.1) = false := by rfl) :
    PE X (.Call (.Name x p) (e :: es) [] pos) (tCall sp [] E t) := by
  obtain ⟨f, fd, G, g, kp, b⟩ := F
  exact pe_call G hr hg g kp b .nil hx ha hdb he hpl
theorem pe_fnS {E : L2.St → XK} (F : Kept X.prog X.w X.K X.mg X.base k x ps sp) (hr : Room k X.A) (hx : ∀ st, PassesAt (L2.CX X.prog X.w) X st (E st)) (ha : PA X (e :: es) t) (hg : Gl X x := by rfl)
    (hdb : (x == ("__debug__" : Str)) = false := by decide) (he : starEach (e :: es) X.env = (false, eval e X.env) :: starEach es X.env := by rfl) (hpl : (backTo pos (starEach es X.env)).any (·.1) = false := by rfl) :
    PE X (.Call (.Name x p) (e :: es) [] pos) (tCallS sp E t) := by
  obtain ⟨f, fd, G, g, kp, b⟩ := F
  exact pe_callS G hr hg g kp b hx ha hdb he hpl
theorem passR {E : XK} (tk : L2.Takes X (fun cls d _ H => E cls d H)) : Passes (L2.CX X.prog X.w) X E := passes_call tk fun _ _ _ _ h => h
theorem takes0x : L2.Takes X (fun _ _ _ _ => False) := takes0
theorem pe_gint {i : Int} (h : ∃ tk, X.mg x = some (.int i tk)) (hg : Gl X x) (hd : (x == ("__debug__" : Str)) = false := by decide) : PE X (.Name x p) (tC (.int i)) := by
  obtain ⟨tk, h⟩ := h
  exact pe_glob hg h ⟨tk, rfl⟩ hd
theorem pe_gstr {z : Str} (h : ∃ tk, X.mg x = some (.str z tk)) (hg : Gl X x) (hd : (x == ("__debug__" : Str)) = false := by decide) : PE X (.Name x p) (tC (.str z)) := by
  obtain ⟨tk, h⟩ := h
  exact pe_glob hg h ⟨tk, rfl⟩ hd
theorem pe_gref {a : Addr} (h : X.mg x = some (.ref a)) (hg : Gl X x) (hd : (x == ("__debug__" : Str)) = false := by decide) : PE X (.Name x p) (tC (.ref a)) := pe_glob hg h rfl hd
end
theorem u65 {k : Nat} {A : Around} (hr : Room k A) : A.units + 65 < cLine := by have := hr.un; omega

/-! ### exception classes of the text -/
structure ExcT (K : PySem.W.Frag) (mg : Str → Option Value) (x : Str) : Prop where
  gC : mg x = some (.ref (He.ga K x))
  xC : PySem.W.excIn K (He.ga K x) [.type "ValueError", .type "Exception", .type "BaseException", .type "object"] "ValueError.__new__" = true
  kC : PySem.W.keepIn K (.ref (He.ga K x)) = true
  bC : PySem.W.subIn K (.ref (He.ga K x)) (.type "BaseException") = some true
  tC : PySem.W.typeIn K (.ref (He.ga K x)) = some (.type "type")
/-! ### the head's facts -/
inductive Fx where
  | fa (f : He.Fa)
  | excC (x : Str)
  | kit (x y : Str) (b : Bool)
  | kitT (x : Str) (n : String) (b : Bool)
def Fx.ok (K : PySem.W.Frag) : Fx → Bool
  | .fa f => f.ok K
  | .excC x => He.eqO (PySem.W.findIn K (.ref (He.ga K x)) "__getattribute__") (some (some (.builtin "BaseException.__getattribute__"))) && (He.eqO (PySem.W.findIn K (.ref (He.ga K x)) "__getattr__") (some none) && (decide (PySem.W.subIn K (.ref (He.ga K x)) (.type "BaseException") = some true) &&
      (PySem.W.hasDictIn K (He.ga K x) && (He.eqO (PySem.W.findIn K (.ref (He.ga K x)) "__class__") (some (some (.builtin "object.__class__"))) && (He.eqO (PySem.W.specialIn K (.builtin "object.__class__") "__get__") (some (some (.builtin "getset_descriptor.__get__"))) &&
        (decide (PySem.W.takesIn K (.builtin "object.__class__") = some true) && decide (PySem.W.mroIn K (He.ga K x) (.type "object") = some true)))))))
  | .kit x y b => decide (PySem.W.kitOne K (.ref (He.ga K x)) (.ref (He.ga K y)) = some b)
  | .kitT x n b => decide (PySem.W.kitOne K (.ref (He.ga K x)) (.type n) = some b)
theorem excC_ok {K : PySem.W.Frag} {x : Str} (c : (Fx.excC x).ok K = true) : ExcC K (He.ga K x) := by
  obtain ⟨h1, c⟩ := He.ba c
  obtain ⟨h2, c⟩ := He.ba c
  obtain ⟨h3, c⟩ := He.ba c
  obtain ⟨h4, c⟩ := He.ba c
  obtain ⟨h5, c⟩ := He.ba c
  obtain ⟨h6, c⟩ := He.ba c
  obtain ⟨h7, h8⟩ := He.ba c
  exact ⟨He.eqO_ok h1, He.eqO_ok h2, of_decide_eq_true h3, h4, He.eqO_ok h5, He.eqO_ok h6, of_decide_eq_true h7, of_decide_eq_true h8⟩
theorem excT_ok {K : PySem.W.Frag} {h : Heap} {mg : Str → Option Value} (X : K.In h) (G : h.Ns mainGlobals mg) {x : Str} (g : (He.Fa.glo x).ok K = true) (c : (He.Fa.exc x).ok K = true) : ExcT K mg x := by
  obtain ⟨h1, h2, h3, h4⟩ := He.exc_ok c
  exact ⟨He.glo_ok X G g, h1, h2, h3, h4⟩
def obsX (fa : List Fx) (fn : List He.DefD) (K : PySem.W.Frag) : He.AlD := ((fa.all fun f => f.ok K) && fn.all fun d => d.ok K, fn.map fun d => He.fnW K d.at_)
def SaysX (fa : List Fx) (fn : List He.DefD) (K : PySem.W.Frag) : Prop := obsX fa fn K = He.valD fn
def obsXG (n : Nat) (fa : List Fx) (fn : List He.DefD) (g : Addr → Option Obj) : He.AlD := obsX fa fn (He.frG g (He.asD g n))
def hookX (n : Nat) (fa : List Fx) (fn : List He.DefD) : PySem.W.Hook where
  α := He.AlD
  obs := fun s => obsXG n fa fn s.heap.get?
  val := fun _ => He.valD fn
  says := fun _ h => ∃ K : PySem.W.Frag, K.In h ∧ SaysX fa fn K
  of := fun _ _ e => ⟨_, He.frG_in, e⟩
  keeps := fun _ _ _ ⟨K, hK, c⟩ k => ⟨K, PySem.W.Frag.In.keeps hK k, c⟩
theorem obsXG_eq {n : Nat} {fa : List Fx} {fn : List He.DefD} {g : Addr → Option Obj} {s : Shared} (h : ∀ a, g a = s.heap.get? a) : obsXG n fa fn g = (hookX n fa fn).obs s := by
  have e : g = s.heap.get? := funext h
  rw [e]
  rfl
section
variable {fa : List Fx} {fn : List He.DefD} {K : PySem.W.Frag}
theorem SaysX.fact (c : SaysX fa fn K) (i : Nat) {f : Fx} (h : fa[i]? = some f := by rfl) : f.ok K = true := by
  have e : ((fa.all fun f => f.ok K) && fn.all fun d => d.ok K) = true := congrArg Prod.fst c
  have e1 := (He.ba e).1
  exact List.all_eq_true.mp e1 f (List.mem_of_getElem? h)
theorem SaysX.def_ (c : SaysX fa fn K) (i : Nat) {d : He.DefD} (h : fn[i]? = some d := by rfl) : ∃ fd, FunD K d.name d.qual d.params d.body d.scope (d.dvs K) (d.kws K) (He.fAd K d.at_) fd := by
  have e : ((fa.all fun f => f.ok K) && fn.all fun d => d.ok K) = true := congrArg Prod.fst c
  have e2 := List.all_eq_true.mp (He.ba e).2 d (List.mem_of_getElem? h)
  have e3 : (fn.map fun d => He.fnW K d.at_) = fn.map He.DefD.val := congrArg Prod.snd c
  have e4 : He.fnW K d.at_ = d.val := by
    have q := congrArg (fun l => l[i]?) e3
    simp only [List.getElem?_map, h, Option.map_some, Option.some.injEq] at q
    exact q
  exact He.DefD.funD e4 e2
theorem SaysX.dfn {mg : Str → Option Value} {h : Heap} (X : K.In h) (G : h.Ns mainGlobals mg) (c : SaysX fa fn K) {x : Str} {st : Stmt} {ps : List Str} (i j : Nat) (hd : fn[i]? = some ⟨(x, none), x, x, defArgs st, defBody st, defScope st, [], []⟩) (hj : fa[j]? = some (.fa (.glo x)))
    (hb : ∀ (kV doc pm : Value) (an : Option Addr) (cdv ct : Value) (us : List Value), us.length = ps.length → bindArgs (PySem.W.fnOf x x (defArgs st) (defBody st) (defScope st) .none kV doc pm an cdv ct) ⟨us, []⟩ = pure (ps.zip us)) : Dfn K mg x st ps := by
  obtain ⟨fd, F⟩ := c.def_ i hd
  exact ⟨He.glo_ok X G (c.fact j hj), fd, F, FunD.bindsN F hb⟩
end
/-- the law's end -/
theorem cx_end {P : Program} {w : World} (H : Hp) (s : Shared) (e : Value) (s' : Shared) (h : L2.CX P w [] H s (fun _ _ _ => False) e s') : False := by
  obtain ⟨_, _, _, _, _, _, _, _, _, _, _, _, z⟩ := h
  exact z
/-! ### a suite whose exception is of a class of the text -/
theorem pss_exc {X : Cx} {sts : List Stmt} {K : PySem.W.Frag} {cls : Value} {dd : Option Addr} {oe : Obj} {t : Addr → TS} (hz : Zc cls dd oe) (h : ∀ D, ExcC K D → Zc (.ref D) none oe → PSs X sts (t D)) :
    PSs X sts (fun Dn st H => ∃ D, (cls = .ref D ∧ dd = none ∧ ExcC K D) ∧ t D Dn st H) := ⟨fun pins s st H Dn I q => by
  obtain ⟨D, ⟨rfl, rfl, hx⟩, q⟩ := q
  exact (h D hx hz).run pins s st H Dn I q⟩
/-! ### xs.count(y), flat items -/
theorem countP_eqU {y : V} : ∀ {xs : List V} {us : List Value}, Vals xs us → xs.all flatV = true → us.countP (eqU y) = xs.countP fun z => eqV z y
  | _, _, .nil, _ => rfl
  | _, _, .cons r t, f => by
    simp only [List.all_cons, Bool.and_eq_true] at f
    rw [List.countP_cons, List.countP_cons, countP_eqU t f.2, eqU_of r f.1]
def rCntF (K : PySem.W.Frag) : V → List V → Hp → VK → Prop := fun x vs H Q => ∃ (p : Addr) (xs : List V) (y : V), x = .ref p ∧ vs = [y] ∧ SqL K H p xs ∧ flatV y = true ∧ xs.all flatV = true ∧ Q (.int (xs.countP (fun z => eqV z y) : Nat)) H
theorem mt_countF {X : Cx} : MtR X "list.count" (rCntF X.K) := by
  intro pins s st H x vs v us Q I rx rxs h
  obtain ⟨p, xs, y, rfl, rfl, hs, fy, fx, q⟩ := h
  cases rx
  obtain ⟨u, rfl, ru⟩ := rxs.one
  obtain ⟨its, rv, ⟨⟨cls, dd, data, sl⟩, n, ho, hc, hdn, hd⟩, hlen⟩ := I.list hs
  simp only at hc hd
  subst hc hd
  refine call_meets PySem.F.slot_list_count ⟨_, ho, rfl⟩ PySem.F.entry_list_count (PySem.F.args_list_count_2 _ _)
    (SeqAt.list_countAt p its.toArray n dd sl u (eqU y)) ⟨ho, fun z hz => mem_eqAt ru fy rv fx z (by simpa using hz), ?_⟩
  have ec : its.toArray.toList.countP (eqU y) = xs.countP fun z => eqV z y := countP_eqU rv fx
  refine ⟨.int (xs.countP (fun z => eqV z y) : Nat), H, I.tok _, ⟨s.toks, ?_⟩, q⟩
  show Value.int ((its.toArray.toList.countP (eqU y) : Nat) : Int) s.toks = Value.int ((xs.countP (fun z => eqV z y) : Nat) : Int) s.toks
  rw [ec]
theorem mt_countF_K {X : Cx} {K : PySem.W.Frag} (h : X.K = K) : MtR X "list.count" (rCntF K) := by subst h; exact mt_countF
/-! ### the same rules, the written part named (within a comprehension) -/
section
variable {X : Cx} {K : PySem.W.Frag}
theorem ix_list_K (h : X.K = K) : IxR X (rIxL K) := by subst h; exact ix_list
theorem ix_seq_K (h : X.K = K) : IxR X (rIx K) := by subst h; exact ix_seq
theorem sl_tupA_K (h : X.K = K) : SlR X (rSlA K) := by subst h; exact sl_tupA
theorem op_catA_K (h : X.K = K) : OpR X (binaryOp .Add) (rCatA K) := by subst h; exact op_catA
theorem cr_sorted_K (h : X.K = K) : CallR X (.builtin "sorted") (rSorted K) := by subst h; exact cr_sorted
theorem pi_list_K {tg l : Expr} {tl : TE} (h : X.K = K) (hl : PE X l tl) : PI X tg l (iList K tl) := by subst h; exact pi_list hl
theorem pi_tup_K {tg l : Expr} {tl : TE} (h : X.K = K) (hl : PE X l tl) : PI X tg l (iTup K tl) := by subst h; exact pi_tup hl
theorem pg_tup_K {es : List Expr} {k : Nat} {t : TGs} {n : Nat} {pos : Pos} (hK : X.K = K) (hc : X.calm = true) (h : PGs X es t) (hn : (assignEach es X.env).length = n := by rfl) (hst : (assignEach es X.env).findIdx? (·.1) = none := by rfl) : PG X (.Tuple es k pos) (gTup K n t) := by
  subst hK; exact pg_tup hc h hn hst
theorem pe_bm0_K {o : Expr} {to : TE} {name : Str} {apos cpos : Pos} {T id : String} {r : V → List V → Hp → VK → Prop} (hK : X.K = K) (pa : PlainAttrs T) (slot : Slot T name id) (hty : typeOf (.builtin id) = pure (.type "method_descriptor")) (hm : MtR X id r) (ho : PE X o to)
    (hbase : attributeBase o name X.env (eval o X.env) = eval o X.env := by rfl) (hline : (apos.endLine == cpos.line) = true := by rfl) : PE X (.Call (.Attribute o name apos) [] [] cpos) (tBM0 K T r to) := by
  subst hK; exact pe_bm0 pa slot hty hm ho hbase hline
theorem pe_bm_K {o e : Expr} {es : List Expr} {to : TE} {t : TA} {name : Str} {apos cpos : Pos} {T id : String} {r : V → List V → Hp → VK → Prop} (hK : X.K = K) (pa : PlainAttrs T) (slot : Slot T name id) (hty : typeOf (.builtin id) = pure (.type "method_descriptor")) (hm : MtR X id r) (ho : PE X o to) (ha : PA X (e :: es) t)
    (hbase : attributeBase o name X.env (eval o X.env) = eval o X.env := by rfl)
    (hfew : ((backTo cpos (starEach (e :: es) X.env)).all (fun x => !x.1) && (backToKw cpos (keywordEach [] X.env)).all (fun x => x.1.isSome) && decide ((e :: es).length + ([] : List Keyword).length + (if ([] : List Keyword).isEmpty then 0 else 1) < 30)) = true := by rfl)
    (hline : (apos.endLine == cpos.line) = true := by rfl) (hs : starEach (e :: es) X.env = (false, eval e X.env) :: starEach es X.env := by rfl) (hplain : (backTo cpos (starEach es X.env)).any (·.1) = false := by rfl) :
    PE X (.Call (.Attribute o name apos) (e :: es) [] cpos) (tBM K T r to t) := by
  subst hK; exact pe_bm pa slot hty hm ho ha hbase hfew hline hs hplain
theorem ix_tup_K (h : X.K = K) : IxR X (rIxT K) := by subst h; exact ix_tup
theorem sl_list_K (h : X.K = K) : SlR X (rSlL K) := by subst h; exact sl_list
theorem call_len_seq_K (h : X.K = K) : CallR X (.builtin "len") (fun xs H Q => ∃ p ys, xs = [.ref p] ∧ (SqL K H p ys ∨ SqT K H p ys) ∧ Q (.int ys.length) H) := by subst h; exact call_len_seq
theorem call_list_of_K (h : X.K = K) : CallR X (.type "list") (fun xs H Q => ∃ p ys, xs = [.ref p] ∧ (SqL K H p ys ∨ SqT K H p ys) ∧ ∀ l, H l = none → Q (.ref l) (upd H l (.lst ys))) := by subst h; exact call_list_of
theorem call_tuple_of_K (h : X.K = K) : CallR X (.type "tuple") (fun xs H Q => ∃ p ys, xs = [.ref p] ∧ ((SqL K H p ys ∧ ∀ l, H l = none → Q (.ref l) (upd H l (.tup ys))) ∨ (SqT K H p ys ∧ Q (.ref p) H))) := by subst h; exact call_tuple_of
theorem call_isi_K (h : X.K = K) : CallR X (.builtin "isinstance") (rIsi K) := by subst h; exact call_isi
theorem op_eqD_K (h : X.K = K) (hu : X.A.units + 64 < cLine) : OpR X (compareOp .Eq) (rEqD K) := by subst h; exact op_eqD hu
theorem op_neD_K (h : X.K = K) (hu : X.A.units + 64 < cLine) : OpR X (compareOp .NotEq) (rNeD K) := by subst h; exact op_neD hu
theorem op_inD_K (h : X.K = K) (hu : X.A.units + 65 < cLine) : OpR X (compareOp .In) (rInD K) := by subst h; exact op_inD hu
theorem op_notInD_K (h : X.K = K) (hu : X.A.units + 65 < cLine) : OpR X (compareOp .NotIn) (rNotInD K) := by subst h; exact op_notInD hu
theorem op_in_seq_K (h : X.K = K) : OpR X (compareOp .In) (rIn K false) := by subst h; exact op_in_seq
theorem op_notIn_seq_K (h : X.K = K) : OpR X (compareOp .NotIn) (rIn K true) := by subst h; exact op_notIn_seq
end
end Mz
namespace Mz
open PySem PySem.Spec PyProof.Rows L2 Evl

/-! ### data made of tuples alone: it stays while lists change -/
mutual
inductive Td (H : Hp) : V → PyData → Prop
  | non : Td H .non .none
  | bl (b : Bool) : Td H (.bl b) (.bool b)
  | int (i : Int) : Td H (.int i) (.int i)
  | str (x : Str) : Td H (.str x) (.str x)
  | tup {a : Addr} {xs : List V} {ds : List PyData} : H a = some (.tup xs) → TdAll H xs ds → Td H (.ref a) (.tuple ds)
inductive TdAll (H : Hp) : List V → List PyData → Prop
  | nil : TdAll H [] []
  | cons {v : V} {vs : List V} {d : PyData} {ds : List PyData} : Td H v d → TdAll H vs ds → TdAll H (v :: vs) (d :: ds)
end
section
variable {K : PySem.W.Frag} {H H' : Hp}
mutual
theorem Td.keep (k : ∀ b xs, H b = some (.tup xs) → H' b = some (.tup xs)) : ∀ {d : PyData} {v : V}, Td H v d → Td H' v d
  | .none, _, .non => .non
  | .bool _, _, .bl b => .bl b
  | .int _, _, .int i => .int i
  | .str _, _, .str x => .str x
  | .tuple ds, _, .tup h r => .tup (k _ _ h) (TdAll.keep k r)
theorem TdAll.keep (k : ∀ b xs, H b = some (.tup xs) → H' b = some (.tup xs)) : ∀ {ds : List PyData} {vs : List V}, TdAll H vs ds → TdAll H' vs ds
  | [], _, .nil => .nil
  | _ :: _, _, .cons h r => .cons (Td.keep k h) (TdAll.keep k r)
end
mutual
theorem Td.dp : ∀ {d : PyData} {v : V}, Td H v d → Dp K H v d
  | .none, _, .non => .non
  | .bool _, _, .bl b => .bl b
  | .int _, _, .int i => .int i
  | .str _, _, .str x => .str x
  | .tuple ds, _, .tup h r => .tup (SqT.of h) (TdAll.dp r)
theorem TdAll.dp : ∀ {ds : List PyData} {vs : List V}, TdAll H vs ds → DpAll K H vs ds
  | [], _, .nil => .nil
  | _ :: _, _, .cons h r => .cons (Td.dp h) (TdAll.dp r)
end
mutual
theorem dp_ex (e : Ex H H') : ∀ {d : PyData} {v : V}, Dp K H v d → Dp K H' v d
  | .none, _, .non => .non
  | .bool _, _, .bl b => .bl b
  | .int _, _, .int i => .int i
  | .str _, _, .str x => .str x
  | .list ds, _, .lst h r => .lst (ex_l e h) (dpAll_ex e r)
  | .tuple ds, _, .tup h r => .tup (ex_t e h) (dpAll_ex e r)
theorem dpAll_ex (e : Ex H H') : ∀ {ds : List PyData} {vs : List V}, DpAll K H vs ds → DpAll K H' vs ds
  | [], _, .nil => .nil
  | _ :: _, _, .cons h r => .cons (dp_ex e h) (dpAll_ex e r)
end
theorem Td.ex (e : Ex H H') {d : PyData} {v : V} (h : Td H v d) : Td H' v d := Td.keep (fun b xs q => e b _ q) h
theorem TdAll.ex (e : Ex H H') {ds : List PyData} {vs : List V} (h : TdAll H vs ds) : TdAll H' vs ds := TdAll.keep (fun b xs q => e b _ q) h
theorem upd_tups {l : Addr} {xs : List V} {o : HO} (h : H l = some (.lst xs)) : ∀ b ys, H b = some (.tup ys) → upd H l o b = some (.tup ys) := fun b ys q => by
  rw [upd_ne (ne_of q h (fun z => by cases z))]
  exact q
theorem Td.upd {l : Addr} {xs : List V} {o : HO} (h : H l = some (.lst xs)) {d : PyData} {v : V} (q : Td H v d) : Td (L2.upd H l o) v d := Td.keep (upd_tups h) q
theorem TdAll.upd {l : Addr} {xs : List V} {o : HO} (h : H l = some (.lst xs)) {ds : List PyData} {vs : List V} (q : TdAll H vs ds) : TdAll (L2.upd H l o) vs ds := TdAll.keep (upd_tups h) q
theorem TdAll.append {ds es : List PyData} : ∀ {vs us : List V}, TdAll H vs ds → TdAll H us es → TdAll H (vs ++ us) (ds ++ es) := by
  induction ds with
  | nil => intro vs us h q; cases h; exact q
  | cons d r ih => intro vs us h q; cases h with | cons a b => exact .cons a (ih b q)
theorem TdAll.len {ds : List PyData} : ∀ {vs : List V}, TdAll H vs ds → vs.length = ds.length := by
  induction ds with
  | nil => intro vs h; cases h; rfl
  | cons d r ih => intro vs h; cases h with | cons a b => simp [ih b]
theorem TdAll.get {ds : List PyData} : ∀ {vs : List V} {i : Nat} {d : PyData}, TdAll H vs ds → ds[i]? = some d → ∃ v, vs[i]? = some v ∧ Td H v d := by
  induction ds with
  | nil => intro vs i d h q; simp at q
  | cons d r ih =>
    intro vs i d' h q
    cases h with
    | cons a b =>
      cases i with
      | zero => simp at q; subst q; exact ⟨_, rfl, a⟩
      | succ i => simp at q; obtain ⟨v, e, t⟩ := ih b q; exact ⟨v, by simpa using e, t⟩
theorem TdAll.getV {ds : List PyData} : ∀ {vs : List V} {i : Nat} {v : V}, TdAll H vs ds → vs[i]? = some v → ∃ d, ds[i]? = some d ∧ Td H v d := by
  induction ds with
  | nil => intro vs i d h q; cases h; simp at q
  | cons d r ih =>
    intro vs i d' h q
    cases h with
    | cons a b =>
      cases i with
      | zero => simp at q; subst q; exact ⟨_, rfl, a⟩
      | succ i => simp at q; obtain ⟨v, e, t⟩ := ih b q; exact ⟨v, by simpa using e, t⟩
theorem dpAll_len {ds : List PyData} : ∀ {vs : List V}, DpAll K H vs ds → vs.length = ds.length := by
  induction ds with
  | nil => intro vs h; cases h; rfl
  | cons d r ih => intro vs h; cases h with | cons a b => simp [ih b]
theorem dpAll_getV {ds : List PyData} : ∀ {vs : List V} {i : Nat} {v : V}, DpAll K H vs ds → vs[i]? = some v → ∃ d, ds[i]? = some d ∧ Dp K H v d := by
  induction ds with
  | nil => intro vs i d h q; cases h; simp at q
  | cons d r ih =>
    intro vs i d' h q
    cases h with
    | cons a b =>
      cases i with
      | zero => simp at q; subst q; exact ⟨_, rfl, a⟩
      | succ i => simp at q; obtain ⟨v, e, t⟩ := ih b q; exact ⟨v, by simpa using e, t⟩
theorem dpAll_get {ds : List PyData} : ∀ {vs : List V} {i : Nat} {d : PyData}, DpAll K H vs ds → ds[i]? = some d → ∃ v, vs[i]? = some v ∧ Dp K H v d := by
  induction ds with
  | nil => intro vs i d h q; simp at q
  | cons d r ih =>
    intro vs i d' h q
    cases h with
    | cons a b =>
      cases i with
      | zero => simp at q; subst q; exact ⟨_, rfl, a⟩
      | succ i => simp at q; obtain ⟨v, e, t⟩ := ih b q; exact ⟨v, by simpa using e, t⟩
theorem dpAll_append {ds es : List PyData} : ∀ {vs us : List V}, DpAll K H vs ds → DpAll K H us es → DpAll K H (vs ++ us) (ds ++ es) := by
  induction ds with
  | nil => intro vs us h q; cases h; exact q
  | cons d r ih => intro vs us h q; cases h with | cons a b => exact .cons a (ih b q)
/-- ints -/
theorem td_ints : ∀ ns : List Int, TdAll H (ns.map V.int) (ns.map PyData.int)
  | [] => .nil
  | n :: r => .cons (.int n) (td_ints r)
theorem td_int_inv {v : V} {i : Int} (h : Td H v (.int i)) : v = .int i := by cases h; rfl
theorem dp_int_inv {v : V} {i : Int} (h : Dp K H v (.int i)) : v = .int i := by cases h; rfl
theorem dpAll_ints : ∀ {ns : List Int} {vs : List V}, DpAll K H vs (ns.map PyData.int) → vs = ns.map V.int
  | [], _, .nil => rfl
  | n :: r, _, .cons h q => by rw [dp_int_inv h, dpAll_ints q]; rfl
theorem tdAll_ints : ∀ {ns : List Int} {vs : List V}, TdAll H vs (ns.map PyData.int) → vs = ns.map V.int
  | [], _, .nil => rfl
  | n :: r, _, .cons h q => by rw [td_int_inv h, tdAll_ints q]; rfl
/-- a list that stands, of such data -/
def LstT (H : Hp) (p : Addr) (ds : List PyData) : Prop := ∃ xs, H p = some (.lst xs) ∧ TdAll H xs ds
theorem LstT.ex (e : Ex H H') {p : Addr} {ds : List PyData} (h : LstT H p ds) : LstT H' p ds := by
  obtain ⟨xs, a, b⟩ := h
  exact ⟨xs, e _ _ a, b.ex e⟩
theorem LstT.dp {p : Addr} {ds : List PyData} (h : LstT H p ds) : Dp K H (.ref p) (.list ds) := by
  obtain ⟨xs, a, b⟩ := h
  exact .lst (SqL.of a) b.dp
theorem LstT.push {p : Addr} {ds : List PyData} {d : PyData} {v : V} {xs : List V} (h : H p = some (.lst xs)) (b : TdAll H xs ds) (t : Td H v d) : LstT (L2.upd H p (.lst (xs ++ [v]))) p (ds ++ [d]) :=
  ⟨_, upd_same, TdAll.append (b.upd h) (.cons (t.upd h) .nil)⟩
end

theorem at0 {ds : List PyData} {d : PyData} {j : Nat} (h : ds[j]? = some d := by rfl) : atI ds (j : Int) = some d := atI_nat h
theorem atI0 {d : PyData} {r : List PyData} : atI (d :: r) 0 = some d := at0 (j := 0)
theorem atI1 {a d : PyData} {r : List PyData} : atI (a :: d :: r) 1 = some d := at0 (j := 1)
theorem atI2 {a b d : PyData} {r : List PyData} : atI (a :: b :: d :: r) 2 = some d := at0 (j := 2)
/-! ### what evaluates to data -/
def EvP (te : TE) (σ : L2.St) (H : Hp) (P : V → Hp → Prop) : Prop := ∀ H1, Ex H H1 → ∀ Q : VK, (∀ v H2, Ex H1 H2 → P v H2 → Q v H2) → te σ H1 Q
def EaP (ta : TA) (σ : L2.St) (H : Hp) (P : List V → Hp → Prop) : Prop := ∀ H1, Ex H H1 → ∀ Q : List V → Hp → Prop, (∀ v H2, Ex H1 H2 → P v H2 → Q v H2) → ta σ H1 Q
abbrev EvD (K : PySem.W.Frag) (te : TE) (σ : L2.St) (H : Hp) (d : PyData) : Prop := EvP te σ H fun v H' => Dp K H' v d
abbrev EvTd (te : TE) (σ : L2.St) (H : Hp) (d : PyData) : Prop := EvP te σ H fun v H' => Td H' v d
abbrev EaTd (ta : TA) (σ : L2.St) (H : Hp) (ds : List PyData) : Prop := EaP ta σ H fun vs H' => TdAll H' vs ds
abbrev EaD (K : PySem.W.Frag) (ta : TA) (σ : L2.St) (H : Hp) (ds : List PyData) : Prop := EaP ta σ H fun vs H' => DpAll K H' vs ds
/-- a new list of such data -/
def EvLT (te : TE) (σ : L2.St) (H : Hp) (ds : List PyData) : Prop := ∀ H1, Ex H H1 → ∀ Q : VK, (∀ p H2, H1 p = none → Ex H1 H2 → LstT H2 p ds → Q (.ref p) H2) → te σ H1 Q
section
variable {K : PySem.W.Frag} {σ : L2.St} {H H' : Hp} {ta tb te tx : TE} {t u : TT} {x y z v : V} {r : R2} {tr : TA} {D : Ends} {tu tw tz : TS} {P P' : V → Hp → Prop} {d : PyData} {ds : List PyData}
theorem EvP.mono (e : Ex H H') (h : EvP te σ H P) : EvP te σ H' P := fun H1 e1 => h H1 (e.trans e1)
theorem EvLT.mono (e : Ex H H') (h : EvLT te σ H ds) : EvLT te σ H' ds := fun H1 e1 => h H1 (e.trans e1)
theorem EvP.imp (h : EvP te σ H P) (k : ∀ v H2, Ex H H2 → P v H2 → P' v H2) : EvP te σ H P' := fun H1 e Q q => h H1 e Q fun v H2 e2 p => q v H2 e2 (k v H2 (e.trans e2) p)
theorem ep_ev (h : Ev te σ H v) (k : ∀ H2, Ex H H2 → P v H2) : EvP te σ H P := fun H1 e Q q => h H1 e Q fun H2 e2 => q v H2 e2 (k H2 (e.trans e2))
theorem td_int {i : Int} (h : Ev te σ H (.int i)) : EvTd te σ H (.int i) := ep_ev h fun _ _ => .int i
theorem td_non (h : Ev te σ H .non) : EvTd te σ H .none := ep_ev h fun _ _ => .non
theorem td_bl {b : Bool} (h : Ev te σ H (.bl b)) : EvTd te σ H (.bool b) := ep_ev h fun _ _ => .bl b
theorem td_str {b : Str} (h : Ev te σ H (.str b)) : EvTd te σ H (.str b) := ep_ev h fun _ _ => .str b
theorem td_any (h : Ev te σ H v) (t : Td H v d) : EvTd te σ H d := ep_ev h fun _ e => t.ex e
theorem ed_any (h : Ev te σ H v) (t : Dp K H v d) : EvD K te σ H d := ep_ev h fun _ e => dp_ex e t
theorem ed_td (h : EvTd te σ H d) : EvD K te σ H d := h.imp fun _ _ _ t => t.dp
theorem ev_of_td {i : Int} (h : EvTd te σ H (.int i)) : Ev te σ H (.int i) := fun H1 e Q q => h H1 e Q fun v H2 e2 p => by rw [td_int_inv p]; exact q H2 e2
theorem ev_of_ed {i : Int} (h : EvD K te σ H (.int i)) : Ev te σ H (.int i) := fun H1 e Q q => h H1 e Q fun v H2 e2 p => by rw [dp_int_inv p]; exact q H2 e2
theorem ed_lt (h : EvLT te σ H ds) : EvD K te σ H (.list ds) := fun H1 e Q q => h H1 e Q fun p H2 _ e2 l => q _ H2 e2 l.dp
theorem ea_tn : EaTd tNil σ H [] := fun H1 e Q q => q [] H1 (Ex.refl H1) .nil
theorem ea_tc (h : EvTd te σ H d) (hr : EaTd tr σ H ds) : EaTd (tCons te tr) σ H (d :: ds) := fun H1 e Q q => h H1 e _ fun v H2 e2 p => hr H2 (e.trans e2) _ fun vs H3 e3 ps => q _ H3 (e2.trans e3) (.cons (p.ex e3) ps)
theorem ea_dn : EaD K tNil σ H [] := fun H1 e Q q => q [] H1 (Ex.refl H1) .nil
theorem ea_dc (h : EvD K te σ H d) (hr : EaD K tr σ H ds) : EaD K (tCons te tr) σ H (d :: ds) := fun H1 e Q q => h H1 e _ fun v H2 e2 p => hr H2 (e.trans e2) _ fun vs H3 e3 ps => q _ H3 (e2.trans e3) (.cons (dp_ex e3 p) ps)
theorem td_tup (h : EaTd tr σ H ds) (hl : ds.length ≤ 100000) : EvTd (tTup tr) σ H (.tuple ds) := fun H1 e Q q => h H1 e _ fun vs H2 e2 p => ⟨sz_of (by rw [p.len]; exact hl), fun a na => q _ _ (e2.trans (Ex.new na)) (.tup upd_same (p.ex (Ex.new na)))⟩
theorem ed_tup (h : EaD K tr σ H ds) (hl : ds.length ≤ 100000) : EvD K (tTup tr) σ H (.tuple ds) := fun H1 e Q q => h H1 e _ fun vs H2 e2 p => ⟨sz_of (by rw [dpAll_len p]; exact hl), fun a na => q _ _ (e2.trans (Ex.new na)) (.tup (SqT.of upd_same) (dpAll_ex (Ex.new na) p))⟩
theorem lt_lst (h : EaTd tr σ H ds) (hl : ds.length ≤ 100000) : EvLT (tLst tr) σ H ds := fun H1 e Q q => h H1 e _ fun vs H2 e2 p => ⟨sz_of (by rw [p.len]; exact hl), fun a na => q _ _ (fresh_back e2 na) (e2.trans (Ex.new na)) ⟨vs, upd_same, p.ex (Ex.new na)⟩⟩
theorem ed_lst (h : EaD K tr σ H ds) (hl : ds.length ≤ 100000) : EvD K (tLst tr) σ H (.list ds) := fun H1 e Q q => h H1 e _ fun vs H2 e2 p => ⟨sz_of (by rw [dpAll_len p]; exact hl), fun a na => q _ _ (e2.trans (Ex.new na)) (.lst (SqL.of upd_same) (dpAll_ex (Ex.new na) p))⟩
/-! ### items -/
theorem td_ixT {i : Int} (ha : EvTd ta σ H (.tuple ds)) (hb : Ev tb σ H (.int i)) (h : atI ds i = some d) : EvTd (tOp (rIxT K) ta tb) σ H d := fun H1 e Q q => ha H1 e _ fun v H2 e2 p => hb H2 (e.trans e2) _ fun H3 e3 => by
  cases p with
  | tup ho hd =>
    rename_i xs
    obtain ⟨j, h1, h2, h3, _⟩ := atI_get h
    obtain ⟨w, h4, h5⟩ := hd.get h2
    refine ⟨_, xs, i, w, rfl, rfl, SqT.of (e3 _ _ ho), ?_, q w H3 (e2.trans e3) (h5.ex e3)⟩
    have : atI xs i = some w := by
      unfold atI at h ⊢
      rw [hd.len]
      cases e5 : ixN ds.length i with
      | none => rw [e5] at h; cases h
      | some k =>
        have hk := (ixN_seq e5).1
        rw [hk] at h1
        cases h1
        exact h4
    exact this
theorem ed_ixT {i : Int} (ha : EvD K ta σ H (.tuple ds)) (hb : Ev tb σ H (.int i)) (h : atI ds i = some d) : EvD K (tOp (rIxT K) ta tb) σ H d := fun H1 e Q q => ha H1 e _ fun v H2 e2 p => hb H2 (e.trans e2) _ fun H3 e3 => by
  cases p with
  | tup ho hd =>
    rename_i xs
    obtain ⟨j, h1, h2, h3, _⟩ := atI_get h
    obtain ⟨w, h4, h5⟩ := dpAll_get hd h2
    refine ⟨_, xs, i, w, rfl, rfl, ex_t e3 ho, ?_, q w H3 (e2.trans e3) (dp_ex e3 h5)⟩
    have : atI xs i = some w := by
      unfold atI at h ⊢
      rw [dpAll_len hd]
      cases e5 : ixN ds.length i with
      | none => rw [e5] at h; cases h
      | some k =>
        have hk := (ixN_seq e5).1
        rw [hk] at h1
        cases h1
        exact h4
    exact this
theorem ed_ixL {i : Int} (ha : EvD K ta σ H (.list ds)) (hb : Ev tb σ H (.int i)) (h : atI ds i = some d) : EvD K (tOp (rIxL K) ta tb) σ H d := fun H1 e Q q => ha H1 e _ fun v H2 e2 p => hb H2 (e.trans e2) _ fun H3 e3 => by
  cases p with
  | lst ho hd =>
    rename_i xs
    obtain ⟨j, h1, h2, h3, _⟩ := atI_get h
    obtain ⟨w, h4, h5⟩ := dpAll_get hd h2
    refine ⟨_, xs, i, w, rfl, rfl, ex_l e3 ho, ?_, q w H3 (e2.trans e3) (dp_ex e3 h5)⟩
    have : atI xs i = some w := by
      unfold atI at h ⊢
      rw [dpAll_len hd]
      cases e5 : ixN ds.length i with
      | none => rw [e5] at h; cases h
      | some k =>
        have hk := (ixN_seq e5).1
        rw [hk] at h1
        cases h1
        exact h4
    exact this
theorem td_ixL {i : Int} (ha : EvLT ta σ H ds) (hb : Ev tb σ H (.int i)) (h : atI ds i = some d) : EvTd (tOp (rIxL K) ta tb) σ H d := fun H1 e Q q => ha H1 e _ fun pp H2 _ e2 p => hb H2 (e.trans e2) _ fun H3 e3 => by
  obtain ⟨xs, ho, hd⟩ := p
  obtain ⟨j, h1, h2, h3, _⟩ := atI_get h
  obtain ⟨w, h4, h5⟩ := hd.get h2
  refine ⟨_, xs, i, w, rfl, rfl, SqL.of (e3 _ _ ho), ?_, q w H3 (e2.trans e3) (h5.ex e3)⟩
  have : atI xs i = some w := by
    unfold atI at h ⊢
    rw [hd.len]
    cases e5 : ixN ds.length i with
    | none => rw [e5] at h; cases h
    | some k =>
      have hk := (ixN_seq e5).1
      rw [hk] at h1
      cases h1
      exact h4
  exact this
/-! ### == and in, of data -/
theorem ev_eqD {e : PyData} (ha : EvD K ta σ H d) (hb : EvD K tb σ H e) (h1 : SeqAt.shaped d = true) (h2 : SeqAt.shaped e = true) : Ev (tOp (rEqD K) ta tb) σ H (.bl (PyData.eqv d e)) := fun H1 x Q q => ha H1 x _ fun v H2 x2 p => hb H2 (x.trans x2) _ fun w H3 x3 p2 => ⟨d, e, dp_ex x3 p, p2, h1, h2, q H3 (x2.trans x3)⟩
theorem ev_neD {e : PyData} (ha : EvD K ta σ H d) (hb : EvD K tb σ H e) (h1 : SeqAt.shaped d = true) (h2 : SeqAt.shaped e = true) : Ev (tOp (rNeD K) ta tb) σ H (.bl (!PyData.eqv d e)) := fun H1 x Q q => ha H1 x _ fun v H2 x2 p => hb H2 (x.trans x2) _ fun w H3 x3 p2 => ⟨d, e, dp_ex x3 p, p2, h1, h2, q H3 (x2.trans x3)⟩
theorem ev_inD {es : List PyData} (ha : EvD K ta σ H d) (hb : EvD K tb σ H (.list es)) (h1 : SeqAt.shaped d = true) (h2 : SeqAt.shaped (.list es) = true) : Ev (tOp (rInD K) ta tb) σ H (.bl (es.any fun z => PyData.eqv z d)) := fun H1 x Q q => ha H1 x _ fun v H2 x2 p => hb H2 (x.trans x2) _ fun w H3 x3 p2 => ⟨d, es, dp_ex x3 p, p2, h1, h2, q H3 (x2.trans x3)⟩
theorem ev_niD {es : List PyData} (ha : EvD K ta σ H d) (hb : EvD K tb σ H (.list es)) (h1 : SeqAt.shaped d = true) (h2 : SeqAt.shaped (.list es) = true) : Ev (tOp (rNotInD K) ta tb) σ H (.bl (!es.any fun z => PyData.eqv z d)) := fun H1 x Q q => ha H1 x _ fun v H2 x2 p => hb H2 (x.trans x2) _ fun w H3 x3 p2 => ⟨d, es, dp_ex x3 p, p2, h1, h2, q H3 (x2.trans x3)⟩
/-- an int in a tuple or list of ints -/
theorem inV_int (i : Int) : ∀ ns : List Int, inV (.int i) (ns.map V.int) = decide (i ∈ ns)
  | [] => by simp [inV]
  | n :: r => by
    have h := inV_int i r
    have e0 : inV (.int i) ((n :: r).map V.int) = ((n == i) || inV (.int i) (r.map V.int)) := rfl
    rw [e0, h]
    by_cases e : n = i
    · subst e; simp
    · have e2 : (n == i) = false := beq_false_of_ne e
      have e3 : ¬ i = n := fun z => e z.symm
      simp [e2, e3]
theorem flat_ints : ∀ ns : List Int, (ns.map V.int).all flatV = true
  | [] => rfl
  | _ :: r => by simp [flatV, flat_ints r]
theorem ev_inI {i : Int} {ns : List Int} (ha : Ev ta σ H (.int i)) (hb : EvD K tb σ H (.tuple (ns.map PyData.int)) ∨ EvD K tb σ H (.list (ns.map PyData.int))) : Ev (tOp (rIn K false) ta tb) σ H (.bl (decide (i ∈ ns))) := fun H1 x Q q => ha H1 x _ fun H2 x2 => by
  rcases hb with hb | hb
  · refine hb H2 (x.trans x2) _ fun w H3 x3 p2 => ?_
    cases p2 with
    | tup ho hd =>
      rename_i xs
      have e := dpAll_ints hd
      subst e
      refine ⟨_, _, rfl, .inr ho, rfl, flat_ints ns, ?_⟩
      show Q (.bl (inV (.int i) (ns.map V.int))) H3
      rw [inV_int]
      exact q H3 (x2.trans x3)
  · refine hb H2 (x.trans x2) _ fun w H3 x3 p2 => ?_
    cases p2 with
    | lst ho hd =>
      rename_i xs
      have e := dpAll_ints hd
      subst e
      refine ⟨_, _, rfl, .inl ho, rfl, flat_ints ns, ?_⟩
      show Q (.bl (inV (.int i) (ns.map V.int))) H3
      rw [inV_int]
      exact q H3 (x2.trans x3)
theorem ev_niI {i : Int} {ns : List Int} (ha : Ev ta σ H (.int i)) (hb : EvD K tb σ H (.tuple (ns.map PyData.int)) ∨ EvD K tb σ H (.list (ns.map PyData.int))) : Ev (tOp (rIn K true) ta tb) σ H (.bl (!decide (i ∈ ns))) := fun H1 x Q q => ha H1 x _ fun H2 x2 => by
  rcases hb with hb | hb
  · refine hb H2 (x.trans x2) _ fun w H3 x3 p2 => ?_
    cases p2 with
    | tup ho hd =>
      rename_i xs
      have e := dpAll_ints hd
      subst e
      refine ⟨_, _, rfl, .inr ho, rfl, flat_ints ns, ?_⟩
      show Q (.bl (!inV (.int i) (ns.map V.int))) H3
      rw [inV_int]
      exact q H3 (x2.trans x3)
  · refine hb H2 (x.trans x2) _ fun w H3 x3 p2 => ?_
    cases p2 with
    | lst ho hd =>
      rename_i xs
      have e := dpAll_ints hd
      subst e
      refine ⟨_, _, rfl, .inl ho, rfl, flat_ints ns, ?_⟩
      show Q (.bl (!inV (.int i) (ns.map V.int))) H3
      rw [inV_int]
      exact q H3 (x2.trans x3)
/-! ### built-ins -/
theorem ev_lenD (ha : EvD K ta σ H d) (h : d = .list ds ∨ d = .tuple ds) : Ev (tCB (fun xs H Q => ∃ p ys, xs = [.ref p] ∧ (SqL K H p ys ∨ SqT K H p ys) ∧ Q (.int ys.length) H) (tCons ta tNil)) σ H (.int (ds.length : Int)) := fun H1 x Q q => ha H1 x _ fun v H2 x2 p => by
  rcases h with rfl | rfl
  · cases p with
    | lst ho hd =>
      rename_i a xs
      refine ⟨a, xs, rfl, .inl ho, ?_⟩
      rw [dpAll_len hd]
      exact q H2 x2
  · cases p with
    | tup ho hd =>
      rename_i a xs
      refine ⟨a, xs, rfl, .inr ho, ?_⟩
      rw [dpAll_len hd]
      exact q H2 x2
theorem ev_lenS {a : Addr} {xs : List V} (ha : Ev ta σ H (.ref a)) (h : SqL K H a xs) : Ev (tCB (fun xs H Q => ∃ p ys, xs = [.ref p] ∧ (SqL K H p ys ∨ SqT K H p ys) ∧ Q (.int ys.length) H) (tCons ta tNil)) σ H (.int (xs.length : Int)) := fun H1 x Q q => ha H1 x _ fun H2 x2 => ⟨a, xs, rfl, .inl (ex_l (x.trans x2) h), q H2 x2⟩
/-- tuple(x) of data without lists -/
theorem td_tupleL (ha : EvLT ta σ H ds) : EvTd (tCB (fun xs H Q => ∃ p ys, xs = [.ref p] ∧ ((SqL K H p ys ∧ ∀ l, H l = none → Q (.ref l) (upd H l (.tup ys))) ∨ (SqT K H p ys ∧ Q (.ref p) H))) (tCons ta tNil)) σ H (.tuple ds) := fun H1 x Q q => ha H1 x _ fun p H2 _ x2 ⟨xs, ho, hd⟩ =>
  ⟨p, xs, rfl, .inl ⟨SqL.of ho, fun l hl => q _ _ (x2.trans (Ex.new hl)) (.tup upd_same (hd.ex (Ex.new hl)))⟩⟩
theorem td_tupleV {a : Addr} (ha : Ev ta σ H (.ref a)) (h : LstT H a ds) : EvTd (tCB (fun xs H Q => ∃ p ys, xs = [.ref p] ∧ ((SqL K H p ys ∧ ∀ l, H l = none → Q (.ref l) (upd H l (.tup ys))) ∨ (SqT K H p ys ∧ Q (.ref p) H))) (tCons ta tNil)) σ H (.tuple ds) := fun H1 x Q q => ha H1 x _ fun H2 x2 => by
  obtain ⟨xs, ho, hd⟩ := h.ex (x.trans x2)
  exact ⟨a, xs, rfl, .inl ⟨SqL.of ho, fun l hl => q _ _ (x2.trans (Ex.new hl)) (.tup upd_same (hd.ex (Ex.new hl)))⟩⟩
theorem lt_list {a : Addr} (ha : Ev ta σ H (.ref a)) (h : LstT H a ds) : EvLT (tCB (fun xs H Q => ∃ p ys, xs = [.ref p] ∧ (SqL K H p ys ∨ SqT K H p ys) ∧ ∀ l, H l = none → Q (.ref l) (upd H l (.lst ys))) (tCons ta tNil)) σ H ds := fun H1 x Q q => ha H1 x _ fun H2 x2 => by
  obtain ⟨xs, ho, hd⟩ := h.ex (x.trans x2)
  exact ⟨a, xs, rfl, .inl (SqL.of ho), fun l hl => q _ _ (fresh_back x2 hl) (x2.trans (Ex.new hl)) ⟨xs, upd_same, hd.ex (Ex.new hl)⟩⟩
theorem ev_abs {i : Int} (ha : Ev ta σ H (.int i)) : Ev (tCB (fun xs H Q => ∃ i, xs = [.int i] ∧ Q (.int (if i < 0 then -i else i)) H) (tCons ta tNil)) σ H (.int (if i < 0 then -i else i)) := fun H1 x Q q => ha H1 x _ fun H2 x2 => ⟨i, rfl, q H2 x2⟩
theorem ev_isN (ha : Ev ta σ H x) : Ev (tOp (fun x y H Q => y = .non ∧ Q (.bl (decide (x = .non))) H) ta (tC .non)) σ H (.bl (decide (x = .non))) := fun H1 e Q q => ha H1 e _ fun H2 e2 => ⟨rfl, q H2 e2⟩
theorem ev_notN (ha : Ev ta σ H x) : Ev (tOp (fun x y H Q => y = .non ∧ Q (.bl (!decide (x = .non))) H) ta (tC .non)) σ H (.bl (!decide (x = .non))) := fun H1 e Q q => ha H1 e _ fun H2 e2 => ⟨rfl, q H2 e2⟩
theorem rv_isN : RV (fun x y H Q => y = .non ∧ Q (.bl (decide (x = .non))) H) x .non H (.bl (decide (x = .non))) := fun H1 e Q q => ⟨rfl, q H1 (Ex.refl H1)⟩
theorem rv_notN : RV (fun x y H Q => y = .non ∧ Q (.bl (!decide (x = .non))) H) x .non H (.bl (!decide (x = .non))) := fun H1 e Q q => ⟨rfl, q H1 (Ex.refl H1)⟩
theorem rv_eqI {i j : Int} : RV rEq (.int i) (.int j) H (.bl (decide (i = j))) := fun H1 e Q q => ⟨rfl, by
  have e2 : decide (V.int i = V.int j) = decide (i = j) := by simp
  rw [e2]
  exact q H1 (Ex.refl H1)⟩
theorem rv_neI {i j : Int} : RV rNe (.int i) (.int j) H (.bl (!decide (i = j))) := fun H1 e Q q => ⟨rfl, by
  have e2 : decide (V.int i = V.int j) = decide (i = j) := by simp
  rw [e2]
  exact q H1 (Ex.refl H1)⟩
/-! ### calls -/
theorem ta_cons {Q : List V → Hp → Prop} (h : ta σ H fun x H1 => tr σ H1 fun xs H2 => Q (x :: xs) H2) : tCons ta tr σ H Q := h
theorem ep_call {sp : Sp} {dvs : List V} {E : XK} {tr : TA} {Pa : List V → Hp → Prop} (h : EaP tr σ H Pa) (hs : ∀ vs H1, Ex H H1 → Pa vs H1 → ∀ Q : VK, (∀ v H2, Ex H1 H2 → P v H2 → Q v H2) → sp (vs ++ dvs) H1 Q E) : EvP (tCall sp dvs E tr) σ H P := fun H1 e Q q => h H1 e _ fun vs H2 e2 p => hs vs H2 (e.trans e2) p Q fun v H3 e3 p3 => q v H3 (e2.trans e3) p3
theorem ev_call0 {sp : Sp} {vs : List V} {E : XK} {tr : TA} (h : EvA tr σ H vs) (hs : SpV sp vs H z) : Ev (tCall sp [] E tr) σ H z := ev_call h (by rw [List.append_nil]; exact hs)
theorem ep_call0 {sp : Sp} {E : XK} {tr : TA} {Pa : List V → Hp → Prop} (h : EaP tr σ H Pa) (hs : ∀ vs H1, Ex H H1 → Pa vs H1 → ∀ Q : VK, (∀ v H2, Ex H1 H2 → P v H2 → Q v H2) → sp vs H1 Q E) : EvP (tCall sp [] E tr) σ H P :=
  ep_call h fun vs H1 e p Q q => by rw [List.append_nil]; exact hs vs H1 e p Q q
theorem ea_ep1 (h : EvP te σ H P) : EaP (tCons te tNil) σ H (fun vs H' => ∃ v, vs = [v] ∧ P v H') := fun H1 e Q q => h H1 e _ fun v H2 e2 p => q [v] H2 e2 ⟨v, rfl, p⟩
/-! ### statements -/
theorem s_asgP {i : Nat} (h : EvP te σ H P) (k : ∀ v H1, Ex H H1 → P v H1 → D.nx (σ.set i (some v)) H1) : tAsg te (gName i) D σ H := h H (Ex.refl H) _ fun v H1 e p => k v H1 e p
theorem q_asgP {i : Nat} (h : EvP te σ H P) (k : ∀ v H1, Ex H H1 → P v H1 → tz D (σ.set i (some v)) H1) : tSeq (tAsg te (gName i)) tz D σ H := h H (Ex.refl H) _ fun v H1 e p => k v H1 e p
theorem s_asgLT {i : Nat} (h : EvLT te σ H ds) (k : ∀ p H1, H p = none → Ex H H1 → LstT H1 p ds → D.nx (σ.set i (some (.ref p))) H1) : tAsg te (gName i) D σ H := h H (Ex.refl H) _ fun v H1 n e p => k v H1 n e p
theorem q_asgLT {i : Nat} (h : EvLT te σ H ds) (k : ∀ p H1, H p = none → Ex H H1 → LstT H1 p ds → tz D (σ.set i (some (.ref p))) H1) : tSeq (tAsg te (gName i)) tz D σ H := h H (Ex.refl H) _ fun v H1 n e p => k v H1 n e p
theorem s_retP (h : EvP te σ H P) (k : ∀ v H1, Ex H H1 → P v H1 → D.rt v H1) : tRet te D σ H := h H (Ex.refl H) _ fun v H1 e p => k v H1 e p
theorem s_retLT (h : EvLT te σ H ds) (k : ∀ p H1, H p = none → Ex H H1 → LstT H1 p ds → D.rt (.ref p) H1) : tRet te D σ H := h H (Ex.refl H) _ fun v H1 n e p => k v H1 n e p
theorem s_appT {l : Addr} (hl : LstT H l ds) (ha : Ev ta σ H (.ref l)) (h : EvTd te σ H d) (hz : ds.length < 100000) (k : ∀ H1 xs v, Ex H H1 → H1 l = some (.lst xs) → LstT (upd H1 l (.lst (xs ++ [v]))) l (ds ++ [d]) → D.nx σ (upd H1 l (.lst (xs ++ [v])))) :
    tDrop (tBM K "list" rAppend ta (tCons te tNil)) D σ H := by
  obtain ⟨xs, ho, hd⟩ := hl
  refine ha H (Ex.refl H) _ fun H1 e1 => ⟨Or.inl ⟨rfl, xs, sq_of (e1 l _ ho)⟩, h H1 e1 _ fun v H2 e2 p => ⟨l, xs, v, rfl, rfl, e2 l _ (e1 l _ ho), sz_lt (by rw [hd.len]; exact hz), ?_⟩⟩
  exact k H2 xs v (e1.trans e2) (e2 l _ (e1 l _ ho)) (LstT.push (e2 l _ (e1 l _ ho)) (hd.ex (e1.trans e2)) p)
theorem q_appT {l : Addr} (hl : LstT H l ds) (ha : Ev ta σ H (.ref l)) (h : EvTd te σ H d) (hz : ds.length < 100000) (k : ∀ H1 xs v, Ex H H1 → H1 l = some (.lst xs) → LstT (upd H1 l (.lst (xs ++ [v]))) l (ds ++ [d]) → tz D σ (upd H1 l (.lst (xs ++ [v])))) :
    tSeq (tDrop (tBM K "list" rAppend ta (tCons te tNil))) tz D σ H := s_appT (D := { D with nx := tz D }) hl ha h hz k
/-! ### comprehensions whose items are such data -/
def Ct (H : Hp) (f : Nat → Bool) (v : Nat → PyData) (Dl : Addr) (i : Nat) (H' : Hp) : Prop := H Dl = none ∧ Ex H H' ∧ LstT H' Dl (((List.range i).filter f).map v)
theorem len_filt (f : Nat → Bool) (v : Nat → PyData) (n : Nat) : (((List.range n).filter f).map v).length ≤ n := by
  rw [List.length_map]
  exact Nat.le_trans (List.length_filter_le _ _) (by simp)
theorem filt_yes {f : Nat → Bool} {v : Nat → PyData} {n : Nat} (h : f n = true) : ((List.range (n + 1)).filter f).map v = ((List.range n).filter f).map v ++ [v n] := by
  rw [List.range_succ, List.filter_append, List.map_append]
  simp [h]
theorem filt_no {f : Nat → Bool} {v : Nat → PyData} {n : Nat} (h : f n = false) : ((List.range (n + 1)).filter f).map v = ((List.range n).filter f).map v := by
  rw [List.range_succ, List.filter_append, List.map_append]
  simp [h]
theorem ct_turn {f : Nat → Bool} {v : Nat → PyData} {Dl : Addr} {i : Nat} {σ2 : L2.St} (p : Ct H f v Dl i H') (hi : i < 50000) (ht : EvT t σ2 H (f i)) (he : f i = true → EvTd te σ2 H (v i)) :
    t σ2 H' fun b H3 => if b = true then te σ2 H3 fun y H4 => ∃ acc, H4 Dl = some (.lst acc) ∧ acc.length < sizeLine ∧ Ct H f v Dl (i + 1) (upd H4 Dl (.lst (acc ++ [y]))) else Ct H f v Dl (i + 1) H3 := by
  obtain ⟨p1, p2, xs, p3, p4⟩ := p
  refine ht H' p2 _ fun H3 e3 => ?_
  cases hf : f i with
  | true =>
    show te σ2 H3 fun y H4 => ∃ acc, H4 Dl = some (.lst acc) ∧ acc.length < sizeLine ∧ Ct H f v Dl (i + 1) (upd H4 Dl (.lst (acc ++ [y])))
    refine he hf H3 (p2.trans e3) _ fun y H4 e4 q4 => ⟨xs, e4 Dl _ (e3 Dl _ p3), sz_lt (by have := len_filt f v i; rw [p4.len]; omega), p1, Ex.mut ((p2.trans e3).trans e4) p1, ?_⟩
    rw [filt_yes hf]
    exact LstT.push (e4 Dl _ (e3 Dl _ p3)) (p4.ex (e3.trans e4)) q4
  | false =>
    show Ct H f v Dl (i + 1) H3
    refine ⟨p1, p2.trans e3, ?_⟩
    rw [filt_no hf]
    exact ⟨xs, e3 Dl _ p3, p4.ex e3⟩
theorem lt_lcR1 {tr : TA} {j : Nat} {vs : List Nat} {n : Int} (f : Nat → Bool) (v : Nat → PyData) (h : EvA tr σ H [.int n]) (hn : n ≤ 40000) (hw : ∀ x, wipe ((wipe σ vs).set j (some x)) vs = wipe σ vs)
    (ht : ∀ (i : Nat) H1, Ex H H1 → (i : Int) < n → EvT t ((wipe σ vs).set j (some (.int (i : Int)))) H1 (f i)) (he : ∀ (i : Nat) H1, Ex H H1 → (i : Int) < n → f i = true → EvTd te ((wipe σ vs).set j (some (.int (i : Int)))) H1 (v i)) (hn0 : -100000 ≤ n := by omega) :
    EvLT (tLc (iRng1 tr) (gName j) t te vs) σ H (((List.range n.toNat).filter f).map v) := fun H0 e Q q => h H0 e _ fun H1 e1 => ⟨n, rfl, by omega, by omega, fun Dl hD =>
  lc_range (lo := 0) (n := n.toNat) (Ct H1 f v Dl) ⟨hD, Ex.new hD, ⟨[], upd_same, .nil⟩⟩ (fun i H' hi p => by
    have e0 : (0 : Int) + (i : Int) = (i : Int) := Int.zero_add _
    show wipe ((wipe σ vs).set j (some (.int ((0 : Int) + (i : Int))))) vs = wipe σ vs ∧ t ((wipe σ vs).set j (some (.int ((0 : Int) + (i : Int))))) H' fun b H3 => if b = true then te ((wipe σ vs).set j (some (.int ((0 : Int) + (i : Int))))) H3 fun y H4 => ∃ acc, H4 Dl = some (.lst acc) ∧ acc.length < sizeLine ∧ Ct H1 f v Dl (i + 1) (upd H4 Dl (.lst (acc ++ [y]))) else Ct H1 f v Dl (i + 1) H3
    rw [e0]
    exact ⟨hw _, ct_turn p (by omega) (ht i H1 (e.trans e1) (by omega)) (fun hf => he i H1 (e.trans e1) (by omega) hf)⟩) (fun H' p => q Dl H' (fresh_back e1 p.1) (e1.trans p.2.1) p.2.2)⟩
theorem lt_lcR2 {tr : TA} {j : Nat} {vs : List Nat} {lo n : Int} (f : Nat → Bool) (v : Nat → PyData) (h : EvA tr σ H [.int lo, .int n]) (hn : 0 ≤ lo ∧ lo ≤ 100000 ∧ -100000 ≤ n ∧ n ≤ 40000) (hw : ∀ x, wipe ((wipe σ vs).set j (some x)) vs = wipe σ vs)
    (ht : ∀ (i : Nat) H1, Ex H H1 → lo + (i : Int) < n → EvT t ((wipe σ vs).set j (some (.int (lo + (i : Int))))) H1 (f i)) (he : ∀ (i : Nat) H1, Ex H H1 → lo + (i : Int) < n → f i = true → EvTd te ((wipe σ vs).set j (some (.int (lo + (i : Int))))) H1 (v i)) :
    EvLT (tLc (iRng2 tr) (gName j) t te vs) σ H (((List.range (n - lo).toNat).filter f).map v) := fun H0 e Q q => h H0 e _ fun H1 e1 => ⟨lo, n, rfl, ⟨by omega, by omega, by omega, by omega⟩, fun Dl hD =>
  lc_range (lo := lo) (n := (n - lo).toNat) (Ct H1 f v Dl) ⟨hD, Ex.new hD, ⟨[], upd_same, .nil⟩⟩ (fun i H' hi p =>
    ⟨hw _, ct_turn p (by omega) (ht i H1 (e.trans e1) (by omega)) (fun hf => he i H1 (e.trans e1) (by omega) hf)⟩) (fun H' p => q Dl H' (fresh_back e1 p.1) (e1.trans p.2.1) p.2.2)⟩
end
section
variable {K : PySem.W.Frag} {σ : L2.St} {H H' : Hp} {ta tb te tx : TE} {t u : TT} {x y z v : V} {r : R2} {tr : TA} {D : Ends} {tu tw tz : TS} {P P' : V → Hp → Prop} {d : PyData} {ds : List PyData}
theorem filt_all {n : Nat} (v : Nat → PyData) : ((List.range n).filter fun _ => true).map v = (List.range n).map v := by rw [List.filter_eq_self.mpr (fun _ _ => rfl)]
theorem et_yes0 : EvT tYes σ H true := fun H1 _ Q q => q H1 (Ex.refl H1)
theorem lt_mapR1 {j : Nat} {vs : List Nat} {n : Int} (v : Nat → PyData) (h : EvA tr σ H [.int n]) (hn : n ≤ 40000) (hw : ∀ x, wipe ((wipe σ vs).set j (some x)) vs = wipe σ vs)
    (he : ∀ (i : Nat) H1, Ex H H1 → (i : Int) < n → EvTd te ((wipe σ vs).set j (some (.int (i : Int)))) H1 (v i)) (hn0 : -100000 ≤ n := by omega) :
    EvLT (tLc (iRng1 tr) (gName j) tYes te vs) σ H ((List.range n.toNat).map v) := by
  have h2 := lt_lcR1 (t := tYes) (te := te) (fun _ => true) v h hn hw (fun _ _ _ _ => et_yes0) (fun i H1 e hi _ => he i H1 e hi) hn0
  rw [filt_all] at h2
  exact h2
theorem lt_mapR2 {j : Nat} {vs : List Nat} {lo n : Int} (v : Nat → PyData) (h : EvA tr σ H [.int lo, .int n]) (hn : 0 ≤ lo ∧ lo ≤ 100000 ∧ -100000 ≤ n ∧ n ≤ 40000) (hw : ∀ x, wipe ((wipe σ vs).set j (some x)) vs = wipe σ vs)
    (he : ∀ (i : Nat) H1, Ex H H1 → lo + (i : Int) < n → EvTd te ((wipe σ vs).set j (some (.int (lo + (i : Int))))) H1 (v i)) :
    EvLT (tLc (iRng2 tr) (gName j) tYes te vs) σ H ((List.range (n - lo).toNat).map v) := by
  have h2 := lt_lcR2 (t := tYes) (te := te) (fun _ => true) v h hn hw (fun _ _ _ _ => et_yes0) (fun i H1 e hi _ => he i H1 e hi)
  rw [filt_all] at h2
  exact h2
theorem atI_getD {i : Int} (h0 : 0 ≤ i) (h1 : i < (ds.length : Int)) : atI ds i = some (ds.getD i.toNat .none) := by
  have hl : i.toNat < ds.length := by omega
  have := at0 (ds := ds) (j := i.toNat) (d := ds.getD i.toNat .none) (by rw [List.getD_eq_getElem?_getD, List.getElem?_eq_getElem hl]; rfl)
  rw [show ((i.toNat : Nat) : Int) = i by omega] at this
  exact this
/-- an item of a written list of ints -/
theorem ev_ixInts {xs : List Int} {i : Int} (h : EaTd tr σ H (xs.map PyData.int)) (hb : Ev tb σ H (.int i)) (h0 : 0 ≤ i) (h1 : i < (xs.length : Int)) (hl : xs.length ≤ 100000 := by first | decide | simp) : Ev (tOp (rIxL K) (tLst tr) tb) σ H (.int (xs.getD i.toNat 0)) := by
  refine ev_of_td (td_ixL (lt_lst h (by rw [List.length_map]; exact hl)) hb ?_)
  have hl2 : i.toNat < xs.length := by omega
  have := at0 (ds := xs.map PyData.int) (j := i.toNat) (d := .int (xs.getD i.toNat 0)) (by rw [List.getElem?_map, List.getD_eq_getElem?_getD, List.getElem?_eq_getElem hl2]; rfl)
  rw [show ((i.toNat : Nat) : Int) = i by omega] at this
  exact this
theorem ev_callP {sp : Sp} {E : XK} {Pa : List V → Hp → Prop} (h : EaP tr σ H Pa) (hs : ∀ vs H1, Ex H H1 → Pa vs H1 → SpV sp vs H1 z) : Ev (tCall sp [] E tr) σ H z := fun H1 e Q q => h H1 e _ fun vs H2 e2 p => by
  show sp (vs ++ []) H2 Q E
  rw [List.append_nil]
  exact hs vs H2 (e.trans e2) p H2 (Ex.refl H2) Q (fun H3 e3 => q H3 (e2.trans e3)) E
/-- arguments, one by one -/
theorem dpAll1 {vs : List V} {d : PyData} (h : DpAll K H vs [d]) : ∃ v, vs = [v] ∧ Dp K H v d := by
  cases h with | cons a b => cases b; exact ⟨_, rfl, a⟩
theorem dpAll2 {vs : List V} {d e : PyData} (h : DpAll K H vs [d, e]) : ∃ v u, vs = [v, u] ∧ Dp K H v d ∧ Dp K H u e := by
  cases h with | cons a b => cases b with | cons b c => cases c; exact ⟨_, _, rfl, a, b⟩
theorem dpAll3 {vs : List V} {d e f : PyData} (h : DpAll K H vs [d, e, f]) : ∃ v u x, vs = [v, u, x] ∧ Dp K H v d ∧ Dp K H u e ∧ Dp K H x f := by
  cases h with | cons a b => cases b with | cons b c => cases c with | cons c d => cases d; exact ⟨_, _, _, rfl, a, b, c⟩
theorem dpAll4 {vs : List V} {d e f g : PyData} (h : DpAll K H vs [d, e, f, g]) : ∃ v u x y, vs = [v, u, x, y] ∧ Dp K H v d ∧ Dp K H u e ∧ Dp K H x f ∧ Dp K H y g := by
  cases h with | cons a b => cases b with | cons b c => cases c with | cons c d => cases d with | cons d e => cases e; exact ⟨_, _, _, _, rfl, a, b, c, d⟩
theorem ed_int {i : Int} (h : Ev te σ H (.int i)) : EvD K te σ H (.int i) := ep_ev h fun _ _ => .int i
end
section
variable {K : PySem.W.Frag} {σ : L2.St} {H H' : Hp} {ta tb te tx : TE} {D : Ends} {tz : TS} {d : PyData} {ds es : List PyData}
theorem TdAll.set {v : V} (h : Td H v d) : ∀ {ds : List PyData} {vs : List V} (j : Nat), TdAll H vs ds → TdAll H (vs.set j v) (ds.set j d)
  | [], _, _, .nil => .nil
  | _ :: _, _, 0, .cons _ b => .cons h b
  | _ :: _, _, j + 1, .cons a b => .cons a (TdAll.set h j b)
/-- xs[j] = e -/
theorem s_setT {l : Addr} {i : Int} {j : Nat} (hl : LstT H l ds) (h : EvTd te σ H d) (ho : Ev ta σ H (.ref l)) (hi : Ev tb σ H (.int i)) (ei : i = (j : Int)) (hj : j < ds.length) (k : ∀ H1 xs v, Ex H H1 → H1 l = some (.lst xs) → LstT (upd H1 l (.lst (xs.set j v))) l (ds.set j d) → D.nx σ (upd H1 l (.lst (xs.set j v)))) :
    tAsg te (gSub ta tb rSetL) D σ H := by
  obtain ⟨xs, hx, hd⟩ := hl
  subst ei
  refine h H (Ex.refl H) _ fun v H1 e1 p => ho H1 e1 _ fun H2 e2 => hi H2 (e1.trans e2) _ fun H3 e3 => ?_
  have e13 := (e1.trans e2).trans e3
  have hx3 := e13 _ _ hx
  refine ⟨l, xs, (j : Int), j, rfl, rfl, hx3, ixN_nat (by rw [hd.len]; exact hj), k H3 xs v e13 hx3 ⟨_, upd_same, ?_⟩⟩
  exact TdAll.upd hx3 (TdAll.set (p.ex (e2.trans e3)) j (hd.ex e13))
theorem q_setT {l : Addr} {i : Int} {j : Nat} (hl : LstT H l ds) (h : EvTd te σ H d) (ho : Ev ta σ H (.ref l)) (hi : Ev tb σ H (.int i)) (ei : i = (j : Int)) (hj : j < ds.length) (k : ∀ H1 xs v, Ex H H1 → H1 l = some (.lst xs) → LstT (upd H1 l (.lst (xs.set j v))) l (ds.set j d) → tz D σ (upd H1 l (.lst (xs.set j v)))) :
    tSeq (tAsg te (gSub ta tb rSetL)) tz D σ H := s_setT (D := { D with nx := tz D }) hl h ho hi ei hj k
/-- list + list -/
theorem lt_cat {l : Addr} (ha : Ev ta σ H (.ref l)) (hl : LstT H l ds) (hb : EvLT tb σ H es) (hz : ds.length + es.length ≤ 100000) : EvLT (tOp rCat ta tb) σ H (ds ++ es) := fun H1 e Q q => ha H1 e _ fun H2 e2 => hb H2 (e.trans e2) _ fun p H3 np e3 hp => by
  obtain ⟨xs, hx, hd⟩ := hl.ex ((e.trans e2).trans e3)
  obtain ⟨ys, hy, he⟩ := hp
  refine ⟨l, p, xs, ys, rfl, rfl, hx, hy, sz_of (by rw [hd.len, he.len]; exact hz), fun r nr => q r _ (fresh_back (e2.trans e3) nr) ((e2.trans e3).trans (Ex.new nr)) ⟨_, upd_same, (TdAll.append hd he).ex (Ex.new nr)⟩⟩
theorem lt_cat2 (ha : EvLT ta σ H ds) (hb : EvLT tb σ H es) (hz : ds.length + es.length ≤ 100000) : EvLT (tOp rCat ta tb) σ H (ds ++ es) := fun H1 e Q q => ha H1 e _ fun l H2 nl e2 hl => hb H2 (e.trans e2) _ fun p H3 np e3 hp => by
  obtain ⟨xs, hx, hd⟩ := hl.ex e3
  obtain ⟨ys, hy, he⟩ := hp
  refine ⟨l, p, xs, ys, rfl, rfl, hx, hy, sz_of (by rw [hd.len, he.len]; exact hz), fun r nr => q r _ (fresh_back (e2.trans e3) nr) ((e2.trans e3).trans (Ex.new nr)) ⟨_, upd_same, (TdAll.append hd he).ex (Ex.new nr)⟩⟩
end
section
variable {K : PySem.W.Frag} {σ : L2.St} {H H' : Hp} {ta tb te tx tl : TE} {D : Ends} {tz tu : TS} {d : PyData} {ds es : List PyData} {tr : TA} {g : TG}
/-! ### loops over data -/
theorem s_forD (h : EvD K tl σ H (.list ds)) (Pv : Hp → Nat → L2.St → Hp → Prop) (h0 : ∀ H1, Ex H H1 → Pv H1 0 σ H1) (hx : ∀ H1 i σ' H', Pv H1 i σ' H' → Ex H1 H')
    (hs : ∀ H1, Ex H H1 → ∀ i d x σ' H', ds[i]? = some d → Dp K H' x d → Pv H1 i σ' H' → g x σ' H' fun σ2 H2 => tu { D with nx := Pv H1 (i + 1), ct := Pv H1 (i + 1), bk := D.nx } σ2 H2)
    (hd : ∀ H1, Ex H H1 → ∀ σ' H', Pv H1 ds.length σ' H' → D.nx σ' H') : tFor (iList K tl) g tu D σ H := by
  refine h H (Ex.refl H) _ fun v H1 e1 p => ?_
  cases p with
  | lst ho hda =>
    rename_i a xs
    have hlen := dpAll_len hda
    refine ⟨a, rfl, ⟨xs, ho⟩, for_list (K := K) (a := a) (xs := xs) (Pv H1) (h0 H1 e1) (fun i σ' H' _ p => ex_l (hx H1 i σ' H' p) ho) (fun i x σ' H' hx' p => ?_) (fun σ' H' p => hd H1 e1 σ' H' (by rw [← hlen]; exact p))⟩
    obtain ⟨d, hd1, hd2⟩ := dpAll_getV hda hx'
    exact hs H1 e1 i d x σ' H' hd1 (dp_ex (hx H1 i σ' H' p) hd2) p
theorem s_forU (h : EvD K tl σ H (.tuple ds)) (Pv : Hp → Nat → L2.St → Hp → Prop) (h0 : ∀ H1, Ex H H1 → Pv H1 0 σ H1) (hx : ∀ H1 i σ' H', Pv H1 i σ' H' → Ex H1 H')
    (hs : ∀ H1, Ex H H1 → ∀ i d x σ' H', ds[i]? = some d → Dp K H' x d → Pv H1 i σ' H' → g x σ' H' fun σ2 H2 => tu { D with nx := Pv H1 (i + 1), ct := Pv H1 (i + 1), bk := D.nx } σ2 H2)
    (hd : ∀ H1, Ex H H1 → ∀ σ' H', Pv H1 ds.length σ' H' → D.nx σ' H') : tFor (iTup K tl) g tu D σ H := by
  refine h H (Ex.refl H) _ fun v H1 e1 p => ?_
  cases p with
  | tup ho hda =>
    rename_i a xs
    have hlen := dpAll_len hda
    refine ⟨a, rfl, ⟨xs, ho⟩, for_tup (K := K) (a := a) (xs := xs) (Pv H1) (h0 H1 e1) (fun i σ' H' _ p => ex_t (hx H1 i σ' H' p) ho) (fun i x σ' H' hx' p => ?_) (fun σ' H' p => hd H1 e1 σ' H' (by rw [← hlen]; exact p))⟩
    obtain ⟨d, hd1, hd2⟩ := dpAll_getV hda hx'
    exact hs H1 e1 i d x σ' H' hd1 (dp_ex (hx H1 i σ' H' p) hd2) p
theorem q_forD (h : EvD K tl σ H (.list ds)) (Pv : Hp → Nat → L2.St → Hp → Prop) (h0 : ∀ H1, Ex H H1 → Pv H1 0 σ H1) (hx : ∀ H1 i σ' H', Pv H1 i σ' H' → Ex H1 H')
    (hs : ∀ H1, Ex H H1 → ∀ i d x σ' H', ds[i]? = some d → Dp K H' x d → Pv H1 i σ' H' → g x σ' H' fun σ2 H2 => tu { D with nx := Pv H1 (i + 1), ct := Pv H1 (i + 1), bk := tz D } σ2 H2)
    (hd : ∀ H1, Ex H H1 → ∀ σ' H', Pv H1 ds.length σ' H' → tz D σ' H') : tSeq (tFor (iList K tl) g tu) tz D σ H := s_forD (D := { D with nx := tz D }) h Pv h0 hx hs hd
theorem q_forU (h : EvD K tl σ H (.tuple ds)) (Pv : Hp → Nat → L2.St → Hp → Prop) (h0 : ∀ H1, Ex H H1 → Pv H1 0 σ H1) (hx : ∀ H1 i σ' H', Pv H1 i σ' H' → Ex H1 H')
    (hs : ∀ H1, Ex H H1 → ∀ i d x σ' H', ds[i]? = some d → Dp K H' x d → Pv H1 i σ' H' → g x σ' H' fun σ2 H2 => tu { D with nx := Pv H1 (i + 1), ct := Pv H1 (i + 1), bk := tz D } σ2 H2)
    (hd : ∀ H1, Ex H H1 → ∀ σ' H', Pv H1 ds.length σ' H' → tz D σ' H') : tSeq (tFor (iTup K tl) g tu) tz D σ H := s_forU (D := { D with nx := tz D }) h Pv h0 hx hs hd
/-! ### a call whose value is dropped; arguments of data -/
theorem s_dropC {sp : Sp} {E : XK} (h : EaD K tr σ H ds) (k : ∀ vs H1, Ex H H1 → DpAll K H1 vs ds → sp vs H1 (fun _ H2 => D.nx σ H2) E) : tDrop (tCall sp [] E tr) D σ H := h H (Ex.refl H) _ fun vs H1 e1 p => by
  show sp (vs ++ []) H1 _ E
  rw [List.append_nil]
  exact k vs H1 e1 p
theorem q_dropC {sp : Sp} {E : XK} (h : EaD K tr σ H ds) (k : ∀ vs H1, Ex H H1 → DpAll K H1 vs ds → sp vs H1 (fun _ H2 => tz D σ H2) E) : tSeq (tDrop (tCall sp [] E tr)) tz D σ H := s_dropC (D := { D with nx := tz D }) h k
/-- x = f(..) -/
theorem s_asgC {sp : Sp} {E : XK} {i : Nat} (h : EaD K tr σ H ds) (k : ∀ vs H1, Ex H H1 → DpAll K H1 vs ds → sp vs H1 (fun v H2 => D.nx (σ.set i (some v)) H2) E) : tAsg (tCall sp [] E tr) (gName i) D σ H := h H (Ex.refl H) _ fun vs H1 e1 p => by
  show sp (vs ++ []) H1 _ E
  rw [List.append_nil]
  exact k vs H1 e1 p
theorem q_asgC {sp : Sp} {E : XK} {i : Nat} (h : EaD K tr σ H ds) (k : ∀ vs H1, Ex H H1 → DpAll K H1 vs ds → sp vs H1 (fun v H2 => tz D (σ.set i (some v)) H2) E) : tSeq (tAsg (tCall sp [] E tr) (gName i)) tz D σ H := s_asgC (D := { D with nx := tz D }) h k
theorem s_retC {sp : Sp} {E : XK} (h : EaD K tr σ H ds) (k : ∀ vs H1, Ex H H1 → DpAll K H1 vs ds → sp vs H1 D.rt E) : tRet (tCall sp [] E tr) D σ H := h H (Ex.refl H) _ fun vs H1 e1 p => by
  show sp (vs ++ []) H1 _ E
  rw [List.append_nil]
  exact k vs H1 e1 p
/-! ### slices of tuples -/
theorem dpAll_drop : ∀ {ds : List PyData} {vs : List V} (n : Nat), DpAll K H vs ds → DpAll K H (vs.drop n) (ds.drop n)
  | _, _, 0, h => h
  | [], _, n + 1, .nil => .nil
  | _ :: _, _, n + 1, .cons _ b => dpAll_drop n b
theorem dpAll_take : ∀ {ds : List PyData} {vs : List V} (n : Nat), DpAll K H vs ds → DpAll K H (vs.take n) (ds.take n)
  | _, _, 0, _ => by simp only [List.take_zero]; exact .nil
  | [], _, n + 1, .nil => .nil
  | _ :: _, _, n + 1, .cons a b => .cons a (dpAll_take n b)
def cutD (ds : List PyData) (lo hi : Option Int) : List PyData := (ds.drop (HT.sIx ds.length 0 lo)).take (HT.sIx ds.length ds.length hi - HT.sIx ds.length 0 lo)
theorem ed_slU {lo hi : Option Int} {t1 t2 : TO} (h : EvD K te σ H (.tuple ds)) (h1 : EvO t1 σ H lo) (h2 : EvO t2 σ H hi) : EvD K (tSl (rSlA K) te t1 t2) σ H (.tuple (cutD ds lo hi)) := fun H1 e Q q => h H1 e _ fun v H2 e2 p => h1 H2 (e.trans e2) _ fun H3 e3 => h2 H3 ((e.trans e2).trans e3) _ fun H4 e4 => by
  have p4 := dp_ex (e3.trans e4) p
  have e24 := (e2.trans e3).trans e4
  cases p4 with
  | tup ho hd =>
    rename_i a xs
    have hlen := dpAll_len hd
    refine ⟨a, xs, rfl, ho, fun hw => ?_, fun hw r nr => ?_⟩
    · have ec : cutD ds lo hi = ds := by
        unfold cutD
        rw [← hlen, hw.1, hw.2, List.drop_zero, hlen, Nat.sub_zero, List.take_length]
      exact q _ H4 e24 (by rw [ec]; exact .tup ho hd)
    · refine q _ _ (e24.trans (Ex.new nr)) (.tup (SqT.of upd_same) ?_)
      unfold cutD cutV
      rw [hlen]
      exact dpAll_ex (Ex.new nr) (dpAll_take _ (dpAll_drop _ hd))
/-! ### xs.count(True) of a list of truth values -/
theorem td_bls : ∀ bs : List Bool, TdAll H (bs.map V.bl) (bs.map PyData.bool)
  | [] => .nil
  | b :: r => .cons (.bl b) (td_bls r)
theorem tdAll_bls : ∀ {bs : List Bool} {vs : List V}, TdAll H vs (bs.map PyData.bool) → vs = bs.map V.bl
  | [], _, .nil => rfl
  | b :: r, _, .cons h q => by
    cases h
    rw [tdAll_bls q]
    rfl
theorem count_bls (bs : List Bool) : (bs.map V.bl).countP (fun z => eqV z (.bl true)) = bs.countP id := by
  induction bs with
  | nil => rfl
  | cons b r ih =>
    rw [List.map_cons, List.countP_cons, List.countP_cons, ih]
    cases b <;> rfl
theorem flat_bls : ∀ bs : List Bool, (bs.map V.bl).all flatV = true
  | [] => rfl
  | _ :: r => by simp [flatV, flat_bls r]
theorem ev_countT {l : Addr} {bs : List Bool} (ha : Ev ta σ H (.ref l)) (hl : LstT H l (bs.map PyData.bool)) : Ev (tBM K "list" (rCntF K) ta (tCons (tC (.bl true)) tNil)) σ H (.int (bs.countP id : Nat)) := fun H1 e Q q => ha H1 e _ fun H2 e2 => by
  obtain ⟨xs, hx, hd⟩ := hl.ex (e.trans e2)
  have ex := tdAll_bls hd
  subst ex
  refine ⟨.inl ⟨rfl, _, SqL.of hx⟩, l, _, _, rfl, rfl, SqL.of hx, rfl, flat_bls bs, ?_⟩
  rw [count_bls]
  exact q H2 e2
end
section
variable {K : PySem.W.Frag} {σ : L2.St} {H H' : Hp} {ta tb te : TE} {d : PyData} {ds : List PyData}
theorem lt_listU (ha : EvTd ta σ H (.tuple ds)) : EvLT (tCB (fun xs H Q => ∃ p ys, xs = [.ref p] ∧ (SqL K H p ys ∨ SqT K H p ys) ∧ ∀ l, H l = none → Q (.ref l) (upd H l (.lst ys))) (tCons ta tNil)) σ H ds := fun H1 x Q q => ha H1 x _ fun v H2 x2 p => by
  cases p with
  | tup ho hd =>
    rename_i a xs
    exact ⟨a, xs, rfl, .inr (SqT.of ho), fun l hl => q _ _ (fresh_back x2 hl) (x2.trans (Ex.new hl)) ⟨xs, upd_same, hd.ex (Ex.new hl)⟩⟩
theorem td_ixLV {l : Addr} {i : Int} (ha : Ev ta σ H (.ref l)) (hl : LstT H l ds) (hb : Ev tb σ H (.int i)) (h : atI ds i = some d) : EvTd (tOp (rIxL K) ta tb) σ H d := fun H1 e Q q => ha H1 e _ fun H2 e2 => hb H2 (e.trans e2) _ fun H3 e3 => by
  obtain ⟨xs, ho, hd⟩ := hl.ex ((e.trans e2).trans e3)
  obtain ⟨j, h1, h2, h3, _⟩ := atI_get h
  obtain ⟨w, h4, h5⟩ := hd.get h2
  refine ⟨_, xs, i, w, rfl, rfl, SqL.of ho, ?_, q w H3 (e2.trans e3) h5⟩
  have : atI xs i = some w := by
    unfold atI at h ⊢
    rw [hd.len]
    cases e5 : ixN ds.length i with
    | none => rw [e5] at h; cases h
    | some k =>
      have hk := (ixN_seq e5).1
      rw [hk] at h1
      cases h1
      exact h4
  exact this
theorem LstT.upd_ne {l p : Addr} {xs : List V} {o : HO} (h : LstT H p ds) (hl : H l = some (.lst xs)) (ne : p ≠ l) : LstT (L2.upd H l o) p ds := by
  obtain ⟨ys, a, b⟩ := h
  exact ⟨ys, by rw [L2.upd_ne ne]; exact a, b.upd hl⟩
theorem ev_inW {i : Int} {ns : List Int} (ha : Ev ta σ H (.int i)) (hb : EvTd tb σ H (.tuple (ns.map PyData.int))) : Ev (tOp (rIn K false) ta tb) σ H (.bl (decide (i ∈ ns))) := ev_inI ha (.inl (ed_td hb))
theorem ev_niW {i : Int} {ns : List Int} (ha : Ev ta σ H (.int i)) (hb : EvTd tb σ H (.tuple (ns.map PyData.int))) : Ev (tOp (rIn K true) ta tb) σ H (.bl (!decide (i ∈ ns))) := ev_niI ha (.inl (ed_td hb))
end
section
variable {K : PySem.W.Frag} {σ : L2.St} {H H' : Hp} {ta tb te : TE} {d : PyData} {ds : List PyData} {tr : TA} {v : V} {P : V → Hp → Prop} {R : List V → Hp → Prop}
/-! ### arguments and tuples, part by part -/
theorem ea_pn (h : ∀ H1, Ex H H1 → R [] H1) : EaP tNil σ H R := fun H1 e Q q => q [] H1 (Ex.refl H1) (h H1 e)
theorem ea_pc (h : EvP te σ H P) (k : ∀ v H1, Ex H H1 → P v H1 → EaP tr σ H1 (fun vs H' => R (v :: vs) H')) : EaP (tCons te tr) σ H R := fun H1 e Q q => h H1 e _ fun v H2 e2 p => k v H2 (e.trans e2) p H2 (Ex.refl H2) _ fun vs H3 e3 r => q _ H3 (e2.trans e3) r
theorem ea_pv (h : Ev te σ H v) (k : ∀ H1, Ex H H1 → EaP tr σ H1 (fun vs H' => R (v :: vs) H')) : EaP (tCons te tr) σ H R := fun H1 e Q q => h H1 e _ fun H2 e2 => k H2 (e.trans e2) H2 (Ex.refl H2) _ fun vs H3 e3 r => q _ H3 (e2.trans e3) r
theorem ea_pl (h : EvLT te σ H ds) (k : ∀ p H1, Ex H H1 → H p = none → LstT H1 p ds → EaP tr σ H1 (fun vs H' => R (.ref p :: vs) H')) : EaP (tCons te tr) σ H R := fun H1 e Q q => h H1 e _ fun p H2 np e2 r => k p H2 (e.trans e2) (fresh_back e np) r H2 (Ex.refl H2) _ fun vs H3 e3 r => q _ H3 (e2.trans e3) r
theorem ep_tupP (h : EaP tr σ H R) (hl : ∀ vs H', R vs H' → vs.length ≤ 100000) : EvP (tTup tr) σ H (fun v H' => ∃ p vs H0, v = .ref p ∧ H' p = some (.tup vs) ∧ Ex H H0 ∧ Ex H0 H' ∧ R vs H0) := fun H1 e Q q => h H1 e _ fun vs H2 e2 r => ⟨sz_of (hl vs H2 r), fun p np => q _ _ (e2.trans (Ex.new np)) ⟨p, vs, H2, rfl, upd_same, e.trans e2, Ex.new np, r⟩⟩
end
theorem et_yes {σ : L2.St} {H : Hp} : EvT tYes σ H true := fun H1 _ Q q => q H1 (Ex.refl H1)
end Mz
namespace Mz
open PySem PySem.Spec PyProof.Rows L2 Evl
def topS (i : Nat) : Stmt := PySem.Challenge.pw_mazeguide_k05_mazes_checked.main.body.getD i (.Pass ⟨0, 0, 0, 0⟩)
abbrev s_need_room : Stmt := topS 13
theorem sc_need_room : FnScope ["maze", "room"] ["maze", "room"] (defScope s_need_room) := ⟨rfl, rfl, rfl, by decide +kernel, rfl, by decide +kernel, by decide +kernel⟩
abbrev s_need_kind : Stmt := topS 14
theorem sc_need_kind : FnScope ["kind"] ["kind"] (defScope s_need_kind) := ⟨rfl, rfl, rfl, by decide +kernel, rfl, by decide +kernel, by decide +kernel⟩
abbrev s_checked : Stmt := topS 15
theorem sc_checked : FnScope ["maze", "door", "lying"] ["maze"] (defScope s_checked) := ⟨rfl, rfl, rfl, by decide +kernel, rfl, by decide +kernel, by decide +kernel⟩
abbrev s_l_mix : Stmt := topS 17
theorem sc_l_mix : FnScope ["_law_cell", "_law_k", "_law_number_here"] ["_law_cell", "_law_k"] (defScope s_l_mix) := ⟨rfl, rfl, rfl, by decide +kernel, rfl, by decide +kernel, by decide +kernel⟩
abbrev s_l_cell_at : Stmt := topS 18
theorem sc_l_cell_at : FnScope ["_law_script", "_law_k"] ["_law_script", "_law_k"] (defScope s_l_cell_at) := ⟨rfl, rfl, rfl, by decide +kernel, rfl, by decide +kernel, by decide +kernel⟩
abbrev s_l_number : Stmt := topS 19
theorem sc_l_number : FnScope ["_law_cell", "_law_bound"] ["_law_cell", "_law_bound"] (defScope s_l_number) := ⟨rfl, rfl, rfl, by decide +kernel, rfl, by decide +kernel, by decide +kernel⟩
abbrev s_l_spoilt : Stmt := topS 20
theorem sc_l_spoilt : FnScope ["_law_maze", "_law_cell", "_law_size", "_law_doors", "_law_lying", "_law_at", "_law_door", "_law_one"] ["_law_maze", "_law_cell"] (defScope s_l_spoilt) := ⟨rfl, rfl, rfl, by decide +kernel, rfl, by decide +kernel, by decide +kernel⟩
abbrev s_l_due : Stmt := topS 21
theorem sc_l_due : FnScope ["_law_maze", "_law_size", "_law_doors", "_law_lying", "_law_door", "_law_room", "_law_kind"] ["_law_maze"] (defScope s_l_due) := ⟨rfl, rfl, rfl, by decide +kernel, rfl, by decide +kernel, by decide +kernel⟩
abbrev s_l_told : Stmt := topS 22
theorem sc_l_told : FnScope ["_law_maze", "_law_found"] ["_law_maze"] (defScope s_l_told) := ⟨rfl, rfl, rfl, by decide +kernel, rfl, by decide +kernel, by decide +kernel⟩
abbrev s_l_refused : Stmt := topS 23
theorem sc_l_refused : FnScope ["_law_maze", "e", "_law_kinds"] ["_law_maze"] (defScope s_l_refused) := ⟨rfl, rfl, rfl, by decide +kernel, rfl, by decide +kernel, by decide +kernel⟩
abbrev s_law : Stmt := topS 24
theorem sc_law : FnScope ["_law_script", "_law_size", "_law_more", "_law_doors", "_law_k", "_law_lying", "_law_maze", "_law_cell", "_law_kept", "_law_due_here", "_law_found"] ["_law_script"] (defScope s_law) := ⟨rfl, rfl, rfl, by decide +kernel, rfl, by decide +kernel, by decide +kernel⟩
structure Txt (K : PySem.W.Frag) (mg : Str → Option Value) : Prop where
  n_ValueError : mg "ValueError" = none
  n_abs : mg "abs" = none
  n_isinstance : mg "isinstance" = none
  n_len : mg "len" = none
  n_list : mg "list" = none
  n_range : mg "range" = none
  n_tuple : mg "tuple" = none
  i_MOST_ROOMS : ∃ tk, mg "MOST_ROOMS" = some (.int 60 tk)
  i_MOST_DOORS : ∃ tk, mg "MOST_DOORS" = some (.int 90 tk)
  i_MOST_KEYS : ∃ tk, mg "MOST_KEYS" = some (.int 60 tk)
  i_KINDS : ∃ tk, mg "KINDS" = some (.int 5 tk)
  e_MazeError : ExcT K mg "MazeError"
  e_NoMaze : ExcT K mg "NoMaze"
  e_NoRoom : ExcT K mg "NoRoom"
  e_NoKey : ExcT K mg "NoKey"
  e_TooMany : ExcT K mg "TooMany"
  e_NoDoor : ExcT K mg "NoDoor"
  e_Shut : ExcT K mg "Shut"
  x_NoRoom : ExcC K (He.ga K "NoRoom")
  m_NoRoom_MazeError : PySem.W.exmOne K (.ref (He.ga K "NoRoom")) (.ref (He.ga K "MazeError")) = some true
  k_NoRoom_MazeError : PySem.W.kitOne K (.ref (He.ga K "NoRoom")) (.ref (He.ga K "MazeError")) = some true
  m_NoRoom_NoMaze : PySem.W.exmOne K (.ref (He.ga K "NoRoom")) (.ref (He.ga K "NoMaze")) = some false
  k_NoRoom_NoMaze : PySem.W.kitOne K (.ref (He.ga K "NoRoom")) (.ref (He.ga K "NoMaze")) = some false
  m_NoRoom_NoRoom : PySem.W.exmOne K (.ref (He.ga K "NoRoom")) (.ref (He.ga K "NoRoom")) = some true
  k_NoRoom_NoRoom : PySem.W.kitOne K (.ref (He.ga K "NoRoom")) (.ref (He.ga K "NoRoom")) = some true
  m_NoRoom_NoKey : PySem.W.exmOne K (.ref (He.ga K "NoRoom")) (.ref (He.ga K "NoKey")) = some false
  k_NoRoom_NoKey : PySem.W.kitOne K (.ref (He.ga K "NoRoom")) (.ref (He.ga K "NoKey")) = some false
  m_NoRoom_TooMany : PySem.W.exmOne K (.ref (He.ga K "NoRoom")) (.ref (He.ga K "TooMany")) = some false
  k_NoRoom_TooMany : PySem.W.kitOne K (.ref (He.ga K "NoRoom")) (.ref (He.ga K "TooMany")) = some false
  m_NoRoom_NoDoor : PySem.W.exmOne K (.ref (He.ga K "NoRoom")) (.ref (He.ga K "NoDoor")) = some false
  k_NoRoom_NoDoor : PySem.W.kitOne K (.ref (He.ga K "NoRoom")) (.ref (He.ga K "NoDoor")) = some false
  m_NoRoom_Shut : PySem.W.exmOne K (.ref (He.ga K "NoRoom")) (.ref (He.ga K "Shut")) = some false
  k_NoRoom_Shut : PySem.W.kitOne K (.ref (He.ga K "NoRoom")) (.ref (He.ga K "Shut")) = some false
  k_NoRoom_ValueError : PySem.W.kitOne K (.ref (He.ga K "NoRoom")) (.type "ValueError") = some true
  x_NoKey : ExcC K (He.ga K "NoKey")
  m_NoKey_MazeError : PySem.W.exmOne K (.ref (He.ga K "NoKey")) (.ref (He.ga K "MazeError")) = some true
  k_NoKey_MazeError : PySem.W.kitOne K (.ref (He.ga K "NoKey")) (.ref (He.ga K "MazeError")) = some true
  m_NoKey_NoMaze : PySem.W.exmOne K (.ref (He.ga K "NoKey")) (.ref (He.ga K "NoMaze")) = some false
  k_NoKey_NoMaze : PySem.W.kitOne K (.ref (He.ga K "NoKey")) (.ref (He.ga K "NoMaze")) = some false
  m_NoKey_NoRoom : PySem.W.exmOne K (.ref (He.ga K "NoKey")) (.ref (He.ga K "NoRoom")) = some false
  k_NoKey_NoRoom : PySem.W.kitOne K (.ref (He.ga K "NoKey")) (.ref (He.ga K "NoRoom")) = some false
  m_NoKey_NoKey : PySem.W.exmOne K (.ref (He.ga K "NoKey")) (.ref (He.ga K "NoKey")) = some true
  k_NoKey_NoKey : PySem.W.kitOne K (.ref (He.ga K "NoKey")) (.ref (He.ga K "NoKey")) = some true
  m_NoKey_TooMany : PySem.W.exmOne K (.ref (He.ga K "NoKey")) (.ref (He.ga K "TooMany")) = some false
  k_NoKey_TooMany : PySem.W.kitOne K (.ref (He.ga K "NoKey")) (.ref (He.ga K "TooMany")) = some false
  m_NoKey_NoDoor : PySem.W.exmOne K (.ref (He.ga K "NoKey")) (.ref (He.ga K "NoDoor")) = some false
  k_NoKey_NoDoor : PySem.W.kitOne K (.ref (He.ga K "NoKey")) (.ref (He.ga K "NoDoor")) = some false
  m_NoKey_Shut : PySem.W.exmOne K (.ref (He.ga K "NoKey")) (.ref (He.ga K "Shut")) = some false
  k_NoKey_Shut : PySem.W.kitOne K (.ref (He.ga K "NoKey")) (.ref (He.ga K "Shut")) = some false
  k_NoKey_ValueError : PySem.W.kitOne K (.ref (He.ga K "NoKey")) (.type "ValueError") = some true
  x_TooMany : ExcC K (He.ga K "TooMany")
  m_TooMany_MazeError : PySem.W.exmOne K (.ref (He.ga K "TooMany")) (.ref (He.ga K "MazeError")) = some true
  k_TooMany_MazeError : PySem.W.kitOne K (.ref (He.ga K "TooMany")) (.ref (He.ga K "MazeError")) = some true
  m_TooMany_NoMaze : PySem.W.exmOne K (.ref (He.ga K "TooMany")) (.ref (He.ga K "NoMaze")) = some false
  k_TooMany_NoMaze : PySem.W.kitOne K (.ref (He.ga K "TooMany")) (.ref (He.ga K "NoMaze")) = some false
  m_TooMany_NoRoom : PySem.W.exmOne K (.ref (He.ga K "TooMany")) (.ref (He.ga K "NoRoom")) = some false
  k_TooMany_NoRoom : PySem.W.kitOne K (.ref (He.ga K "TooMany")) (.ref (He.ga K "NoRoom")) = some false
  m_TooMany_NoKey : PySem.W.exmOne K (.ref (He.ga K "TooMany")) (.ref (He.ga K "NoKey")) = some false
  k_TooMany_NoKey : PySem.W.kitOne K (.ref (He.ga K "TooMany")) (.ref (He.ga K "NoKey")) = some false
  m_TooMany_TooMany : PySem.W.exmOne K (.ref (He.ga K "TooMany")) (.ref (He.ga K "TooMany")) = some true
  k_TooMany_TooMany : PySem.W.kitOne K (.ref (He.ga K "TooMany")) (.ref (He.ga K "TooMany")) = some true
  m_TooMany_NoDoor : PySem.W.exmOne K (.ref (He.ga K "TooMany")) (.ref (He.ga K "NoDoor")) = some false
  k_TooMany_NoDoor : PySem.W.kitOne K (.ref (He.ga K "TooMany")) (.ref (He.ga K "NoDoor")) = some false
  m_TooMany_Shut : PySem.W.exmOne K (.ref (He.ga K "TooMany")) (.ref (He.ga K "Shut")) = some false
  k_TooMany_Shut : PySem.W.kitOne K (.ref (He.ga K "TooMany")) (.ref (He.ga K "Shut")) = some false
  k_TooMany_ValueError : PySem.W.kitOne K (.ref (He.ga K "TooMany")) (.type "ValueError") = some true
  d_need_room : Dfn K mg "need_room" s_need_room ["maze", "room"]
  d_need_kind : Dfn K mg "need_kind" s_need_kind ["kind"]
  d_checked : Dfn K mg "checked" s_checked ["maze"]
  d_l_mix : Dfn K mg "_law_mix" s_l_mix ["_law_cell", "_law_k"]
  d_l_cell_at : Dfn K mg "_law_cell_at" s_l_cell_at ["_law_script", "_law_k"]
  d_l_number : Dfn K mg "_law_number" s_l_number ["_law_cell", "_law_bound"]
  d_l_spoilt : Dfn K mg "_law_spoilt" s_l_spoilt ["_law_maze", "_law_cell"]
  d_l_due : Dfn K mg "_law_due" s_l_due ["_law_maze"]
  d_l_told : Dfn K mg "_law_told" s_l_told ["_law_maze"]
  d_l_refused : Dfn K mg "_law_refused" s_l_refused ["_law_maze"]
  d_law : Dfn K mg "law" s_law ["_law_script"]
end Mz
namespace Mz
open PySem PySem.Spec PyProof.Rows L2 Evl
/-! ### the tactics of the readings -/
local macro_rules | `(tactic| walk_at "mz side") => `(tactic| first
  | assumption
  | omega
  | decide
  | exact Or.inl ⟨by omega, by omega⟩
  | exact Or.inr ⟨by omega, by omega⟩
  | exact ⟨by omega, by omega⟩
  | exact ⟨by decide, by decide, by decide⟩)
local macro_rules | `(tactic| walk_at "mz ev1") => `(tactic| first
  | exact ev_c
  | exact ev_var rfl
  | with_reducible apply ev_op
  | with_reducible exact rv_I0
  | ((with_reducible refine rv_I ?_); walk_at "mz side")
  | with_reducible exact rv_eqI
  | with_reducible exact rv_neI
  | with_reducible exact rv_isN
  | with_reducible exact rv_notN
  | with_reducible apply ev_un
  | with_reducible exact ru_neg
  | with_reducible apply ev_abs
  | with_reducible apply et_test
  | with_reducible apply et_B
  | with_reducible apply et_not
  | with_reducible apply et_and
  | with_reducible apply et_or
  | with_reducible apply ev_andV
  | with_reducible apply ev_orV
  | with_reducible apply ev_notV
  | with_reducible exact ea_nil
  | with_reducible apply ea_cons
  | with_reducible exact ea_tn
  | with_reducible apply ea_tc
  | with_reducible refine td_tup ?_ (by first | decide | simp)
  | with_reducible exact et_yes
  | ((with_reducible show ((_ : Bool) = (_ : Bool)) → _); intro _))
local macro_rules | `(tactic| walk_at "mz ev") => `(tactic| repeat' walk_at "mz ev1")
/-! ### the data of mazes -/
abbrev Key2 := Int × Int
abbrev Door := Int × Int × Option Int
def lockD : Option Int → PyData
  | none => .none
  | some k => .int k
def doorD (d : Door) : PyData := .tuple [.int d.1, .int d.2.1, lockD d.2.2]
def keyD (k : Key2) : PyData := .tuple [.int k.1, .int k.2]
def intsD (ns : List Int) : PyData := .tuple (ns.map PyData.int)
mutual
def nb : PyData → Bool
  | .none => true
  | .int _ => true
  | .list xs => nbAll xs
  | .tuple xs => nbAll xs
  | _ => false
def nbAll : List PyData → Bool
  | [] => true
  | x :: xs => nb x && nbAll xs
end
mutual
theorem nb_lay : ∀ d : PyData, nb d = true → d.canLay0 = true
  | .none, _ => by simp only [PyData.canLay0]
  | .int _, _ => by simp only [PyData.canLay0]
  | .bool _, h => by simp [nb] at h
  | .str _, h => by simp [nb] at h
  | .dict _, h => by simp [nb] at h
  | .list xs, h => by simp only [PyData.canLay0]; exact nb_layAll xs (by simpa only [nb] using h)
  | .tuple xs, h => by simp only [PyData.canLay0]; exact nb_layAll xs (by simpa only [nb] using h)
theorem nb_layAll : ∀ ds : List PyData, nbAll ds = true → PyData.canLayAll0 ds = true
  | [], _ => by simp only [PyData.canLayAll0]
  | x :: xs, h => by
    simp only [nbAll, Bool.and_eq_true] at h
    simp only [PyData.canLayAll0, Bool.and_eq_true]
    exact ⟨nb_lay x h.1, nb_layAll xs h.2⟩
end
mutual
theorem eqv_nb : ∀ d e : PyData, nb d = true → nb e = true → (PyData.eqv d e = true ↔ d = e)
  | .none, .none, _, _ => by simp [PyData.eqv]
  | .none, .int _, _, _ => by simp [PyData.eqv]
  | .none, .list _, _, _ => by simp [PyData.eqv]
  | .none, .tuple _, _, _ => by simp [PyData.eqv]
  | .int _, .none, _, _ => by simp [PyData.eqv]
  | .int i, .int j, _, _ => by simp [PyData.eqv]
  | .int _, .list _, _, _ => by simp [PyData.eqv]
  | .int _, .tuple _, _, _ => by simp [PyData.eqv]
  | .list _, .none, _, _ => by simp [PyData.eqv]
  | .list _, .int _, _, _ => by simp [PyData.eqv]
  | .list xs, .list ys, h, q => by
    simp only [PyData.eqv, PyData.list.injEq]
    exact eqv_nbAll xs ys (by simpa only [nb] using h) (by simpa only [nb] using q)
  | .list _, .tuple _, _, _ => by simp [PyData.eqv]
  | .tuple _, .none, _, _ => by simp [PyData.eqv]
  | .tuple _, .int _, _, _ => by simp [PyData.eqv]
  | .tuple _, .list _, _, _ => by simp [PyData.eqv]
  | .tuple xs, .tuple ys, h, q => by
    simp only [PyData.eqv, PyData.tuple.injEq]
    exact eqv_nbAll xs ys (by simpa only [nb] using h) (by simpa only [nb] using q)
  | .bool _, _, h, _ => by simp [nb] at h
  | .str _, _, h, _ => by simp [nb] at h
  | .dict _, _, h, _ => by simp [nb] at h
  | .none, .bool _, _, h => by simp [nb] at h
  | .none, .str _, _, h => by simp [nb] at h
  | .none, .dict _, _, h => by simp [nb] at h
  | .int _, .bool _, _, h => by simp [nb] at h
  | .int _, .str _, _, h => by simp [nb] at h
  | .int _, .dict _, _, h => by simp [nb] at h
  | .list _, .bool _, _, h => by simp [nb] at h
  | .list _, .str _, _, h => by simp [nb] at h
  | .list _, .dict _, _, h => by simp [nb] at h
  | .tuple _, .bool _, _, h => by simp [nb] at h
  | .tuple _, .str _, _, h => by simp [nb] at h
  | .tuple _, .dict _, _, h => by simp [nb] at h
theorem eqv_nbAll : ∀ ds es : List PyData, nbAll ds = true → nbAll es = true → (PyData.eqvAll ds es = true ↔ ds = es)
  | [], [], _, _ => by simp [PyData.eqvAll]
  | [], _ :: _, _, _ => by simp [PyData.eqvAll]
  | _ :: _, [], _, _ => by simp [PyData.eqvAll]
  | x :: xs, y :: ys, h, q => by
    simp only [nbAll, Bool.and_eq_true] at h q
    simp only [PyData.eqvAll, Bool.and_eq_true, List.cons.injEq, eqv_nb x y h.1 q.1, eqv_nbAll xs ys h.2 q.2]
end
theorem eqv_self {d : PyData} (h : nb d = true) : PyData.eqv d d = true := (eqv_nb d d h h).mpr rfl
theorem eqv_dec {d e : PyData} {p : Prop} [Decidable p] (h : nb d = true) (q : nb e = true) (k : d = e ↔ p) : PyData.eqv d e = decide p := by
  by_cases c : p
  · rw [decide_eq_true c]
    exact (eqv_nb d e h q).mpr (k.mpr c)
  · rw [decide_eq_false c]
    cases z : PyData.eqv d e with
    | false => rfl
    | true => exact absurd (k.mp ((eqv_nb d e h q).mp z)) c
theorem nbAll_iff : ∀ {ds : List PyData}, nbAll ds = true ↔ ∀ d ∈ ds, nb d = true
  | [] => by simp [nbAll]
  | x :: xs => by simp [nbAll, nbAll_iff (ds := xs)]
theorem nbAll_map {α : Type} {f : α → PyData} (h : ∀ a, nb (f a) = true) (l : List α) : nbAll (l.map f) = true := nbAll_iff.mpr fun d hd => by
  obtain ⟨a, _, rfl⟩ := List.mem_map.mp hd
  exact h a
/-- depth -/
theorem depthAll_le {n : Nat} : ∀ {ds : List PyData}, (∀ d ∈ ds, d.depth ≤ n) → PyData.depthAll ds ≤ n
  | [], _ => by simp [PyData.depthAll]
  | x :: xs, h => by
    have h1 := h x (by simp)
    have h2 := depthAll_le (ds := xs) fun d hd => h d (by simp [hd])
    simp only [PyData.depthAll]
    omega
theorem depth_tuple {n : Nat} {ds : List PyData} (h : ∀ d ∈ ds, d.depth ≤ n) : PyData.depth (.tuple ds) ≤ n + 1 := by
  have := depthAll_le h
  simp only [PyData.depth]
  omega
theorem depth_list {n : Nat} {ds : List PyData} (h : ∀ d ∈ ds, d.depth ≤ n) : PyData.depth (.list ds) ≤ n + 1 := by
  have := depthAll_le h
  simp only [PyData.depth]
  omega
theorem depth_int (i : Int) : PyData.depth (.int i) = 0 := by simp [PyData.depth]
theorem depth_map {α : Type} {n : Nat} {f : α → PyData} (h : ∀ a, (f a).depth ≤ n) (l : List α) : ∀ d ∈ l.map f, d.depth ≤ n := fun d hd => by
  obtain ⟨a, _, rfl⟩ := List.mem_map.mp hd
  exact h a
theorem shaped_of {d : PyData} (h : nb d = true) (k : d.depth ≤ 64) : SeqAt.shaped d = true := by
  show (d.canLay0 && decide (d.depth ≤ 64)) = true
  rw [Bool.and_eq_true]
  exact ⟨nb_lay d h, decide_eq_true k⟩
theorem nb_lock (l : Option Int) : nb (lockD l) = true := by cases l <;> simp [lockD, nb]
theorem nb_door (d : Door) : nb (doorD d) = true := by simp [doorD, nb, nbAll, nb_lock]
theorem nb_key (k : Key2) : nb (keyD k) = true := by simp [keyD, nb, nbAll]
theorem nb_intD (i : Int) : nb (.int i) = true := by simp [nb]
theorem nb_ints (ns : List Int) : nb (intsD ns) = true := by simp only [intsD, nb]; exact nbAll_map nb_intD ns
theorem dep_lock (l : Option Int) : (lockD l).depth = 0 := by cases l <;> simp [lockD, PyData.depth]
theorem dep_door (d : Door) : (doorD d).depth ≤ 1 := by simp [doorD, PyData.depth, PyData.depthAll, dep_lock]
theorem dep_key (k : Key2) : (keyD k).depth ≤ 1 := by simp [keyD, PyData.depth, PyData.depthAll]
theorem dep_ints (ns : List Int) : (intsD ns).depth ≤ 1 := depth_tuple (depth_map (fun i => by simp [PyData.depth]) ns)
theorem sh_key (k : Key2) : SeqAt.shaped (keyD k) = true := shaped_of (nb_key k) (by have := dep_key k; omega)
theorem sh_ints (ns : List Int) : SeqAt.shaped (intsD ns) = true := shaped_of (nb_ints ns) (by have := dep_ints ns; omega)
theorem nb_keys (ks : List Key2) : nb (.list (ks.map keyD)) = true := by simp only [nb]; exact nbAll_map nb_key ks
theorem sh_keys (ks : List Key2) : SeqAt.shaped (.list (ks.map keyD)) = true := shaped_of (nb_keys ks) (by have := depth_list (depth_map dep_key ks); omega)
theorem nb_doors (ks : List Door) : nb (.list (ks.map doorD)) = true := by simp only [nb]; exact nbAll_map nb_door ks
theorem sh_doors (ks : List Door) : SeqAt.shaped (.list (ks.map doorD)) = true := shaped_of (nb_doors ks) (by have := depth_list (depth_map dep_door ks); omega)
theorem keyD_inj {a b : Key2} : keyD a = keyD b ↔ a = b := by
  obtain ⟨a1, a2⟩ := a
  obtain ⟨b1, b2⟩ := b
  simp [keyD]
theorem eqv_key (a b : Key2) : PyData.eqv (keyD a) (keyD b) = decide (a = b) := eqv_dec (nb_key a) (nb_key b) keyD_inj
theorem any_key (k : Key2) : ∀ ks : List Key2, ((ks.map keyD).any fun z => PyData.eqv z (keyD k)) = decide (k ∈ ks)
  | [] => by simp
  | a :: r => by
    have h := any_key k r
    rw [List.map_cons, List.any_cons, h, eqv_key]
    by_cases e : a = k
    · subst e; simp
    · have e2 : ¬ k = a := fun z => e z.symm
      simp [e, e2]
theorem map_inj {α β : Type} {f : α → β} (h : ∀ a b, f a = f b → a = b) : ∀ {l m : List α}, l.map f = m.map f → l = m
  | [], [], _ => rfl
  | [], _ :: _, e => by simp at e
  | _ :: _, [], e => by simp at e
  | a :: l, b :: m, e => by
    simp only [List.map_cons, List.cons.injEq] at e
    rw [h a b e.1, map_inj h e.2]
theorem intsD_inj {a b : List Int} : intsD a = intsD b ↔ a = b := by
  refine ⟨fun e => ?_, fun e => by rw [e]⟩
  simp only [intsD, PyData.tuple.injEq] at e
  exact map_inj (fun a b z => by simpa using z) e
theorem eqv_ints (a b : List Int) : PyData.eqv (intsD a) (intsD b) = decide (a = b) := eqv_dec (nb_ints a) (nb_ints b) intsD_inj
/-- the kinds of which p tells True, ascending -/
def kindsOf (p : Nat → Bool) : List Int := ((List.range 5).filter p).map fun (i : Nat) => (i : Int)
theorem kindsOf_data (p : Nat → Bool) : ((List.range 5).filter p).map (fun (i : Nat) => PyData.int (i : Int)) = (kindsOf p).map PyData.int := by
  unfold kindsOf
  rw [List.map_map]
  rfl
def keysIn (ks : List Key2) (room : Int) : List Int := kindsOf fun i => decide ((room, (i : Int)) ∈ ks)
def takenF (ks : List Key2) (room : Int) (held : List Int) : List Int := kindsOf fun i => decide ((i : Int) ∈ held) || decide ((room, (i : Int)) ∈ ks)
def mazeD (n : Int) (dd : List PyData) (ks : List Key2) : PyData := .tuple [.int n, .list dd, .list (ks.map keyD)]
/-- the room is there -/
abbrev Here (n room : Int) : Prop := 0 ≤ room ∧ room < n
/-- a cell of the script -/
def cellAt (ns : List Int) (k : Int) : Int := if k < ns.length then ns.getD k.toNat 0 else 0

section
variable {P : Program} {w : World} {K : PySem.W.Frag} {mg : Str → Option Value} {base : Heap}
/-! ### isinstance -/
theorem rc_isi {H : Hp} {x c : V} {t u : Value} {b : Bool} (kc : ClsV c u) (ty : ∀ H1, Ex H H1 → TyX K H1 x t) (hk : PySem.W.kitOne K t u = some b) : RC (rIsi K) [x, c] H (.bl b) := fun H1 e Q q => ⟨x, c, t, u, b, rfl, kc, ty H1 e, hk, q H1 (Ex.refl H1)⟩
theorem ty_tup {H : Hp} {v : V} {ds : List PyData} (h : Dp K H v (.tuple ds)) : TyX K H v (.type "tuple") := by
  cases h with
  | tup h _ =>
    rcases h with (h | ⟨o, h⟩) | ⟨o, its, n, h, hc, _⟩
    · exact .base (.tup h)
    · exact .fTuple h
    · exact .kTuple h hc
theorem ty_lst {H : Hp} {v : V} {ds : List PyData} (h : Dp K H v (.list ds)) : TyX K H v (.type "list") := by
  cases h with
  | lst h _ =>
    rcases h with (h | ⟨o, h⟩) | ⟨o, its, n, h, hc, _⟩
    · exact .base (.lst h)
    · exact .base (.frz h)
    · exact .kList h hc
theorem ev_isi {σ : L2.St} {H : Hp} {ta : TE} {v : V} {n m : String} {b : Bool} (h : Ev ta σ H v) (ty : ∀ H1, Ex H H1 → TyX K H1 v (.type n)) (hk : kitB n m = some b) : Ev (tCB (rIsi K) (tCons ta (tCons (tC (.ty m)) tNil))) σ H (.bl b) :=
  ev_cb (ea_cons h (ea_cons ev_c ea_nil)) (rc_isi (.ty m) ty (kit_ty hk))
theorem ev_isiD {σ : L2.St} {H : Hp} {ta : TE} {d : PyData} {n m : String} {b : Bool} (h : EvD K ta σ H d) (ty : ∀ v H1, Ex H H1 → Dp K H1 v d → TyX K H1 v (.type n)) (hk : kitB n m = some b) : Ev (tCB (rIsi K) (tCons ta (tCons (tC (.ty m)) tNil))) σ H (.bl b) := fun H1 e Q q =>
  h H1 e _ fun v H2 e2 p => ⟨v, .ty m, .type n, .type m, b, rfl, .ty m, ty v H2 (e.trans e2) p, kit_ty hk, q H2 e2⟩
theorem ev_isE {st : L2.St} {H : Hp} {ta : TE} {a D : Addr} {c : V} {cv : Value} {b : Bool} (h : Ev ta st H (.ref a)) (hc : ∀ u, L2.RelV c u → u = cv) (hk : PySem.W.kitOne K (.ref D) cv = some b) : Ev (tCB (rIsE K D a) (tCons ta (tCons (tC c) tNil))) st H (.bl b) :=
  ev_cb (ea_cons h (ea_cons ev_c ea_nil)) fun H1 _ Q q => ⟨c, cv, b, rfl, hc, hk, q H1 (Ex.refl H1)⟩
end

def mix (c k : Int) : Int := (c + 7919 * k + 1) * 48271 % 1000003 * ((c + 7919 * k + 1) * 48271 % 1000003) % 999983
theorem mix_pos (c k : Int) : 0 ≤ mix c k := Int.emod_nonneg _ (by decide)
theorem mix_lt (c k : Int) : mix c k < 999983 := Int.emod_lt_of_pos _ (by decide)
def sp_l_mix (K : PySem.W.Frag) : Sp := fun vs H Q _ => ∃ c k : Int, vs = [.int c, .int k] ∧ ∀ H2, Ex H H2 → Q (.int (mix c k)) H2
section
variable {P : Program} {w : World} {K : PySem.W.Frag} {mg : Str → Option Value} {base : Heap}
theorem ok_l_mix (T : Txt K mg) : Kept P w K mg base 1 "_law_mix" ["_law_cell", "_law_k"] (sp_l_mix K) := by
  refine T.d_l_mix.kept sc_l_mix (fun vs H Q E h => ?_) (fun cdv A outer s H vs Q E hr h => ?_)
  · obtain ⟨c, k, rfl, _⟩ := h
    rfl
  · obtain ⟨c, k, rfl, q⟩ := h
    refine ⟨_, (pss_cons (ps_set (i := 2) sc_l_mix.nd rfl (Or.inl rfl) (pe_op op_mod (pe_op op_mul (pe_op op_add (pe_op op_add (pv 0) (pe_op op_mul pe_int (pv 1))) pe_int) pe_int) pe_int))
      (pss_one (ps_ret (pe_op op_mod (pe_op op_mul (pv 2) (pv 2)) pe_int)))), ?_⟩
    refine q_asg (v := .int ((c + 7919 * k + 1) * 48271 % 1000003)) ?_ fun H1 e1 => ?_
    · walk_at "mz ev"
    refine s_ret (v := .int (mix c k)) ?_ fun H2 e2 => q _ (e1.trans e2)
    unfold mix
    walk_at "mz ev"
theorem sv_l_mix {H : Hp} {c k : Int} : SpV (sp_l_mix K) [.int c, .int k] H (.int (mix c k)) := fun H1 e Q q E => ⟨c, k, rfl, q⟩
end

section
variable {P : Program} {w : World} {K : PySem.W.Frag} {mg : Str → Option Value} {base : Heap}
/-! ### a cell of the script -/
def sp_l_cell_at (K : PySem.W.Frag) : Sp := fun vs H Q _ => ∃ (a : Addr) (ns : List Int) (k : Int), vs = [.ref a, .int k] ∧ SqL K H a (ns.map V.int) ∧ 0 ≤ k ∧ ∀ H2, Ex H H2 → Q (.int (cellAt ns k)) H2
theorem ok_l_cell_at (T : Txt K mg) : Kept P w K mg base 1 "_law_cell_at" ["_law_script", "_law_k"] (sp_l_cell_at K) := by
  refine T.d_l_cell_at.kept sc_l_cell_at (fun vs H Q E h => ?_) (fun cdv A outer s H vs Q E hr h => ?_)
  · obtain ⟨a, ns, k, rfl, _⟩ := h
    rfl
  · obtain ⟨a, ns, k, rfl, hS, h0, q⟩ := h
    refine ⟨_, (pss_cons (ps_if (pt_cmpR op_lt (pv 1) (pe_callB (call_len_seq_K (K := K) rfl) (by rfl) T.n_len (by decide +kernel) (pa_cons (pv 0) pa_nil)) (nomark _))
        (pss_one (ps_ret (pe_ix (ix_list_K (K := K) rfl) (pv 0) (pv 1) (fun _ _ => rfl))))
        pss_nil)
      (pss_one (ps_ret pe_int))), ?_⟩
    refine q_when (et_test (ev_op (ev_var rfl) (ev_lenS (ev_var rfl) hS) rv_I0)) (fun hb H1 e1 => ?_) (fun hb H1 e1 => ?_)
    · have hb' : k < (ns.map V.int).length := of_decide_eq_true hb
      rw [List.length_map] at hb'
      have e : (ns.map V.int)[k.toNat]? = some (.int (cellAt ns k)) := by
        have hl : k.toNat < ns.length := by omega
        rw [List.getElem?_map, List.getElem?_eq_getElem hl]
        simp [cellAt, hb', List.getD, List.getElem?_eq_getElem hl]
      refine s_ret (v := .int (cellAt ns k)) (ev_op (ev_var rfl) (ev_var rfl) (rv_ixL (ex_l e1 hS) ?_)) fun H2 e2 => q _ (e1.trans e2)
      exact at_of (by omega) e
    · have hb' : ¬ k < (ns.map V.int).length := of_decide_eq_false hb
      rw [List.length_map] at hb'
      have e : cellAt ns k = 0 := by simp [cellAt, hb']
      refine s_ret (v := .int 0) ev_c fun H2 e2 => ?_
      have := q _ (e1.trans e2)
      rw [e] at this
      exact this
theorem sv_l_cell_at {H : Hp} {a : Addr} {ns : List Int} {k : Int} (hS : SqL K H a (ns.map V.int)) (h0 : 0 ≤ k) : SpV (sp_l_cell_at K) [.ref a, .int k] H (.int (cellAt ns k)) := fun H1 e Q q E => ⟨a, ns, k, rfl, ex_l e hS, h0, q⟩
end

section
variable {P : Program} {w : World} {K : PySem.W.Frag} {mg : Str → Option Value} {base : Heap}
/-! ### need_room -/
abbrev cNoRoom (K : PySem.W.Frag) : Value := .ref (He.ga K "NoRoom")
def sp_need_room (K : PySem.W.Frag) : Sp := fun vs H Q E => ∃ (v : V) (n room : Int) (rest : List PyData), vs = [v, .int room] ∧ Dp K H v (.tuple (.int n :: rest)) ∧ (Here n room → ∀ H2, Ex H H2 → Q .non H2) ∧ (¬ Here n room → ∀ H2, Ex H H2 → E (cNoRoom K) none H2)
theorem ok_need_room (T : Txt K mg) : Kept P w K mg base 1 "need_room" ["maze", "room"] (sp_need_room K) := by
  refine T.d_need_room.kept sc_need_room (fun vs H Q E h => ?_) (fun cdv A outer s H vs Q E hr h => ?_)
  · obtain ⟨v, n, room, rest, rfl, _⟩ := h
    rfl
  · obtain ⟨v, n, room, rest, rfl, hv, q, qe⟩ := h
    refine ⟨_, (pss_one (ps_if (PW.pt (pw_or (pt_cmpR op_lt (pv 1) pe_int (nomark _)) (pw_or1 (pt_cmpR op_ge (pv 1) (pe_ix (ix_tup_K (K := K) rfl) (pv 0) pe_int (fun _ _ => rfl)) (nomark _)))))
        (pss_one (ps_raise rfl (takes_of rfl rfl rfl rfl) (pmk_own PySem.F.excBase_ValueError T.e_NoRoom.xC T.e_NoRoom.gC T.e_NoRoom.kC (raises_own T.e_NoRoom.bC T.e_NoRoom.tC) rfl)))
        pss_nil)), ?_⟩
    refine s_when (b := decide (room < 0) || decide (n ≤ room)) (et_or (et_test (ev_op (ev_var rfl) ev_c rv_I0)) fun _ => et_test (ev_op (ev_var rfl) (ev_of_ed (ed_ixT (ed_any (ev_var rfl) hv) ev_c atI0)) rv_I0)) (fun hb H1 e1 => ?_) (fun hb H1 e1 => ?_)
    · refine qe (fun z => ?_) H1 e1
      obtain ⟨z1, z2⟩ := z
      simp at hb
      omega
    · refine q ?_ H1 e1
      simp at hb
      exact ⟨by omega, by omega⟩
end

/-! ### of laws -/
section
variable {K : PySem.W.Frag}
theorem cut_ints (ns : List Int) (lo hi : Option Int) : ∃ ms : List Int, cutV (ns.map V.int) lo hi = ms.map V.int ∧ ms.length ≤ ns.length := by
  refine ⟨(ns.drop (HT.sIx ns.length 0 lo)).take (HT.sIx ns.length ns.length hi - HT.sIx ns.length 0 lo), ?_, ?_⟩
  · unfold cutV
    simp [List.map_take, List.map_drop]
  · rw [List.length_take, List.length_drop]
    omega
theorem mod_here {n : Int} (h : 0 < n) (x : Int) : Here n (x % n) := ⟨Int.emod_nonneg _ (by omega), Int.emod_lt_of_pos _ h⟩
def sp_law (K : PySem.W.Frag) : Sp := fun vs H Q _ => ∃ (a : Addr) (ns : List Int), vs = [.ref a] ∧ SqL K H a (ns.map V.int) ∧ ns.length ≤ 63 ∧ ∀ H', Q (.bl true) H'
end

/-! ### what is refused, and of which class -/
inductive Ref3 where
  | room | key | many
def chkD (n : Int) (d : Door) : Option Ref3 :=
  if ¬ Here n d.1 then some .room else if ¬ Here n d.2.1 then some .room else match d.2.2 with
    | none => none
    | some k => if Here 5 k then none else some .key
def chkK (n : Int) (k : Key2) : Option Ref3 := if ¬ Here n k.1 then some .room else if Here 5 k.2 then none else some .key
def chk (n : Int) (ds : List Door) (ks : List Key2) : Option Ref3 :=
  if n < 1 then some .room else if 60 < n ∨ 90 < (ds.length : Int) ∨ 60 < (ks.length : Int) then some .many else (ds.findSome? (chkD n)).or (ks.findSome? (chkK n))
def codeS : Option Ref3 → Str
  | none => ""
  | some .room => "room"
  | some .key => "key"
  | some .many => "many"
def clsR (K : PySem.W.Frag) : Ref3 → Value
  | .room => .ref (He.ga K "NoRoom")
  | .key => .ref (He.ga K "NoKey")
  | .many => .ref (He.ga K "TooMany")
theorem fs_succ {α β : Type} {f : α → Option β} {l : List α} {i : Nat} {a : α} (h : l[i]? = some a) : (l.take (i + 1)).findSome? f = ((l.take i).findSome? f).or (f a) := by
  rw [List.take_succ, h, List.findSome?_append]
  cases (l.take i).findSome? f <;> simp
theorem fs_hit {α β : Type} {f : α → Option β} {l : List α} {i : Nat} {a : α} {r : β} (h : l[i]? = some a) (h0 : (l.take i).findSome? f = none) (hr : f a = some r) : l.findSome? f = some r := by
  have e : l = l.take (i + 1) ++ l.drop (i + 1) := (List.take_append_drop (i + 1) l).symm
  rw [e, List.findSome?_append, fs_succ h, h0, hr]
  rfl
def mazeF (n : Int) (ds : List Door) (ks : List Key2) : PyData := mazeD n (ds.map doorD) ks
section
variable {P : Program} {w : World} {K : PySem.W.Frag} {mg : Str → Option Value} {base : Heap}
/-! ### need_kind -/
def sp_need_kind (K : PySem.W.Frag) : Sp := fun vs H Q E => ∃ k : Int, vs = [.int k] ∧ (Here 5 k → ∀ H2, Ex H H2 → Q .non H2) ∧ (¬ Here 5 k → ∀ H2, Ex H H2 → E (.ref (He.ga K "NoKey")) none H2)
theorem ok_need_kind (T : Txt K mg) : Kept P w K mg base 1 "need_kind" ["kind"] (sp_need_kind K) := by
  refine T.d_need_kind.kept sc_need_kind (fun vs H Q E h => ?_) (fun cdv A outer s H vs Q E hr h => ?_)
  · obtain ⟨k, rfl, _⟩ := h
    rfl
  · obtain ⟨k, rfl, q, qe⟩ := h
    refine ⟨_, (pss_one (ps_if (PW.pt (pw_or (pt_cmpR op_lt (pv 0) pe_int (nomark _)) (pw_or1 (pt_cmpR op_ge (pv 0) (pe_gint T.i_KINDS (by rfl)) (nomark _)))))
        (pss_one (ps_raise rfl (takes_of rfl rfl rfl rfl) (pmk_own PySem.F.excBase_ValueError T.e_NoKey.xC T.e_NoKey.gC T.e_NoKey.kC (raises_own T.e_NoKey.bC T.e_NoKey.tC) rfl)))
        pss_nil)), ?_⟩
    refine s_when (b := decide (k < 0) || decide (5 ≤ k)) (by walk_at "mz ev") (fun hb H1 e1 => ?_) (fun hb H1 e1 => ?_)
    · refine qe (fun z => ?_) H1 e1
      obtain ⟨z1, z2⟩ := z
      simp at hb
      omega
    · refine q ?_ H1 e1
      simp at hb
      exact ⟨by omega, by omega⟩
/-! ### checked -/
def sp_checked (K : PySem.W.Frag) : Sp := fun vs H Q E => ∃ (v : V) (n : Int) (ds : List Door) (ks : List Key2), vs = [v] ∧ Dp K H v (mazeF n ds ks) ∧ (chk n ds ks = none → ∀ H2, Ex H H2 → Q v H2) ∧ (∀ r, chk n ds ks = some r → ∀ H2, Ex H H2 → E (clsR K r) none H2)
theorem ev_lockN {st : L2.St} {H : Hp} {ta : TE} {l : Option Int} (h : EvD K ta st H (lockD l)) : Ev (tOp (fun x y H Q => y = .non ∧ Q (.bl (!decide (x = .non))) H) ta (tC .non)) st H (.bl l.isSome) := fun H1 e Q q => h H1 e _ fun v H2 e2 p => by
  cases l with
  | none =>
    cases p
    exact ⟨rfl, q H2 e2⟩
  | some k =>
    cases p
    exact ⟨rfl, q H2 e2⟩
theorem ok_checked (T : Txt K mg) : Kept P w K mg base 2 "checked" ["maze"] (sp_checked K) := by
  refine T.d_checked.kept sc_checked (fun vs H Q E h => ?_) (fun cdv A outer s H vs Q E hr h => ?_)
  · obtain ⟨v, n, ds, ks, rfl, _⟩ := h
    rfl
  · obtain ⟨v, n, ds, ks, rfl, hv, q, qe⟩ := h
    refine ⟨_, (pss_cons (ps_if (pt_cmpR op_lt (pe_ix (ix_tup_K (K := K) rfl) (pv 0) pe_int (fun _ _ => rfl)) pe_int (nomark _))
        (pss_one (ps_raise rfl (takes_of rfl rfl rfl rfl) (pmk_own PySem.F.excBase_ValueError T.e_NoRoom.xC T.e_NoRoom.gC T.e_NoRoom.kC (raises_own T.e_NoRoom.bC T.e_NoRoom.tC) rfl)))
        pss_nil)
      (pss_cons (ps_if (PW.pt (pw_or (pt_cmpR op_gt (pe_ix (ix_tup_K (K := K) rfl) (pv 0) pe_int (fun _ _ => rfl)) (pe_gint T.i_MOST_ROOMS (by rfl)) (nomark _)) (pw_or (pt_cmpR op_gt (pe_callB (call_len_seq_K (K := K) rfl) (by rfl) T.n_len (by decide +kernel) (pa_cons (pe_ix (ix_tup_K (K := K) rfl) (pv 0) pe_int (fun _ _ => rfl)) pa_nil)) (pe_gint T.i_MOST_DOORS (by rfl)) (nomark _)) (pw_or1 (pt_cmpR op_gt (pe_callB (call_len_seq_K (K := K) rfl) (by rfl) T.n_len (by decide +kernel) (pa_cons (pe_ix (ix_tup_K (K := K) rfl) (pv 0) pe_int (fun _ _ => rfl)) pa_nil)) (pe_gint T.i_MOST_KEYS (by rfl)) (nomark _))))))
        (pss_one (ps_raise rfl (takes_of rfl rfl rfl rfl) (pmk_own PySem.F.excBase_ValueError T.e_TooMany.xC T.e_TooMany.gC T.e_TooMany.kC (raises_own T.e_TooMany.bC T.e_TooMany.tC) rfl)))
        pss_nil)
      (pss_cons (ps_for (passes_of rfl) rfl (pi_list_K (K := K) rfl (pe_ix (ix_tup_K (K := K) rfl) (pv 0) pe_int (fun _ _ => rfl))) (pg_name (i := 1) sc_checked.nd rfl (Or.inl rfl))
        (pss_cons (ps_expr (pe_fn (ok_need_room (K := K) T) (hr.mono (by decide)) (passR (takes_of rfl rfl rfl rfl)) (by rfl) (pa_cons (pv 0) (pa_cons (pe_ix (ix_tup_K (K := K) rfl) (pv 1) pe_int (fun _ _ => rfl)) pa_nil))))
      (pss_cons (ps_expr (pe_fn (ok_need_room (K := K) T) (hr.mono (by decide)) (passR (takes_of rfl rfl rfl rfl)) (by rfl) (pa_cons (pv 0) (pa_cons (pe_ix (ix_tup_K (K := K) rfl) (pv 1) pe_int (fun _ _ => rfl)) pa_nil))))
      (pss_one (ps_if (pt_cmpR op_notN (pe_ix (ix_tup_K (K := K) rfl) (pv 1) pe_int (fun _ _ => rfl)) pe_non (nomark _))
        (pss_one (ps_expr (pe_fn (ok_need_kind (K := K) T) (hr.mono (by decide)) (passR (takes_of rfl rfl rfl rfl)) (by rfl) (pa_cons (pe_ix (ix_tup_K (K := K) rfl) (pv 1) pe_int (fun _ _ => rfl)) pa_nil))))
        pss_nil)))))
      (pss_cons (ps_for (passes_of rfl) rfl (pi_list_K (K := K) rfl (pe_ix (ix_tup_K (K := K) rfl) (pv 0) pe_int (fun _ _ => rfl))) (pg_name (i := 2) sc_checked.nd rfl (Or.inl rfl))
        (pss_cons (ps_expr (pe_fn (ok_need_room (K := K) T) (hr.mono (by decide)) (passR (takes_of rfl rfl rfl rfl)) (by rfl) (pa_cons (pv 0) (pa_cons (pe_ix (ix_tup_K (K := K) rfl) (pv 2) pe_int (fun _ _ => rfl)) pa_nil))))
      (pss_one (ps_expr (pe_fn (ok_need_kind (K := K) T) (hr.mono (by decide)) (passR (takes_of rfl rfl rfl rfl)) (by rfl) (pa_cons (pe_ix (ix_tup_K (K := K) rfl) (pv 2) pe_int (fun _ _ => rfl)) pa_nil))))))
      (pss_one (ps_ret (pv 0))))))), ?_⟩
    have mz0 : ∀ {σ : L2.St} {H' : Hp}, Ex H H' → σ[0]? = some (some v) → Ev (tOp (rIxT K) (tVar 0) (tC (.int 0))) σ H' (.int n) := fun e h => ev_of_ed (ed_ixT (ed_any (ev_var h) (dp_ex e hv)) ev_c atI0)
    have mz1 : ∀ {σ : L2.St} {H' : Hp}, Ex H H' → σ[0]? = some (some v) → EvD K (tOp (rIxT K) (tVar 0) (tC (.int 1))) σ H' (.list (ds.map doorD)) := fun e h => ed_ixT (ed_any (ev_var h) (dp_ex e hv)) ev_c atI1
    have mz2 : ∀ {σ : L2.St} {H' : Hp}, Ex H H' → σ[0]? = some (some v) → EvD K (tOp (rIxT K) (tVar 0) (tC (.int 2))) σ H' (.list (ks.map keyD)) := fun e h => ed_ixT (ed_any (ev_var h) (dp_ex e hv)) ev_c atI2
    refine q_when (b := decide (n < 1)) (et_test (ev_op (mz0 (Ex.refl H) rfl) ev_c rv_I0)) (fun hb H1 e1 => ?_) (fun hb H1 e1 => ?_)
    · refine qe .room ?_ H1 e1
      simp at hb
      simp [chk, hb]
    simp only [decide_eq_false_iff_not] at hb
    refine q_when (b := decide (60 < n) || (decide (90 < ((ds.map doorD).length : Int)) || decide (60 < ((ks.map keyD).length : Int)))) (et_or (et_test (ev_op (mz0 e1 rfl) ev_c rv_I0)) fun _ => et_or (et_test (ev_op (ev_lenD (mz1 e1 rfl) (.inl rfl)) ev_c rv_I0)) fun _ => et_test (ev_op (ev_lenD (mz2 e1 rfl) (.inl rfl)) ev_c rv_I0)) (fun hb2 H2 e2 => ?_) (fun hb2 H2 e2 => ?_)
    · refine qe .many ?_ H2 (e1.trans e2)
      simp only [Bool.or_eq_true, decide_eq_true_eq, List.length_map] at hb2
      simp only [chk, if_neg hb, if_pos hb2]
    have hch : chk n ds ks = (ds.findSome? (chkD n)).or (ks.findSome? (chkK n)) := by
      simp only [Bool.or_eq_false_iff, decide_eq_false_iff_not, List.length_map] at hb2
      rw [chk, if_neg hb, if_neg (by omega)]
    have e12 := e1.trans e2
    refine q_forD (ds := ds.map doorD) (mz1 e12 rfl) (fun H1 i σ' H' => Ex H1 H' ∧ ∃ y, σ' = [some v, y, none] ∧ (ds.take i).findSome? (chkD n) = none) (fun H3 e3 => ⟨Ex.refl H3, none, rfl, rfl⟩) (fun H1 i σ' H' hP => hP.1) (fun H3 e3 i d x σ' H' hdi hx hP => ?_) (fun H3 e3 σ' H' hP => ?_)
    · obtain ⟨eH, y, rfl, hno⟩ := hP
      have eH' := (e12.trans e3).trans eH
      rw [List.getElem?_map] at hdi
      obtain ⟨⟨d1, d2, d3⟩, hd1, rfl⟩ := Option.map_eq_some_iff.mp hdi
      have hit : ∀ r, chkD n (d1, d2, d3) = some r → chk n ds ks = some r := fun r hr => by rw [hch, fs_hit hd1 hno hr]; rfl
      refine q_dropC (K := K) (ea_dc (ed_any (ev_var rfl) (dp_ex eH' hv)) (ea_dc (ed_ixT (ed_any (ev_var rfl) hx) ev_c atI0) ea_dn)) fun vs H4 e4 hvs => ?_
      obtain ⟨v1, u1, rfl, hv1, hu1⟩ := dpAll2 hvs
      cases dp_int_inv hu1
      refine ⟨v1, n, d1, _, rfl, hv1, fun h1 H5 e5 => ?_, fun h1 H5 e5 => qe .room (hit _ (by simp only [chkD]; rw [if_pos h1])) H5 ((eH'.trans e4).trans e5)⟩
      have e45 := e4.trans e5
      refine q_dropC (K := K) (ea_dc (ed_any (ev_var rfl) (dp_ex (eH'.trans e45) hv)) (ea_dc (ed_ixT (ed_any (ev_var rfl) (dp_ex e45 hx)) ev_c atI1) ea_dn)) fun vs H6 e6 hvs => ?_
      obtain ⟨v2, u2, rfl, hv2, hu2⟩ := dpAll2 hvs
      cases dp_int_inv hu2
      refine ⟨v2, n, d2, _, rfl, hv2, fun h2 H7 e7 => ?_, fun h2 H7 e7 => qe .room (hit _ (by simp only [chkD]; rw [if_neg (by simpa using h1), if_pos h2])) H7 (((eH'.trans e45).trans e6).trans e7)⟩
      have e47 := e45.trans (e6.trans e7)
      have hx7 := dp_ex e47 hx
      refine s_when (b := d3.isSome) (et_test (ev_lockN (ed_ixT (ed_any (ev_var rfl) hx7) ev_c atI2))) (fun hs H8 e8 => ?_) (fun hs H8 e8 => ?_)
      · cases d3 with
        | none => cases hs
        | some k =>
          refine s_dropC (K := K) (ea_dc (ed_ixT (d := .int k) (ed_any (ev_var rfl) (dp_ex e8 hx7)) ev_c atI2) ea_dn) fun vs H9 e9 hvs => ?_
          obtain ⟨u3, rfl, hu3⟩ := dpAll1 hvs
          cases dp_int_inv hu3
          have e49 := (e47.trans e8).trans e9
          refine ⟨k, rfl, fun h3 H10 e10 => ⟨(eH.trans e49).trans e10, _, rfl, ?_⟩, fun h3 H10 e10 => qe .key (hit _ (by simp only [chkD]; rw [if_neg (by simpa using h1), if_neg (by simpa using h2), if_neg h3])) H10 ((eH'.trans e49).trans e10)⟩
          rw [fs_succ hd1, hno]
          simp only [chkD]
          rw [if_neg (by simpa using h1), if_neg (by simpa using h2), if_pos h3]
          rfl
      · cases d3 with
        | some k => cases hs
        | none =>
          refine ⟨(eH.trans e47).trans e8, _, rfl, ?_⟩
          rw [fs_succ hd1, hno]
          simp only [chkD]
          rw [if_neg (by simpa using h1), if_neg (by simpa using h2)]
          rfl
    · obtain ⟨eH, y, rfl, hno⟩ := hP
      have eH' := (e12.trans e3).trans eH
      rw [List.length_map, List.take_length] at hno
      refine q_forD (ds := ks.map keyD) (mz2 eH' rfl) (fun H1 i σ' H' => Ex H1 H' ∧ ∃ z, σ' = [some v, y, z] ∧ (ks.take i).findSome? (chkK n) = none) (fun H3 e3 => ⟨Ex.refl H3, none, rfl, rfl⟩) (fun H1 i σ' H' hP => hP.1) (fun H4 e4 i d x σ' H5 hdi hx hP => ?_) (fun H4 e4 σ' H5 hP => ?_)
      · obtain ⟨eH5, z, rfl, hno2⟩ := hP
        have eH6 := (eH'.trans e4).trans eH5
        rw [List.getElem?_map] at hdi
        obtain ⟨⟨k1, k2⟩, hd1, rfl⟩ := Option.map_eq_some_iff.mp hdi
        have hit : ∀ r, chkK n (k1, k2) = some r → chk n ds ks = some r := fun r hr => by rw [hch, hno, fs_hit hd1 hno2 hr]; rfl
        refine q_dropC (K := K) (ea_dc (ed_any (ev_var rfl) (dp_ex eH6 hv)) (ea_dc (ed_ixT (ed_any (ev_var rfl) hx) ev_c atI0) ea_dn)) fun vs H7 e7 hvs => ?_
        obtain ⟨v1, u1, rfl, hv1, hu1⟩ := dpAll2 hvs
        cases dp_int_inv hu1
        refine ⟨v1, n, k1, _, rfl, hv1, fun h1 H8 e8 => ?_, fun h1 H8 e8 => qe .room (hit _ (by simp only [chkK]; rw [if_pos h1])) H8 ((eH6.trans e7).trans e8)⟩
        have e78 := e7.trans e8
        refine s_dropC (K := K) (ea_dc (ed_ixT (d := .int k2) (ed_any (ev_var rfl) (dp_ex e78 hx)) ev_c atI1) ea_dn) fun vs H9 e9 hvs => ?_
        obtain ⟨u3, rfl, hu3⟩ := dpAll1 hvs
        cases dp_int_inv hu3
        have e79 := e78.trans e9
        refine ⟨k2, rfl, fun h3 H10 e10 => ⟨(eH5.trans e79).trans e10, _, rfl, ?_⟩, fun h3 H10 e10 => qe .key (hit _ (by simp only [chkK]; rw [if_neg (by simpa using h1), if_neg h3])) H10 ((eH6.trans e79).trans e10)⟩
        rw [fs_succ hd1, hno2]
        simp only [chkK]
        rw [if_neg (by simpa using h1), if_pos h3]
        rfl
      · obtain ⟨eH5, z, rfl, hno2⟩ := hP
        rw [List.length_map, List.take_length] at hno2
        exact s_ret (ev_var rfl) fun H6 e6 => q (by rw [hch, hno, hno2]; rfl) H6 (((eH'.trans e4).trans eH5).trans e6)
end

section
variable {P : Program} {w : World} {K : PySem.W.Frag} {mg : Str → Option Value} {base : Heap}
/-! ### a number that may be none -/
def numF (c b : Int) : Int := ([-1, b, b - 1, 0, b + c % (10 : Int) ^ (30 : Int).toNat, -1 - c % (10 : Int) ^ (30 : Int).toNat] : List Int).getD (c / 7 % 6).toNat 0
def sp_l_number (K : PySem.W.Frag) : Sp := fun vs H Q _ => ∃ c b : Int, vs = [.int c, .int b] ∧ ∀ H2, Ex H H2 → Q (.int (numF c b)) H2
theorem ok_l_number (T : Txt K mg) : Kept P w K mg base 1 "_law_number" ["_law_cell", "_law_bound"] (sp_l_number K) := by
  refine T.d_l_number.kept sc_l_number (fun vs H Q E h => ?_) (fun cdv A outer s H vs Q E hr h => ?_)
  · obtain ⟨c, b, rfl, _⟩ := h
    rfl
  · obtain ⟨c, b, rfl, q⟩ := h
    refine ⟨_, (pss_one (ps_ret (pe_ix (ix_list_K (K := K) rfl) (pe_lst (pa_cons (pe_un un_neg pe_int) (pa_cons (pv 1) (pa_cons (pe_op op_sub (pv 1) pe_int) (pa_cons pe_int (pa_cons (pe_op op_add (pv 1) (pe_op op_mod (pv 0) (pe_op op_pow pe_int pe_int))) (pa_cons (pe_op op_sub (pe_un un_neg pe_int) (pe_op op_mod (pv 0) (pe_op op_pow pe_int pe_int))) pa_nil))))))) (pe_op op_mod (pe_op op_fdiv (pv 0) pe_int) pe_int) (fun _ _ => rfl)))), ?_⟩
    refine s_ret (v := .int (numF c b)) ?_ fun H2 e2 => q H2 e2
    unfold numF
    have htp : (0 : Int) < (10 : Int) ^ (30 : Int).toNat := by decide
    refine ev_ixInts (ea_tc (td_int (ev_un ev_c ru_neg)) (ea_tc (td_int (ev_var rfl)) (ea_tc (td_int ?_) (ea_tc (td_int ev_c) (ea_tc (td_int ?_) (ea_tc (td_int ?_) ea_tn)))))) ?_ (by omega) (by simp; omega)
    all_goals walk_at "mz ev"
theorem sv_l_number {H : Hp} {c b : Int} : SpV (sp_l_number K) [.int c, .int b] H (.int (numF c b)) := fun H1 e Q q E => ⟨c, b, rfl, q⟩
/-! ### a maze spoilt -/
def Chg (a b : Addr) (H H' : Hp) : Prop := ∀ c o, c ≠ a → c ≠ b → H c = some o → H' c = some o
theorem Chg.refl (a b : Addr) (H : Hp) : Chg a b H H := fun _ _ _ _ h => h
theorem Chg.ex {a b : Addr} {H H1 H2 : Hp} (c : Chg a b H H1) (e : Ex H1 H2) : Chg a b H H2 := fun x o h1 h2 h => e x o (c x o h1 h2 h)
theorem Chg.trans {a b : Addr} {H H1 H2 : Hp} (c : Chg a b H H1) (e : Chg a b H1 H2) : Chg a b H H2 := fun x o h1 h2 h => e x o h1 h2 (c x o h1 h2 h)
theorem Chg.upd {a b x : Addr} {H H1 : Hp} {o : HO} (c : Chg a b H H1) (h : x = a ∨ x = b) : Chg a b H (L2.upd H1 x o) := fun y z h1 h2 h3 => by
  have ne : y ≠ x := fun e => by
    rcases h with h | h
    · exact h1 (e.trans h)
    · exact h2 (e.trans h)
  rw [L2.upd_ne ne]
  exact c y z h1 h2 h3
theorem Chg.keeps {a b : Addr} {H0 H H1 : Hp} (c : Chg a b H H1) (e : Ex H0 H) (ha : H0 a = none) (hb : H0 b = none) : Ex H0 H1 := fun x o h => c x o (ne_of_none h ha) (ne_of_none h hb) (e x o h)
structure MzAt (H : Hp) (m a b : Addr) (n : Int) (ds : List Door) (ks : List Key2) : Prop where
  tup : H m = some (.tup [.int n, .ref a, .ref b])
  dl : LstT H a (ds.map doorD)
  kl : LstT H b (ks.map keyD)
  ne : a ≠ b
theorem MzAt.ex {H H' : Hp} {m a b : Addr} {n : Int} {ds : List Door} {ks : List Key2} (h : MzAt H m a b n ds ks) (e : Ex H H') : MzAt H' m a b n ds ks := ⟨e _ _ h.tup, h.dl.ex e, h.kl.ex e, h.ne⟩
theorem MzAt.dp {H : Hp} {m a b : Addr} {n : Int} {ds : List Door} {ks : List Key2} (h : MzAt H m a b n ds ks) : Dp K H (.ref m) (mazeF n ds ks) :=
  .tup (SqT.of h.tup) (.cons (.int n) (.cons h.dl.dp (.cons h.kl.dp .nil)))
def sp_l_spoilt (K : PySem.W.Frag) : Sp := fun vs H Q _ => ∃ (m a b : Addr) (n c : Int) (ds : List Door) (ks : List Key2), vs = [.ref m, .int c] ∧ MzAt H m a b n ds ks ∧ ds.length ≤ 100 ∧ ks.length ≤ 100 ∧
  ∀ m' n' ds' ks' H2, Chg a b H H2 → MzAt H2 m' a b n' ds' ks' → ds'.length = ds.length → ks'.length = ks.length → Q (.ref m') H2
theorem door_set (d : Door) {j : Nat} (h : j < 3) (x : Int) : ∃ d' : Door, ([.int d.1, .int d.2.1, lockD d.2.2] : List PyData).set j (.int x) = [.int d'.1, .int d'.2.1, lockD d'.2.2] := by
  obtain ⟨d1, d2, d3⟩ := d
  rcases (show j = 0 ∨ j = 1 ∨ j = 2 by omega) with h | h | h <;> subst h
  · exact ⟨(x, d2, d3), rfl⟩
  · exact ⟨(d1, x, d3), rfl⟩
  · exact ⟨(d1, d2, some x), rfl⟩
theorem key_set (d : Key2) {j : Nat} (h : j < 2) (x : Int) : ∃ d' : Key2, ([.int d.1, .int d.2] : List PyData).set j (.int x) = [.int d'.1, .int d'.2] := by
  obtain ⟨d1, d2⟩ := d
  rcases (show j = 0 ∨ j = 1 by omega) with h | h <;> subst h
  · exact ⟨(x, d2), rfl⟩
  · exact ⟨(d1, x), rfl⟩
theorem ok_l_spoilt (T : Txt K mg) : Kept P w K mg base 2 "_law_spoilt" ["_law_maze", "_law_cell"] (sp_l_spoilt K) := by
  refine T.d_l_spoilt.kept sc_l_spoilt (fun vs H Q E h => ?_) (fun cdv A outer s H vs Q E hr h => ?_)
  · obtain ⟨m, a, b, n, c, ds, ks, rfl, _⟩ := h
    rfl
  · obtain ⟨m, a, b, n, c, ds, ks, rfl, hm, hdl, hkl, q⟩ := h
    refine ⟨_, (pss_cons (ps_asg (pv 0) (pg_tup_K (K := K) rfl (by rfl) (pgs_cons (pg_name (i := 2) sc_l_spoilt.nd rfl (Or.inl rfl)) (pgs_cons (pg_name (i := 3) sc_l_spoilt.nd rfl (Or.inl rfl)) (pgs_cons (pg_name (i := 4) sc_l_spoilt.nd rfl (Or.inl rfl)) pgs_nil)))))
      (pss_cons (ps_set (i := 5) sc_l_spoilt.nd rfl (Or.inl rfl) (pe_fn (ok_l_mix (K := K) T) (hr.mono (by decide)) passL (by rfl) (pa_cons (pv 1) (pa_cons pe_int pa_nil))))
      (pss_cut (ps_if (pt_cmpR op_eq (pe_op op_mod (pv 1) pe_int) pe_int (nomark _))
        (pss_one (ps_set (i := 2) sc_l_spoilt.nd rfl (Or.inl rfl) (pe_ix (ix_list_K (K := K) rfl) (pe_lst (pa_cons pe_int (pa_cons (pe_op op_sub (pe_un un_neg pe_int) (pe_op op_mod (pe_callB call_abs (by rfl) T.n_abs (by decide +kernel) (pa_cons (pv 1) pa_nil)) (pe_op op_pow pe_int pe_int))) (pa_cons pe_int (pa_cons pe_int (pa_cons (pe_op op_add pe_int (pe_op op_mod (pe_callB call_abs (by rfl) T.n_abs (by decide +kernel) (pa_cons (pv 1) pa_nil)) (pe_op op_pow pe_int pe_int))) (pa_cons (pv 2) pa_nil))))))) (pe_op op_mod (pe_op op_fdiv (pv 1) pe_int) pe_int) (fun _ _ => rfl))))
        pss_nil)
      (pss_cut (ps_if (PW.pt (pw_and (pt_cmpR op_gt (pe_callB (call_len_seq_K (K := K) rfl) (by rfl) T.n_len (by decide +kernel) (pa_cons (pv 3) pa_nil)) pe_int (nomark _)) (pw_and1 (pt_cmpR (op_in_seq_K (K := K) rfl) (pe_op op_mod (pv 1) pe_int) (pe_tup (pa_cons pe_int (pa_cons pe_int (pa_cons pe_int pa_nil)))) (by rfl)))))
        (pss_cons (ps_set (i := 6) sc_l_spoilt.nd rfl (Or.inl rfl) (pe_callTy (call_list_of_K (K := K) rfl) (by rfl) T.n_list (by decide +kernel) (pa_cons (pe_ix (ix_list_K (K := K) rfl) (pv 3) (pe_op op_mod (pv 5) (pe_callB (call_len_seq_K (K := K) rfl) (by rfl) T.n_len (by decide +kernel) (pa_cons (pv 3) pa_nil))) (fun _ _ => rfl)) pa_nil)))
      (pss_cons (ps_asg (pe_fn (ok_l_number (K := K) T) (hr.mono (by decide)) passL (by rfl) (pa_cons (pv 1) (pa_cons (pe_ifExp (pt_cmpR op_eq (pe_op op_mod (pv 1) pe_int) pe_int (nomark _)) pe_int (pv 2)) pa_nil))) (pg_sub (pv 6) (pe_op op_sub (pe_op op_mod (pv 1) pe_int) pe_int) set_list))
      (pss_one (ps_asg (pe_callTy (call_tuple_of_K (K := K) rfl) (by rfl) T.n_tuple (by decide +kernel) (pa_cons (pv 6) pa_nil)) (pg_sub (pv 3) (pe_op op_mod (pv 5) (pe_callB (call_len_seq_K (K := K) rfl) (by rfl) T.n_len (by decide +kernel) (pa_cons (pv 3) pa_nil))) set_list)))))
        pss_nil)
      (pss_cut (ps_if (PW.pt (pw_and (pt_cmpR op_gt (pe_callB (call_len_seq_K (K := K) rfl) (by rfl) T.n_len (by decide +kernel) (pa_cons (pv 4) pa_nil)) pe_int (nomark _)) (pw_and1 (pt_cmpR (op_in_seq_K (K := K) rfl) (pe_op op_mod (pv 1) pe_int) (pe_tup (pa_cons pe_int (pa_cons pe_int pa_nil))) (by rfl)))))
        (pss_cons (ps_set (i := 7) sc_l_spoilt.nd rfl (Or.inl rfl) (pe_callTy (call_list_of_K (K := K) rfl) (by rfl) T.n_list (by decide +kernel) (pa_cons (pe_ix (ix_list_K (K := K) rfl) (pv 4) (pe_op op_mod (pv 5) (pe_callB (call_len_seq_K (K := K) rfl) (by rfl) T.n_len (by decide +kernel) (pa_cons (pv 4) pa_nil))) (fun _ _ => rfl)) pa_nil)))
      (pss_cons (ps_asg (pe_fn (ok_l_number (K := K) T) (hr.mono (by decide)) passL (by rfl) (pa_cons (pv 1) (pa_cons (pe_ifExp (pt_cmpR op_eq (pe_op op_mod (pv 1) pe_int) pe_int (nomark _)) pe_int (pv 2)) pa_nil))) (pg_sub (pv 7) (pe_op op_sub (pe_op op_mod (pv 1) pe_int) pe_int) set_list))
      (pss_one (ps_asg (pe_callTy (call_tuple_of_K (K := K) rfl) (by rfl) T.n_tuple (by decide +kernel) (pa_cons (pv 7) pa_nil)) (pg_sub (pv 4) (pe_op op_mod (pv 5) (pe_callB (call_len_seq_K (K := K) rfl) (by rfl) T.n_len (by decide +kernel) (pa_cons (pv 4) pa_nil))) set_list)))))
        pss_nil)
      (pss_one (ps_ret (pe_tup (pa_cons (pv 2) (pa_cons (pv 3) (pa_cons (pv 4) pa_nil))))))))))), ?_⟩
    refine ⟨_, rfl, m, _, rfl, SqT.of hm.tup, rfl, _, _, rfl, _, _, rfl, _, _, rfl, rfl, ?_⟩
    dsimp only
    obtain ⟨at_, hat⟩ : ∃ x, mix c 0 = x := ⟨_, rfl⟩
    refine q_asg (v := .int at_) (by rw [← hat]; refine ev_call0 (ea_cons ?_ (ea_cons ?_ ea_nil)) sv_l_mix; exact ev_var rfl; exact ev_c) fun H1 e1 => ?_
    have htp : (0 : Int) < (10 : Int) ^ (30 : Int).toNat := by decide
    refine q_cut (M := fun σ' H' => Ex H H' ∧ ∃ n' : Int, σ' = [some (.ref m), some (.int c), some (.int n'), some (.ref a), some (.ref b), some (.int at_), none, none]) ?_ ?_
    · refine s_when (b := decide (c % 7 = 1)) (by walk_at "mz ev") (fun _ H2 e2 => ?_) (fun _ H2 e2 => ⟨e1.trans e2, n, rfl⟩)
      refine s_asg (ev_ixInts (xs := [0, -1 - (if c < 0 then -c else c) % (10 : Int) ^ (30 : Int).toNat, 61, 60, 61 + (if c < 0 then -c else c) % (10 : Int) ^ (30 : Int).toNat, n]) (i := c / 7 % 6) (ea_tc (td_int ev_c) (ea_tc (td_int ?_) (ea_tc (td_int ev_c) (ea_tc (td_int ev_c) (ea_tc (td_int ?_) (ea_tc (td_int (ev_var rfl)) ea_tn)))))) ?_ (by omega) (by simp; omega)) fun H3 e3 => ⟨(e1.trans e2).trans e3, _, rfl⟩
      all_goals walk_at "mz ev"
    · rintro σ' H2 ⟨e2, n', rfl⟩
      have hm2 := hm.ex e2
      have c2 : Chg a b H H2 := (Chg.refl a b H).ex e2
      refine q_cut (M := fun σ' H' => Chg a b H H' ∧ ∃ (y : Option V) (ds' : List Door), σ' = [some (.ref m), some (.int c), some (.int n'), some (.ref a), some (.ref b), some (.int at_), y, none] ∧ LstT H' a (ds'.map doorD) ∧ LstT H' b (ks.map keyD) ∧ ds'.length = ds.length) ?_ ?_
      · refine s_when (b := decide (0 < ((ds.map doorD).length : Int)) && decide (c % 7 ∈ [2, 3, 4])) (et_and (et_test (ev_op (ev_lenD (ed_any (ev_var rfl) hm2.dl.dp) (.inl rfl)) ev_c rv_I0)) fun _ => et_test (ev_inW (ns := [2, 3, 4]) (by walk_at "mz ev") (td_tup (ea_tc (td_int ev_c) (ea_tc (td_int ev_c) (ea_tc (td_int ev_c) ea_tn))) (by simp)))) (fun hb H3 e3 => ?_) (fun _ H3 e3 => ⟨c2.ex e3, none, ds, rfl, hm2.dl.ex e3, hm2.kl.ex e3, rfl⟩)
        simp only [Bool.and_eq_true, decide_eq_true_eq, List.length_map, List.mem_cons, List.not_mem_nil, or_false] at hb
        obtain ⟨hb1, hb2⟩ := hb
        obtain ⟨j, ej⟩ : ∃ j : Int, at_ % ((ds.map doorD).length : Int) = j := ⟨_, rfl⟩
        have hj : 0 ≤ j ∧ j < (ds.length : Int) := by
          rw [← ej, List.length_map]
          exact mod_here (by omega) _
        have hjl : j.toNat < ds.length := by omega
        obtain ⟨i, ei⟩ : ∃ i : Int, c % 7 - 2 = i := ⟨_, rfl⟩
        have hi : 0 ≤ i ∧ i < 3 := by omega
        have ev_j : ∀ {σ' : L2.St} {H' : Hp}, LstT H' a (ds.map doorD) → σ'[5]? = some (some (.int at_)) → σ'[3]? = some (some (.ref a)) → Ev (tOp (rI (fun x j => 0 < j) fun i j => V.int (i % j)) (tVar 5) (tCB (fun xs H Q => ∃ p ys, xs = [.ref p] ∧ (SqL K H p ys ∨ SqT K H p ys) ∧ Q (.int ys.length) H) (tCons (tVar 3) tNil))) σ' H' (.int j) := fun h1 h2 h3 =>
          ev_is (ev_op (ev_var h2) (ev_lenD (ed_any (ev_var h3) h1.dp) (.inl rfl)) (rv_I (by simp; omega))) (by rw [ej])
        have h3a := hm2.dl.ex e3
        have hat3 : atI (ds.map doorD) j = some (doorD ds[j.toNat]) := by
          have := at0 (ds := ds.map doorD) (j := j.toNat) (d := doorD ds[j.toNat]) (by rw [List.getElem?_map, List.getElem?_eq_getElem hjl]; rfl)
          rw [show ((j.toNat : Nat) : Int) = j by omega] at this
          exact this
        refine q_asgLT (lt_listU (ds := [.int ds[j.toNat].1, .int ds[j.toNat].2.1, lockD ds[j.toNat].2.2]) (td_ixLV (ev_var rfl) h3a (ev_j h3a rfl rfl) hat3)) fun p H4 np e4 hp => ?_
        have n3 : H3 p = none := np
        obtain ⟨d', hd'⟩ := door_set ds[j.toNat] (j := i.toNat) (by omega) (numF c (if c % 7 = 4 then 5 else n'))
        refine q_setT (i := i) (j := i.toNat) (d := .int (numF c (if c % 7 = 4 then 5 else n'))) hp (td_int (ev_call0 (ea_cons (ev_var rfl) (ea_cons (x := .int (if c % 7 = 4 then 5 else n')) (ev_if (b := decide (c % 7 = 4)) (by walk_at "mz ev") (fun h => ?_) (fun h => ?_)) ea_nil)) sv_l_number)) (ev_var rfl) ?_ (by omega) (by simp; omega) fun H5 xs v e5 hx5 hp5 => ?_
        · rw [if_pos (of_decide_eq_true h)]
          exact ev_c
        · rw [if_neg (of_decide_eq_false h)]
          exact ev_var rfl
        · rw [← ei]
          walk_at "mz ev"
        rw [hd'] at hp5
        have e35 := e4.trans e5
        have ex6 : Ex H3 (upd H5 p (.lst (xs.set i.toNat v))) := Ex.mut e35 n3
        have h6a := h3a.ex ex6
        have h6b := (hm2.kl.ex e3).ex ex6
        refine s_setT (d := doorD d') (j := j.toNat) h6a (td_tupleV (ev_var rfl) hp5) (ev_var rfl) (ev_j h6a rfl rfl) (by omega) (by simp; omega) fun H7 xs7 v7 e7 hx7 hp7 => ?_
        refine ⟨((c2.ex e3).ex (ex6.trans e7)).upd (.inl rfl), _, ds.set j.toNat d', rfl, ?_, (h6b.ex e7).upd_ne hx7 hm.ne.symm, by simp⟩
        rw [List.map_set]
        exact hp7
      · rintro σ' H3 ⟨c3, y, ds', rfl, h3a, h3b, hlen⟩
        refine q_cut (M := fun σ' H' => Chg a b H H' ∧ ∃ (z : Option V) (ks' : List Key2), σ' = [some (.ref m), some (.int c), some (.int n'), some (.ref a), some (.ref b), some (.int at_), y, z] ∧ LstT H' a (ds'.map doorD) ∧ LstT H' b (ks'.map keyD) ∧ ks'.length = ks.length) ?_ ?_
        · refine s_when (b := decide (0 < ((ks.map keyD).length : Int)) && decide (c % 7 ∈ [5, 6])) (et_and (et_test (ev_op (ev_lenD (ed_any (ev_var rfl) h3b.dp) (.inl rfl)) ev_c rv_I0)) fun _ => et_test (ev_inW (ns := [5, 6]) (by walk_at "mz ev") (td_tup (ea_tc (td_int ev_c) (ea_tc (td_int ev_c) ea_tn)) (by simp)))) (fun hb H4 e4 => ?_) (fun _ H4 e4 => ⟨c3.ex e4, none, ks, rfl, h3a.ex e4, h3b.ex e4, rfl⟩)
          simp only [Bool.and_eq_true, decide_eq_true_eq, List.length_map, List.mem_cons, List.not_mem_nil, or_false] at hb
          obtain ⟨hb1, hb2⟩ := hb
          obtain ⟨j, ej⟩ : ∃ j : Int, at_ % ((ks.map keyD).length : Int) = j := ⟨_, rfl⟩
          have hj : 0 ≤ j ∧ j < (ks.length : Int) := by
            rw [← ej, List.length_map]
            exact mod_here (by omega) _
          have hjl : j.toNat < ks.length := by omega
          obtain ⟨i, ei⟩ : ∃ i : Int, c % 7 - 5 = i := ⟨_, rfl⟩
          have hi : 0 ≤ i ∧ i < 2 := by omega
          have ev_j : ∀ {σ' : L2.St} {H' : Hp}, LstT H' b (ks.map keyD) → σ'[5]? = some (some (.int at_)) → σ'[4]? = some (some (.ref b)) → Ev (tOp (rI (fun x j => 0 < j) fun i j => V.int (i % j)) (tVar 5) (tCB (fun xs H Q => ∃ p ys, xs = [.ref p] ∧ (SqL K H p ys ∨ SqT K H p ys) ∧ Q (.int ys.length) H) (tCons (tVar 4) tNil))) σ' H' (.int j) := fun h1 h2 h3 =>
            ev_is (ev_op (ev_var h2) (ev_lenD (ed_any (ev_var h3) h1.dp) (.inl rfl)) (rv_I (by simp; omega))) (by rw [ej])
          have h4b := h3b.ex e4
          have hat3 : atI (ks.map keyD) j = some (keyD ks[j.toNat]) := by
            have := at0 (ds := ks.map keyD) (j := j.toNat) (d := keyD ks[j.toNat]) (by rw [List.getElem?_map, List.getElem?_eq_getElem hjl]; rfl)
            rw [show ((j.toNat : Nat) : Int) = j by omega] at this
            exact this
          refine q_asgLT (lt_listU (ds := [.int ks[j.toNat].1, .int ks[j.toNat].2]) (td_ixLV (ev_var rfl) h4b (ev_j h4b rfl rfl) hat3)) fun p H5 np e5 hp => ?_
          obtain ⟨d', hd'⟩ := key_set ks[j.toNat] (j := i.toNat) (by omega) (numF c (if c % 7 = 6 then 5 else n'))
          refine q_setT (i := i) (j := i.toNat) (d := .int (numF c (if c % 7 = 6 then 5 else n'))) hp (td_int (ev_call0 (ea_cons (ev_var rfl) (ea_cons (x := .int (if c % 7 = 6 then 5 else n')) (ev_if (b := decide (c % 7 = 6)) (by walk_at "mz ev") (fun h => ?_) (fun h => ?_)) ea_nil)) sv_l_number)) (ev_var rfl) ?_ (by omega) (by simp; omega) fun H6 xs v e6 hx6 hp6 => ?_
          · rw [if_pos (of_decide_eq_true h)]
            exact ev_c
          · rw [if_neg (of_decide_eq_false h)]
            exact ev_var rfl
          · rw [← ei]
            walk_at "mz ev"
          rw [hd'] at hp6
          have ex7 : Ex H4 (upd H6 p (.lst (xs.set i.toNat v))) := Ex.mut (e5.trans e6) np
          have h7a := (h3a.ex e4).ex ex7
          have h7b := h4b.ex ex7
          refine s_setT (d := keyD d') (j := j.toNat) h7b (td_tupleV (ev_var rfl) hp6) (ev_var rfl) (ev_j h7b rfl rfl) (by omega) (by simp; omega) fun H8 xs8 v8 e8 hx8 hp8 => ?_
          refine ⟨((c3.ex e4).ex (ex7.trans e8)).upd (.inr rfl), _, ks.set j.toNat d', rfl, (h7a.ex e8).upd_ne hx8 hm.ne, ?_, by simp⟩
          rw [List.map_set]
          exact hp8
        · rintro σ' H4 ⟨c4, z, ks', rfl, h4a, h4b, hlen2⟩
          refine s_retU (xs := [.int n', .ref a, .ref b]) (eu_tup (ea_cons (ev_var rfl) (ea_cons (ev_var rfl) (ea_cons (ev_var rfl) ea_nil))) (by simp)) fun p H5 np e5 h5 => ?_
          exact q p n' ds' ks' H5 (c4.ex e5) ⟨h5, h4a.ex e5, h4b.ex e5, hm.ne⟩ hlen hlen2
end

section
variable {P : Program} {w : World} {K : PySem.W.Frag} {mg : Str → Option Value} {base : Heap}
/-! ### what is due -/
def sp_l_due (K : PySem.W.Frag) : Sp := fun vs H Q _ => ∃ (v : V) (n : Int) (ds : List Door) (ks : List Key2), vs = [v] ∧ Dp K H v (mazeF n ds ks) ∧ ∀ H2, Ex H H2 → Q (.str (codeS (chk n ds ks))) H2
theorem fs_all {α β : Type} {f : α → Option β} {l : List α} (h : ∀ (i : Nat) a, l[i]? = some a → f a = none) : l.findSome? f = none := by
  rw [List.findSome?_eq_none_iff]
  intro a ha
  obtain ⟨i, hi⟩ := List.getElem?_of_mem ha
  exact h i a hi
theorem ok_l_due (T : Txt K mg) : Kept P w K mg base 1 "_law_due" ["_law_maze"] (sp_l_due K) := by
  refine T.d_l_due.kept sc_l_due (fun vs H Q E h => ?_) (fun cdv A outer s H vs Q E hr h => ?_)
  · obtain ⟨v, n, ds, ks, rfl, _⟩ := h
    rfl
  · obtain ⟨v, n, ds, ks, rfl, hv, q⟩ := h
    refine ⟨_, (pss_cons (ps_asg (pv 0) (pg_tup_K (K := K) rfl (by rfl) (pgs_cons (pg_name (i := 1) sc_l_due.nd rfl (Or.inl rfl)) (pgs_cons (pg_name (i := 2) sc_l_due.nd rfl (Or.inl rfl)) (pgs_cons (pg_name (i := 3) sc_l_due.nd rfl (Or.inl rfl)) pgs_nil)))))
      (pss_cons (ps_if (pt_cmpR op_lt (pv 1) pe_int (nomark _))
        (pss_one (ps_ret pe_str))
        pss_nil)
      (pss_cons (ps_if (PW.pt (pw_or (pt_cmpR op_gt (pv 1) pe_int (nomark _)) (pw_or (pt_cmpR op_gt (pe_callB (call_len_seq_K (K := K) rfl) (by rfl) T.n_len (by decide +kernel) (pa_cons (pv 2) pa_nil)) pe_int (nomark _)) (pw_or1 (pt_cmpR op_gt (pe_callB (call_len_seq_K (K := K) rfl) (by rfl) T.n_len (by decide +kernel) (pa_cons (pv 3) pa_nil)) pe_int (nomark _))))))
        (pss_one (ps_ret pe_str))
        pss_nil)
      (pss_cons (ps_for (passes_of rfl) rfl (pi_list_K (K := K) rfl (pv 2)) (pg_name (i := 4) sc_l_due.nd rfl (Or.inl rfl))
        (pss_cons (ps_for (passes_of rfl) rfl (pi_tup_K (K := K) rfl (pe_slice (sl_tupA_K (K := K) rfl) (pv 4) po_none (po_some pe_int))) (pg_name (i := 5) sc_l_due.nd rfl (Or.inl rfl))
        (pss_one (ps_if (PW.pt (pw_or (pt_cmpR op_lt (pv 5) pe_int (nomark _)) (pw_or1 (pt_cmpR op_ge (pv 5) (pv 1) (nomark _)))))
        (pss_one (ps_ret pe_str))
        pss_nil)))
      (pss_one (ps_if (PW.pt (pw_and (pt_cmpR op_notN (pe_ix (ix_tup_K (K := K) rfl) (pv 4) pe_int (fun _ _ => rfl)) pe_non (nomark _)) (pw_and1 (PW.pt (pw_or (pt_cmpR op_lt (pe_ix (ix_tup_K (K := K) rfl) (pv 4) pe_int (fun _ _ => rfl)) pe_int (nomark _)) (pw_or1 (pt_cmpR op_gt (pe_ix (ix_tup_K (K := K) rfl) (pv 4) pe_int (fun _ _ => rfl)) pe_int (nomark _))))))))
        (pss_one (ps_ret pe_str))
        pss_nil))))
      (pss_cons (ps_for (passes_of rfl) rfl (pi_list_K (K := K) rfl (pv 3)) (pg_tup_K (K := K) rfl (by rfl) (pgs_cons (pg_name (i := 5) sc_l_due.nd rfl (Or.inl rfl)) (pgs_cons (pg_name (i := 6) sc_l_due.nd rfl (Or.inl rfl)) pgs_nil)))
        (pss_cons (ps_if (PW.pt (pw_or (pt_cmpR op_lt (pv 5) pe_int (nomark _)) (pw_or1 (pt_cmpR op_ge (pv 5) (pv 1) (nomark _)))))
        (pss_one (ps_ret pe_str))
        pss_nil)
      (pss_one (ps_if (PW.pt (pw_or (pt_cmpR op_lt (pv 6) pe_int (nomark _)) (pw_or1 (pt_cmpR op_gt (pv 6) pe_int (nomark _)))))
        (pss_one (ps_ret pe_str))
        pss_nil))))
      (pss_one (ps_ret pe_str))))))), ?_⟩
    have hv' := hv
    unfold mazeF mazeD at hv'
    cases hv' with
    | tup hs hd =>
      rename_i a xs
      obtain ⟨x1, x2, x3, rfl, h1, h2, h3⟩ := dpAll3 hd
      cases dp_int_inv h1
      refine ⟨_, rfl, a, _, rfl, hs, rfl, _, _, rfl, _, _, rfl, _, _, rfl, rfl, ?_⟩
      dsimp only
      refine q_when (b := decide (n < 1)) (by walk_at "mz ev") (fun hb H1 e1 => ?_) (fun hb H1 e1 => ?_)
      · simp only [decide_eq_true_eq] at hb
        have : chk n ds ks = some .room := by rw [chk, if_pos hb]
        rw [this] at q
        exact s_ret ev_c fun H2 e2 => q H2 (e1.trans e2)
      simp only [decide_eq_false_iff_not] at hb
      refine q_when (b := decide (60 < n) || (decide (90 < ((ds.map doorD).length : Int)) || decide (60 < ((ks.map keyD).length : Int)))) (et_or (et_test (ev_op (ev_var rfl) ev_c rv_I0)) fun _ => et_or (et_test (ev_op (ev_lenD (ed_any (ev_var rfl) (dp_ex e1 h2)) (.inl rfl)) ev_c rv_I0)) fun _ => et_test (ev_op (ev_lenD (ed_any (ev_var rfl) (dp_ex e1 h3)) (.inl rfl)) ev_c rv_I0)) (fun hb2 H2 e2 => ?_) (fun hb2 H2 e2 => ?_)
      · simp only [Bool.or_eq_true, decide_eq_true_eq, List.length_map] at hb2
        have : chk n ds ks = some .many := by rw [chk, if_neg hb, if_pos hb2]
        rw [this] at q
        exact s_ret ev_c fun H3 e3 => q H3 ((e1.trans e2).trans e3)
      have hch : chk n ds ks = (ds.findSome? (chkD n)).or (ks.findSome? (chkK n)) := by
        simp only [Bool.or_eq_false_iff, decide_eq_false_iff_not, List.length_map] at hb2
        rw [chk, if_neg hb, if_neg (by omega)]
      have e12 := e1.trans e2
      refine q_forD (K := K) (ds := ds.map doorD) (ed_any (ev_var rfl) (dp_ex e12 h2)) (fun H1 i σ' H' => Ex H1 H' ∧ ∃ y4 y5, σ' = [some (.ref a), some (.int n), some x2, some x3, y4, y5, none] ∧ (ds.take i).findSome? (chkD n) = none) (fun H3 e3 => ⟨Ex.refl H3, none, none, rfl, rfl⟩) (fun H1 i σ' H' hP => hP.1) (fun H3 e3 i d x σ' H' hdi hx hP => ?_) (fun H3 e3 σ' H' hP => ?_)
      · obtain ⟨eH, y4, y5, rfl, hno⟩ := hP
        have eH' := (e12.trans e3).trans eH
        rw [List.getElem?_map] at hdi
        obtain ⟨⟨d1, d2, d3⟩, hd1, rfl⟩ := Option.map_eq_some_iff.mp hdi
        have hit : ∀ r, chkD n (d1, d2, d3) = some r → chk n ds ks = some r := fun r hr => by rw [hch, fs_hit hd1 hno hr]; rfl
        refine q_forU (K := K) (ds := [.int d1, .int d2]) (ed_slU (lo := none) (hi := some 2) (ed_any (ev_var rfl) hx) eo_none (eo_some ev_c)) (fun H1 j σ' H'' => Ex H1 H'' ∧ ∃ y5, σ' = [some (.ref a), some (.int n), some x2, some x3, some x, y5, none] ∧ (0 < j → Here n d1) ∧ (1 < j → Here n d2)) (fun H4 e4 => ⟨Ex.refl H4, y5, rfl, by omega, by omega⟩) (fun H1 i σ' H' hP => hP.1) (fun H4 e4 j r z σ' H5 hrj hz hP => ?_) (fun H4 e4 σ' H5 hP => ?_)
        · obtain ⟨eH5, y5, rfl, hh1, hh2⟩ := hP
          have hr : ∃ room : Int, r = .int room ∧ (j = 0 ∧ room = d1 ∨ j = 1 ∧ room = d2) := by
            match j, hrj with
            | 0, h => simp at h; exact ⟨d1, h.symm, .inl ⟨rfl, rfl⟩⟩
            | 1, h => simp at h; exact ⟨d2, h.symm, .inr ⟨rfl, rfl⟩⟩
            | j + 2, h => simp at h
          obtain ⟨room, rfl, hrm⟩ := hr
          cases dp_int_inv hz
          refine s_when (b := decide (room < 0) || decide (n ≤ room)) (by walk_at "mz ev") (fun hb3 H6 e6 => ?_) (fun hb3 H6 e6 => ?_)
          · simp only [Bool.or_eq_true, decide_eq_true_eq] at hb3
            have hnr : ¬ Here n room := fun z => by have := z.1; have := z.2; omega
            have hc : chk n ds ks = some .room := by
              refine hit _ ?_
              rcases hrm with ⟨rfl, rfl⟩ | ⟨rfl, rfl⟩
              · simp only [chkD]
                rw [if_pos hnr]
              · simp only [chkD]
                rw [if_neg (by simpa using hh1 (by omega)), if_pos hnr]
            rw [hc] at q
            exact s_ret ev_c fun H7 e7 => q H7 ((((eH'.trans e4).trans eH5).trans e6).trans e7)
          · simp only [Bool.or_eq_false_iff, decide_eq_false_iff_not] at hb3
            have hnr : Here n room := ⟨by omega, by omega⟩
            refine ⟨eH5.trans e6, _, rfl, fun _ => ?_, fun h => ?_⟩
            · rcases hrm with ⟨rfl, rfl⟩ | ⟨rfl, rfl⟩
              · exact hnr
              · exact hh1 (by omega)
            · rcases hrm with ⟨rfl, rfl⟩ | ⟨rfl, rfl⟩
              · omega
              · exact hnr
        · obtain ⟨eH5, y5, rfl, hh1, hh2⟩ := hP
          have hr1 := hh1 (by simp)
          have hr2 := hh2 (by simp)
          have eH6 := e4.trans eH5
          have hx5 := dp_ex eH6 hx
          cases d3 with
          | none =>
            refine s_when (b := false && false) (et_and (et_test (ev_lockN (l := none) (ed_ixT (ed_any (ev_var rfl) hx5) ev_c atI2))) fun z => by cases z) (fun z => by cases z) (fun _ H6 e6 => ⟨(eH.trans eH6).trans e6, _, _, rfl, ?_⟩)
            rw [fs_succ hd1, hno]
            simp only [chkD]
            rw [if_neg (by simpa using hr1), if_neg (by simpa using hr2)]
            rfl
          | some k =>
            have ix2 : ∀ {σ' : L2.St}, σ'[4]? = some (some x) → Ev (tOp (rIxT K) (tVar 4) (tC (.int 2))) σ' H5 (.int k) := fun h => ev_of_ed (ed_ixT (ed_any (ev_var h) hx5) ev_c atI2)
            refine s_when (b := true && (decide (k < 0) || decide (4 < k))) (et_and (et_test (ev_lockN (l := some k) (ed_ixT (ed_any (ev_var rfl) hx5) ev_c atI2))) fun _ => et_or (et_test (ev_op (ix2 rfl) ev_c rv_I0)) fun _ => et_test (ev_op (ix2 rfl) ev_c rv_I0)) (fun hb3 H6 e6 => ?_) (fun hb3 H6 e6 => ⟨(eH.trans eH6).trans e6, _, _, rfl, ?_⟩)
            · simp only [Bool.true_and, Bool.or_eq_true, decide_eq_true_eq] at hb3
              have hnk : ¬ Here 5 k := fun z => by have := z.1; have := z.2; omega
              have hc : chk n ds ks = some .key := by
                refine hit _ ?_
                simp only [chkD]
                rw [if_neg (by simpa using hr1), if_neg (by simpa using hr2), if_neg hnk]
              rw [hc] at q
              exact s_ret ev_c fun H7 e7 => q H7 (((eH'.trans eH6).trans e6).trans e7)
            · simp only [Bool.true_and, Bool.or_eq_false_iff, decide_eq_false_iff_not] at hb3
              have hk : Here 5 k := ⟨by omega, by omega⟩
              rw [fs_succ hd1, hno]
              simp only [chkD]
              rw [if_neg (by simpa using hr1), if_neg (by simpa using hr2), if_pos hk]
              rfl
      · obtain ⟨eH, y4, y5, rfl, hno⟩ := hP
        have eH' := (e12.trans e3).trans eH
        rw [List.length_map, List.take_length] at hno
        refine q_forD (K := K) (ds := ks.map keyD) (ed_any (ev_var rfl) (dp_ex eH' h3)) (fun H1 i σ' H' => Ex H1 H' ∧ ∃ y5 y6, σ' = [some (.ref a), some (.int n), some x2, some x3, y4, y5, y6] ∧ (ks.take i).findSome? (chkK n) = none) (fun H3 e3 => ⟨Ex.refl H3, y5, none, rfl, rfl⟩) (fun H1 i σ' H' hP => hP.1) (fun H4 e4 i d x σ' H5 hdi hx hP => ?_) (fun H4 e4 σ' H5 hP => ?_)
        · obtain ⟨eH5, y5, y6, rfl, hno2⟩ := hP
          have eH6 := (eH'.trans e4).trans eH5
          rw [List.getElem?_map] at hdi
          obtain ⟨⟨k1, k2⟩, hd1, rfl⟩ := Option.map_eq_some_iff.mp hdi
          have hit : ∀ r, chkK n (k1, k2) = some r → chk n ds ks = some r := fun r hr => by rw [hch, hno, fs_hit hd1 hno2 hr]; rfl
          cases hx with
          | tup hxs hxd =>
            rename_i b zs
            obtain ⟨z1, z2, rfl, hz1, hz2⟩ := dpAll2 hxd
            cases dp_int_inv hz1
            cases dp_int_inv hz2
            refine ⟨b, _, rfl, hxs, rfl, _, _, rfl, _, _, rfl, rfl, ?_⟩
            dsimp only
            refine q_when (b := decide (k1 < 0) || decide (n ≤ k1)) (by walk_at "mz ev") (fun hb3 H6 e6 => ?_) (fun hb3 H6 e6 => ?_)
            · simp only [Bool.or_eq_true, decide_eq_true_eq] at hb3
              have hnr : ¬ Here n k1 := fun z => by have := z.1; have := z.2; omega
              have hc : chk n ds ks = some .room := hit _ (by simp only [chkK]; rw [if_pos hnr])
              rw [hc] at q
              exact s_ret ev_c fun H7 e7 => q H7 ((eH6.trans e6).trans e7)
            · simp only [Bool.or_eq_false_iff, decide_eq_false_iff_not] at hb3
              have hnr : Here n k1 := ⟨by omega, by omega⟩
              refine s_when (b := decide (k2 < 0) || decide (4 < k2)) (by walk_at "mz ev") (fun hb4 H7 e7 => ?_) (fun hb4 H7 e7 => ?_)
              · simp only [Bool.or_eq_true, decide_eq_true_eq] at hb4
                have hnk : ¬ Here 5 k2 := fun z => by have := z.1; have := z.2; omega
                have hc : chk n ds ks = some .key := hit _ (by simp only [chkK]; rw [if_neg (by simpa using hnr), if_neg hnk])
                rw [hc] at q
                exact s_ret ev_c fun H8 e8 => q H8 (((eH6.trans e6).trans e7).trans e8)
              · simp only [Bool.or_eq_false_iff, decide_eq_false_iff_not] at hb4
                have hk : Here 5 k2 := ⟨by omega, by omega⟩
                refine ⟨(eH5.trans e6).trans e7, _, _, rfl, ?_⟩
                rw [fs_succ hd1, hno2]
                simp only [chkK]
                rw [if_neg (by simpa using hnr), if_pos hk]
                rfl
        · obtain ⟨eH5, y5, y6, rfl, hno2⟩ := hP
          rw [List.length_map, List.take_length] at hno2
          have hc : chk n ds ks = none := by rw [hch, hno, hno2]; rfl
          rw [hc] at q
          exact s_ret ev_c fun H6 e6 => q H6 (((eH'.trans e4).trans eH5).trans e6)
theorem sv_l_due {H : Hp} {v : V} {n : Int} {ds : List Door} {ks : List Key2} (h : Dp K H v (mazeF n ds ks)) : SpV (sp_l_due K) [v] H (.str (codeS (chk n ds ks))) := fun H1 e Q q E => ⟨v, n, ds, ks, rfl, dp_ex e h, q⟩
/-! ### what is told -/
def sp_l_told (K : PySem.W.Frag) : Sp := fun vs H Q _ => ∃ (v : V) (n : Int) (ds : List Door) (ks : List Key2), vs = [v] ∧ Dp K H v (mazeF n ds ks) ∧ ∀ H2, Ex H H2 → Q (.str (codeS (chk n ds ks))) H2
theorem nb_maze (n : Int) (ds : List Door) (ks : List Key2) : nb (mazeF n ds ks) = true := by
  simp only [mazeF, mazeD, nb, nbAll, Bool.true_and, Bool.and_true, Bool.and_eq_true]
  exact ⟨nbAll_map nb_door ds, nbAll_map nb_key ks⟩
theorem sh_maze (n : Int) (ds : List Door) (ks : List Key2) : SeqAt.shaped (mazeF n ds ks) = true := shaped_of (nb_maze n ds ks) (by
  have : (mazeF n ds ks).depth ≤ 2 + 1 := depth_tuple fun d hd => by
    simp at hd
    rcases hd with rfl | rfl | rfl
    · simp [PyData.depth]
    · exact depth_list (depth_map dep_door ds)
    · exact depth_list (depth_map dep_key ks)
  omega)
theorem ok_l_told (T : Txt K mg) : Kept P w K mg base 3 "_law_told" ["_law_maze"] (sp_l_told K) := by
  refine T.d_l_told.kept sc_l_told (fun vs H Q E h => ?_) (fun cdv A outer s H vs Q E hr h => ?_)
  · obtain ⟨v, n, ds, ks, rfl, _⟩ := h
    rfl
  · obtain ⟨v, n, ds, ks, rfl, hv, q⟩ := h
    refine ⟨_, (pss_cons (ps_try_many (Wout := fun _ _ _ _ => False) (by rfl) (by rfl) takes0x (fun W pn xe tk po => (pss_one (ps_set (i := 1) sc_l_told.nd rfl (Or.inl rfl) (pe_fnS (ok_checked (K := K) T) (hr.mono (by decide)) (fun st => passAt tk st) (pa_cons (pv 0) pa_nil))))) (HdsOk.cons ⟨by rfl, by decide, .inl T.e_NoRoom.gC⟩ (fun a oe cls dd pn _ _ => (pss_one (ps_ret pe_str))) (HdsOk.cons ⟨by rfl, by decide, .inl T.e_NoKey.gC⟩ (fun a oe cls dd pn _ _ => (pss_one (ps_ret pe_str))) (HdsOk.cons ⟨by rfl, by decide, .inl T.e_TooMany.gC⟩ (fun a oe cls dd pn _ _ => (pss_one (ps_ret pe_str))) HdsOk.nil))))
      (pss_one (ps_ret (pe_ifExp (PW.pt (pw_and (pt_val (pe_callB (call_isi_K (K := K) rfl) (by rfl) T.n_isinstance (by decide +kernel) (pa_cons (pv 1) (pa_cons (pe_bltn (v := .ty "tuple") (u := .type "tuple") (by rfl) T.n_tuple (by decide +kernel) rfl) pa_nil)))) (pw_and1 (pt_cmpR (op_eqD_K (K := K) rfl hr.units) (pv 1) (pv 0) (nomark _))))) pe_str pe_str)))), ?_⟩
    refine ⟨_, rfl, v, n, ds, ks, rfl, hv, fun hc H1 e1 => ?_, fun r hc H1 e1 => ?_⟩
    · rw [hc] at q
      dsimp only
      have hv1 := dp_ex e1 hv
      refine s_ret (v := .str "") (ev_if (b := true && true) (et_and (et_B (ev_isiD (n := "tuple") (ed_any (ev_var rfl) hv1) (fun v H1 _ h => ty_tup h) (by decide +kernel))) fun _ => et_test (ev_is (ev_eqD (ed_any (ev_var rfl) hv1) (ed_any (ev_var rfl) hv1) (sh_maze n ds ks) (sh_maze n ds ks)) (by rw [eqv_self (nb_maze n ds ks)]))) (fun _ => ev_c) (fun z => by cases z)) fun H2 e2 => q H2 (e1.trans e2)
    · rw [hc] at q
      cases r with
      | room => exact ⟨true, T.m_NoRoom_NoRoom, fun _ a na => s_ret ev_c fun H2 e2 => q H2 (e1.trans e2), fun z => by cases z⟩
      | key => exact ⟨false, T.m_NoKey_NoRoom, (fun z => by cases z), fun _ => ⟨true, T.m_NoKey_NoKey, fun _ a na => s_ret ev_c fun H2 e2 => q H2 (e1.trans e2), fun z => by cases z⟩⟩
      | many => exact ⟨false, T.m_TooMany_NoRoom, (fun z => by cases z), fun _ => ⟨false, T.m_TooMany_NoKey, (fun z => by cases z), fun _ => ⟨true, T.m_TooMany_TooMany, fun _ a na => s_ret ev_c fun H2 e2 => q H2 (e1.trans e2), fun z => by cases z⟩⟩⟩
theorem sv_l_told {H : Hp} {v : V} {n : Int} {ds : List Door} {ks : List Key2} (h : Dp K H v (mazeF n ds ks)) : SpV (sp_l_told K) [v] H (.str (codeS (chk n ds ks))) := fun H1 e Q q E => ⟨v, n, ds, ks, rfl, dp_ex e h, q⟩
/-! ### refused, by one class alone -/
def sp_l_refused (K : PySem.W.Frag) : Sp := fun vs H Q _ => ∃ (v : V) (n : Int) (ds : List Door) (ks : List Key2) (r : Ref3), vs = [v] ∧ Dp K H v (mazeF n ds ks) ∧ chk n ds ks = some r ∧ ∀ H2, Ex H H2 → Q (.bl true) H2
theorem kinds_one {D a : Addr} {σ : L2.St} {H : Hp} {Dn : Ends} {j i : Nat} {b1 b2 b3 b4 b5 b6 : Bool} {c1 c2 c3 c4 c5 c6 : Addr} (hij : i ≠ j) (hi : σ[i]? = some (some (.ref a))) (hj : j < σ.length)
    (k1 : PySem.W.kitOne K (.ref D) (.ref c1) = some b1) (k2 : PySem.W.kitOne K (.ref D) (.ref c2) = some b2) (k3 : PySem.W.kitOne K (.ref D) (.ref c3) = some b3) (k4 : PySem.W.kitOne K (.ref D) (.ref c4) = some b4)
    (k5 : PySem.W.kitOne K (.ref D) (.ref c5) = some b5) (k6 : PySem.W.kitOne K (.ref D) (.ref c6) = some b6) (kV : PySem.W.kitOne K (.ref D) (.type "ValueError") = some true) (hc : ([b1, b2, b3] ++ [b4, b5, b6]).countP id = 1)
    (q : ∀ H2, Ex H H2 → Dn.rt (.bl true) H2) :
    tSeq (tAsg (tLst (tCons (tCB (rIsE K D a) (tCons (tVar i) (tCons (tC (.ref c1)) tNil))) (tCons (tCB (rIsE K D a) (tCons (tVar i) (tCons (tC (.ref c2)) tNil))) (tCons (tCB (rIsE K D a) (tCons (tVar i) (tCons (tC (.ref c3)) tNil))) tNil)))) (gName j))
      (tSeq (tAsg (tOp rCat (tVar j) (tLst (tCons (tCB (rIsE K D a) (tCons (tVar i) (tCons (tC (.ref c4)) tNil))) (tCons (tCB (rIsE K D a) (tCons (tVar i) (tCons (tC (.ref c5)) tNil))) (tCons (tCB (rIsE K D a) (tCons (tVar i) (tCons (tC (.ref c6)) tNil))) tNil))))) (gName j))
        (tRet (tAndV (tCB (rIsE K D a) (tCons (tVar i) (tCons (tC (.ty "ValueError")) tNil))) (tOp rEq (tBM K "list" (rCntF K) (tVar j) (tCons (tC (.bl true)) tNil)) (tC (.int 1)))))) Dn σ H := by
  refine q_asgLT (ds := [b1, b2, b3].map PyData.bool) (lt_lst (ea_tc (td_bl (ev_isE (ev_var hi) (fun _ h => h) k1)) (ea_tc (td_bl (ev_isE (ev_var hi) (fun _ h => h) k2)) (ea_tc (td_bl (ev_isE (ev_var hi) (fun _ h => h) k3)) ea_tn))) (by simp)) fun p H1 np e1 hp => ?_
  have hi1 : (σ.set j (some (.ref p)))[i]? = some (some (.ref a)) := by rw [List.getElem?_set_ne (fun z => hij z.symm)]; exact hi
  have hj1 : (σ.set j (some (V.ref p)))[j]? = some (some (.ref p)) := by rw [List.getElem?_set_self hj]
  refine q_asgLT (ds := [b1, b2, b3].map PyData.bool ++ [b4, b5, b6].map PyData.bool) (lt_cat (ev_var hj1) hp (lt_lst (ea_tc (td_bl (ev_isE (ev_var hi1) (fun _ h => h) k4)) (ea_tc (td_bl (ev_isE (ev_var hi1) (fun _ h => h) k5)) (ea_tc (td_bl (ev_isE (ev_var hi1) (fun _ h => h) k6)) ea_tn))) (by simp)) (by simp)) fun r H2 nr e2 hr => ?_
  have hi2 : ((σ.set j (some (.ref p))).set j (some (.ref r)))[i]? = some (some (.ref a)) := by rw [List.getElem?_set_ne (fun z => hij z.symm)]; exact hi1
  have hj2 : ((σ.set j (some (V.ref p))).set j (some (.ref r)))[j]? = some (some (.ref r)) := by rw [List.getElem?_set_self (by rw [List.length_set]; exact hj)]
  rw [← List.map_append] at hr
  refine s_ret (v := .bl (true && true)) (ev_andV (ev_isE (ev_var hi2) (fun _ h => h) kV) fun _ => ev_is (ev_op (ev_countT (ev_var hj2) hr) ev_c rv_eqI) (by rw [hc]; rfl)) fun H3 e3 => q H3 ((e1.trans e2).trans e3)
theorem ok_l_refused (T : Txt K mg) : Kept P w K mg base 3 "_law_refused" ["_law_maze"] (sp_l_refused K) := by
  refine T.d_l_refused.kept sc_l_refused (fun vs H Q E h => ?_) (fun cdv A outer s H vs Q E hr h => ?_)
  · obtain ⟨v, n, ds, ks, r, rfl, _⟩ := h
    rfl
  · obtain ⟨v, n, ds, ks, r, rfl, hv, hc, q⟩ := h
    refine ⟨_, (pss_cons (ps_try_as (i := 1) (Wout := fun _ _ _ _ => False) (by rfl) (by rfl) sc_l_refused.nd rfl (by rfl) ⟨by rfl, by decide, .inl T.e_MazeError.gC⟩ takes0x (fun W pn xe tk po => (pss_one (ps_expr (pe_fnS (ok_checked (K := K) T) (hr.mono (by decide)) (fun st => passAt tk st) (pa_cons (pv 0) pa_nil))))) (fun a oe cls dd pn hz hf => pss_exc hz fun D hx hzz => (pss_cons (ps_set (i := 2) sc_l_refused.nd rfl (Or.inl rfl) (pe_lst (pa_cons (pe_callB (call_isE hx hzz hf) (by rfl) T.n_isinstance (by decide +kernel) (pa_cons (pv 1) (pa_cons (pe_gref T.e_NoRoom.gC (by rfl)) pa_nil))) (pa_cons (pe_callB (call_isE hx hzz hf) (by rfl) T.n_isinstance (by decide +kernel) (pa_cons (pv 1) (pa_cons (pe_gref T.e_NoDoor.gC (by rfl)) pa_nil))) (pa_cons (pe_callB (call_isE hx hzz hf) (by rfl) T.n_isinstance (by decide +kernel) (pa_cons (pv 1) (pa_cons (pe_gref T.e_Shut.gC (by rfl)) pa_nil))) pa_nil)))))
      (pss_cons (ps_set (i := 2) sc_l_refused.nd rfl (Or.inl rfl) (pe_op op_cat (pv 2) (pe_lst (pa_cons (pe_callB (call_isE hx hzz hf) (by rfl) T.n_isinstance (by decide +kernel) (pa_cons (pv 1) (pa_cons (pe_gref T.e_NoMaze.gC (by rfl)) pa_nil))) (pa_cons (pe_callB (call_isE hx hzz hf) (by rfl) T.n_isinstance (by decide +kernel) (pa_cons (pv 1) (pa_cons (pe_gref T.e_NoKey.gC (by rfl)) pa_nil))) (pa_cons (pe_callB (call_isE hx hzz hf) (by rfl) T.n_isinstance (by decide +kernel) (pa_cons (pv 1) (pa_cons (pe_gref T.e_TooMany.gC (by rfl)) pa_nil))) pa_nil))))))
      (pss_one (ps_ret (pe_and (pe_callB (call_isE hx hzz hf) (by rfl) T.n_isinstance (by decide +kernel) (pa_cons (pv 1) (pa_cons (pe_bltn (v := .ty "ValueError") (u := .type "ValueError") (by rfl) T.n_ValueError (by decide +kernel) rfl) pa_nil))) (pe_one (pe_cmpR op_eq (pe_bm_K (K := K) rfl PySem.F.plainAttrs_list PySem.F.slot_list_count PySem.F.type_list_count (mt_countF_K (K := K) rfl) (pv 2) (pa_cons pe_bl pa_nil)) pe_int (nomark _))))))))))
      (pss_one (ps_ret pe_bl))), ?_⟩
    refine ⟨_, rfl, v, n, ds, ks, rfl, hv, (fun hc2 => by rw [hc] at hc2; cases hc2), fun r2 hc2 H1 e1 => ?_⟩
    cases r2 with
    | room =>
      refine ⟨true, T.m_NoRoom_MazeError, fun _ a na => ?_, fun z => by cases z⟩
      exact ⟨He.ga K "NoRoom", ⟨rfl, rfl, T.x_NoRoom⟩, kinds_one (by decide) rfl (by simp [L2.start]) T.k_NoRoom_NoRoom T.k_NoRoom_NoDoor T.k_NoRoom_Shut T.k_NoRoom_NoMaze T.k_NoRoom_NoKey T.k_NoRoom_TooMany T.k_NoRoom_ValueError rfl fun H2 e2 => q H2 (e1.trans e2)⟩
    | key =>
      refine ⟨true, T.m_NoKey_MazeError, fun _ a na => ?_, fun z => by cases z⟩
      exact ⟨He.ga K "NoKey", ⟨rfl, rfl, T.x_NoKey⟩, kinds_one (by decide) rfl (by simp [L2.start]) T.k_NoKey_NoRoom T.k_NoKey_NoDoor T.k_NoKey_Shut T.k_NoKey_NoMaze T.k_NoKey_NoKey T.k_NoKey_TooMany T.k_NoKey_ValueError rfl fun H2 e2 => q H2 (e1.trans e2)⟩
    | many =>
      refine ⟨true, T.m_TooMany_MazeError, fun _ a na => ?_, fun z => by cases z⟩
      exact ⟨He.ga K "TooMany", ⟨rfl, rfl, T.x_TooMany⟩, kinds_one (by decide) rfl (by simp [L2.start]) T.k_TooMany_NoRoom T.k_TooMany_NoDoor T.k_TooMany_Shut T.k_TooMany_NoMaze T.k_TooMany_NoKey T.k_TooMany_TooMany T.k_TooMany_ValueError rfl fun H2 e2 => q H2 (e1.trans e2)⟩
theorem sv_l_refused {H : Hp} {v : V} {n : Int} {ds : List Door} {ks : List Key2} {r : Ref3} (h : Dp K H v (mazeF n ds ks)) (hc : chk n ds ks = some r) : SpV (sp_l_refused K) [v] H (.bl true) := fun H1 e Q q E => ⟨v, n, ds, ks, r, rfl, dp_ex e h, hc, q⟩
end

/-! ### calls and the script, within the tactics -/
local macro_rules | `(tactic| walk_at "mz sq") => `(tactic| first
  | assumption
  | exact ex_l (by assumption) (by assumption))
local macro_rules | `(tactic| walk_at "mz call") => `(tactic| first
  | with_reducible exact sv_l_mix
  | with_reducible exact sv_l_whole
  | with_reducible exact sv_l_cell_at (by walk_at "mz sq") (by decide))
local macro_rules | `(tactic| walk_at "mz ev2") => `(tactic| first
  | walk_at "mz ev1"
  | ((with_reducible show SpV _ _ _ _); walk_at "mz call")
  | with_reducible apply ev_call0
  | with_reducible apply td_int
  | with_reducible apply td_non)
local macro_rules | `(tactic| walk_at "mz go") => `(tactic| repeat' walk_at "mz ev2")

section
variable {P : Program} {w : World} {K : PySem.W.Frag} {mg : Str → Option Value} {base : Heap}
theorem lock6 (i : Nat) (h : i < 6) : ∃ l : Option Int, ([.none, .int 0, .int 1, .int 2, .int 3, .int 4] : List PyData).getD i .none = lockD l := by
  rcases (show i = 0 ∨ i = 1 ∨ i = 2 ∨ i = 3 ∨ i = 4 ∨ i = 5 by omega) with h | h | h | h | h | h <;> subst h
  · exact ⟨none, rfl⟩
  · exact ⟨some 0, rfl⟩
  · exact ⟨some 1, rfl⟩
  · exact ⟨some 2, rfl⟩
  · exact ⟨some 3, rfl⟩
  · exact ⟨some 4, rfl⟩
theorem codeS_ne (r : Ref3) : ¬ codeS (some r) = "" := by cases r <;> decide
theorem ok_law (T : Txt K mg) {f : Addr} {fd : FuncData} (F : FunD K "law" "law" (defArgs s_law) (defBody s_law) (defScope s_law) [] [] f fd) : FnOk P w K mg base CX0 4 f fd ["_law_script"] (sp_law K) := by
  refine F.ok sc_law (fun vs H Q E h => ?_) (fun cdv A outer s H vs Q E hr h => ?_)
  · obtain ⟨a, ns, rfl, _⟩ := h
    rfl
  · obtain ⟨a, ns, rfl, hS, hl, q⟩ := h
    refine ⟨_, (PSs.nox (pss_cons (ps_set (i := 1) sc_law.nd rfl (Or.inr rfl) (pe_op op_add pe_int (pe_op op_mod (pe_fn (ok_l_cell_at (K := K) T) (hr.mono (by decide)) passL (by rfl) (pa_cons (pv 0) (pa_cons pe_int pa_nil))) pe_int)))
      (pss_cons (ps_set (i := 2) sc_law.nd rfl (Or.inr rfl) (pe_lc (own := [("_law_k", 4)]) (g := gName 4) rfl sc_law.nd (pi_range1 (by rfl) T.n_range (pa_cons pe_int pa_nil)) (blkOk_by (own := [("_law_k", 4)]) (N := ["_law_script", "_law_size", "_law_more", "_law_doors", "_law_k", "_law_lying", "_law_maze", "_law_cell", "_law_kept", "_law_due_here", "_law_found"]) (sc := defScope s_law) (by decide +kernel)) (fun _ _ _ _ _ => (pg_name (i := 4) sc_law.nd rfl (Or.inl rfl))) (fun _ _ _ _ _ => pts_nil) (fun _ _ _ _ _ => (pe_fn (ok_l_mix (K := K) T) (hr.mono (by decide)) passL (by rfl) (pa_cons (pe_fn (ok_l_cell_at (K := K) T) (hr.mono (by decide)) passL (by rfl) (pa_cons (pv 0) (pa_cons (pv 4) pa_nil))) (pa_cons pe_int pa_nil))))))
      (pss_cons (ps_set (i := 3) sc_law.nd rfl (Or.inl rfl) (pe_lst pa_nil))
      (pss_cons (ps_for PassesOwn.never rfl (pi_range1 (by rfl) T.n_range (pa_cons (pe_ix (ix_list_K (K := K) rfl) (pe_lst (pa_cons (pe_op op_mod (pe_ix (ix_list_K (K := K) rfl) (pv 2) pe_int (fun _ _ => rfl)) pe_int) (pa_cons (pe_op op_add pe_int (pe_op op_mod (pe_ix (ix_list_K (K := K) rfl) (pv 2) pe_int (fun _ _ => rfl)) pe_int)) pa_nil))) (pe_op op_mod (pe_ix (ix_list_K (K := K) rfl) (pv 2) pe_int (fun _ _ => rfl)) pe_int) (fun _ _ => rfl)) pa_nil)) (pg_name (i := 4) sc_law.nd rfl (Or.inl rfl))
        (pss_one (ps_expr (pe_bm_K (K := K) rfl PySem.F.plainAttrs_list PySem.F.slot_list_append PySem.F.type_list_append mt_append (pv 3) (pa_cons (pe_tup (pa_cons (pe_op op_mod (pe_op op_mul (pv 4) (pe_ix (ix_list_K (K := K) rfl) (pv 2) pe_int (fun _ _ => rfl))) (pv 1)) (pa_cons (pe_op op_mod (pe_op op_mul (pv 4) (pe_ix (ix_list_K (K := K) rfl) (pv 2) pe_int (fun _ _ => rfl))) (pv 1)) (pa_cons (pe_ix (ix_list_K (K := K) rfl) (pe_lst (pa_cons pe_non (pa_cons pe_int (pa_cons pe_int (pa_cons pe_int (pa_cons pe_int (pa_cons pe_int pa_nil))))))) (pe_op op_mod (pe_op op_add (pv 4) (pe_op op_fdiv (pe_ix (ix_list_K (K := K) rfl) (pv 2) pe_int (fun _ _ => rfl)) pe_int)) pe_int) (fun _ _ => rfl)) pa_nil)))) pa_nil)))))
      (pss_cons (ps_setLc (i := 5) (own := [("_law_k", 4)]) (g := gName 4) rfl sc_law.nd rfl rfl (sw_true rfl rfl rfl (by decide +kernel)) (pi_range1 (by rfl) T.n_range (pa_cons (pe_ix (ix_list_K (K := K) rfl) (pe_lst (pa_cons (pe_op op_mod (pe_ix (ix_list_K (K := K) rfl) (pv 2) pe_int (fun _ _ => rfl)) pe_int) (pa_cons (pe_op op_add pe_int (pe_op op_mod (pe_ix (ix_list_K (K := K) rfl) (pv 2) pe_int (fun _ _ => rfl)) pe_int)) pa_nil))) (pe_op op_mod (pe_op op_fdiv (pe_ix (ix_list_K (K := K) rfl) (pv 2) pe_int (fun _ _ => rfl)) pe_int) pe_int) (fun _ _ => rfl)) pa_nil)) (blkOk_by (own := [("_law_k", 4)]) (N := ["_law_script", "_law_size", "_law_more", "_law_doors", "_law_k", "_law_lying", "_law_maze", "_law_cell", "_law_kept", "_law_due_here", "_law_found"]) (sc := defScope s_law) (by decide +kernel)) (fun _ _ _ _ _ => (pg_name (i := 4) sc_law.nd rfl (Or.inl rfl))) (fun _ _ _ _ _ => pts_nil) (fun _ _ _ _ _ => (pe_tup (pa_cons (pe_op op_mod (pe_op op_mul (pv 4) (pe_ix (ix_list_K (K := K) rfl) (pv 2) pe_int (fun _ _ => rfl))) (pv 1)) (pa_cons (pe_op op_mod (pe_op op_add (pv 4) (pe_ix (ix_list_K (K := K) rfl) (pv 2) pe_int (fun _ _ => rfl))) pe_int) pa_nil)))))
      (pss_cons (ps_set (i := 6) sc_law.nd rfl (Or.inl rfl) (pe_tup (pa_cons (pv 1) (pa_cons (pv 3) (pa_cons (pv 5) pa_nil)))))
      (pss_cons (ps_for PassesOwn.never rfl (pi_list_K (K := K) rfl (pe_slice (sl_list_K (K := K) rfl) (pv 0) (po_some pe_int) (po_some pe_int))) (pg_name (i := 7) sc_law.nd rfl (Or.inl rfl))
        (pss_one (ps_set (i := 6) sc_law.nd rfl (Or.inl rfl) (pe_fn (ok_l_spoilt (K := K) T) (hr.mono (by decide)) passL (by rfl) (pa_cons (pv 6) (pa_cons (pv 7) pa_nil))))))
      (pss_cons (ps_set (i := 8) sc_law.nd rfl (Or.inl rfl) (pe_tup (pa_cons (pe_ix (ix_tup_K (K := K) rfl) (pv 6) pe_int (fun _ _ => rfl)) (pa_cons (pe_callTy (call_list_of_K (K := K) rfl) (by rfl) T.n_list (by decide +kernel) (pa_cons (pe_ix (ix_tup_K (K := K) rfl) (pv 6) pe_int (fun _ _ => rfl)) pa_nil)) (pa_cons (pe_callTy (call_list_of_K (K := K) rfl) (by rfl) T.n_list (by decide +kernel) (pa_cons (pe_ix (ix_tup_K (K := K) rfl) (pv 6) pe_int (fun _ _ => rfl)) pa_nil)) pa_nil)))))
      (pss_cons (ps_set (i := 9) sc_law.nd rfl (Or.inl rfl) (pe_fn (ok_l_due (K := K) T) (hr.mono (by decide)) passL (by rfl) (pa_cons (pv 6) pa_nil)))
      (pss_cons (ps_if (PW.pt (pw_or (pt_cmpR op_ne (pe_fn (ok_l_told (K := K) T) (hr.mono (by decide)) passL (by rfl) (pa_cons (pv 6) pa_nil)) (pv 9) (nomark _)) (pw_or1 (pt_cmpR (op_neD_K (K := K) rfl hr.units) (pv 8) (pv 6) (nomark _)))))
        (pss_one (ps_ret pe_bl))
        pss_nil)
      (pss_cons (ps_if (pt_cmpR op_ne (pv 9) pe_str (nomark _))
        (pss_one (ps_ret (pe_fn (ok_l_refused (K := K) T) (hr.mono (by decide)) passL (by rfl) (pa_cons (pv 6) pa_nil))))
        pss_nil)
      (pss_cons (ps_set (i := 10) sc_law.nd rfl (Or.inl rfl) (pe_fn (ok_checked (K := K) T) (hr.mono (by decide)) passL (by rfl) (pa_cons (pv 6) pa_nil)))
      (pss_cons (ps_expr (pe_bm_K (K := K) rfl PySem.F.plainAttrs_list PySem.F.slot_list_append PySem.F.type_list_append mt_append (pe_ix (ix_tup_K (K := K) rfl) (pv 10) pe_int (fun _ _ => rfl)) (pa_cons (pe_tup (pa_cons pe_int (pa_cons pe_int (pa_cons pe_int pa_nil)))) pa_nil)))
      (pss_cons (ps_expr (pe_bm_K (K := K) rfl PySem.F.plainAttrs_list PySem.F.slot_list_append PySem.F.type_list_append mt_append (pe_ix (ix_tup_K (K := K) rfl) (pv 10) pe_int (fun _ _ => rfl)) (pa_cons (pe_tup (pa_cons pe_int (pa_cons pe_int pa_nil))) pa_nil)))
      (pss_one (ps_ret (pe_cmpR (op_eqD_K (K := K) rfl hr.units) (pv 6) (pe_tup (pa_cons (pe_ix (ix_tup_K (K := K) rfl) (pv 8) pe_int (fun _ _ => rfl)) (pa_cons (pe_op op_cat (pe_ix (ix_tup_K (K := K) rfl) (pv 8) pe_int (fun _ _ => rfl)) (pe_lst (pa_cons (pe_tup (pa_cons pe_int (pa_cons pe_int (pa_cons pe_int pa_nil)))) pa_nil))) (pa_cons (pe_op op_cat (pe_ix (ix_tup_K (K := K) rfl) (pv 8) pe_int (fun _ _ => rfl)) (pe_lst (pa_cons (pe_tup (pa_cons pe_int (pa_cons pe_int pa_nil))) pa_nil))) pa_nil)))) (nomark _))))))))))))))))))), ?_⟩
    obtain ⟨n, hn1, hn2, en⟩ : ∃ n : Int, 1 ≤ n ∧ n ≤ 60 ∧ 1 + cellAt ns 0 % 60 = n := ⟨_, by omega, by omega, rfl⟩
    refine q_asg (v := .int n) ?_ fun H1 e1 => ?_
    · rw [← en]
      walk_at "mz go"
    have hS1 := ex_l e1 hS
    -- three numbers
    obtain ⟨m, em⟩ : ∃ m : Nat → Int, m = fun (i : Nat) => mix (cellAt ns (i : Int)) 0 := ⟨_, rfl⟩
    have hm0 : ∀ i, 0 ≤ m i ∧ m i < 999983 := fun i => by rw [em]; exact ⟨mix_pos _ _, mix_lt _ _⟩
    refine q_asgLT (ds := [.int (m 0), .int (m 1), .int (m 2)]) (lt_mapR1 (n := 3) (fun (i : Nat) => .int (m i)) (ea_cons ev_c ea_nil) (by decide) (fun x => rfl) (fun i H2 e2 hi => ?_)) fun mo H2 nmo e2 hmo => ?_
    · have hS2 := ex_l e2 hS1
      rw [em]
      refine td_int (ev_call0 (ea_cons (ev_call0 (ea_cons (ev_var rfl) (ea_cons (ev_var rfl) ea_nil)) (sv_l_cell_at hS2 (by omega))) (ea_cons ev_c ea_nil)) sv_l_mix)
    have ev_m : ∀ {σ' : L2.St} {H' : Hp} (i : Nat), i < 3 → Ex H2 H' → σ'[2]? = some (some (.ref mo)) → Ev (tOp (rIxL K) (tVar 2) (tC (.int (i : Int)))) σ' H' (.int (m i)) := fun {σ' H'} i hi e h => by
      have hmo' := hmo.ex e
      refine ev_of_td (td_ixLV (ev_var h) hmo' ev_c ?_)
      match i, hi with
      | 0, _ => exact atI0
      | 1, _ => exact atI1
      | 2, _ => exact atI2
    have ev_m0 : ∀ {σ' : L2.St} {H' : Hp}, Ex H2 H' → σ'[2]? = some (some (.ref mo)) → Ev (tOp (rIxL K) (tVar 2) (tC (.int 0))) σ' H' (.int (m 0)) := fun e h => ev_m 0 (by omega) e h
    have ev_m1 : ∀ {σ' : L2.St} {H' : Hp}, Ex H2 H' → σ'[2]? = some (some (.ref mo)) → Ev (tOp (rIxL K) (tVar 2) (tC (.int 1))) σ' H' (.int (m 1)) := fun e h => ev_m 1 (by omega) e h
    have ev_m2 : ∀ {σ' : L2.St} {H' : Hp}, Ex H2 H' → σ'[2]? = some (some (.ref mo)) → Ev (tOp (rIxL K) (tVar 2) (tC (.int 2))) σ' H' (.int (m 2)) := fun e h => ev_m 2 (by omega) e h
    have h0 := hm0 0
    have h1 := hm0 1
    have h2 := hm0 2
    -- the doors
    refine q_asgLT (ds := []) (lt_lst ea_tn (by simp)) fun dl H3 ndl e3 hdl => ?_
    obtain ⟨c1, hc1, hc1b⟩ : ∃ c1 : Int, ([m 1 % 93, 89 + m 1 % 4] : List Int).getD (m 0 % 2).toNat 0 = c1 ∧ 0 ≤ c1 ∧ c1 ≤ 92 := by
      refine ⟨_, rfl, ?_⟩
      rcases (show m 0 % 2 = 0 ∨ m 0 % 2 = 1 by omega) with h | h <;> rw [h] <;> simp <;> omega
    refine q_forR1 (n := c1) (ea_cons ?_ ea_nil) ⟨by omega, by omega⟩ (fun i σ' H' => Ex H2 H' ∧ ∃ (y4 : Option V) (ds : List Door), ds.length = i ∧ LstT H' dl (ds.map doorD) ∧ σ' = [some (.ref a), some (.int n), some (.ref mo), some (.ref dl), y4, none, none, none, none, none, none]) (fun H4 e4 => ⟨e3.trans e4, none, [], rfl, hdl.ex e4, rfl⟩) (fun i σ' H' hi hP => ?_) (fun σ' H4 hP => ?_)
    · rw [← hc1]
      refine ev_ixInts (ea_tc (td_int ?_) (ea_tc (td_int ?_) ea_tn)) ?_ (by omega) (by simp; omega)
      · exact ev_op (ev_m1 e3 rfl) ev_c (rv_I (by decide))
      · exact ev_op ev_c (ev_op (ev_m1 e3 rfl) ev_c (rv_I (by decide))) rv_I0
      · exact ev_op (ev_m0 e3 rfl) ev_c (rv_I (by decide))
    · obtain ⟨eH, y4, ds, hds, hL, rfl⟩ := hP
      obtain ⟨lk, hlk⟩ := lock6 (((i : Int) + m 1 / 93) % 6).toNat (by omega)
      refine s_appT (d := doorD ((i : Int) * m 0 % n, (i : Int) * m 2 % n, lk)) hL (ev_var rfl) ?_ (by rw [List.length_map]; omega) fun H5 xs v e5 hl5 hL5 => ⟨Ex.mut (eH.trans e5) ndl, _, ds ++ [((i : Int) * m 0 % n, (i : Int) * m 2 % n, lk)], by simp [hds], by rw [List.map_append]; exact hL5, rfl⟩
      unfold doorD
      refine td_tup (ea_tc (td_int (ev_op (ev_op (ev_var rfl) (ev_m0 eH rfl) (rv_I (.inl ⟨by omega, by omega⟩))) (ev_var rfl) (rv_I (by omega)))) (ea_tc (td_int (ev_op (ev_op (ev_var rfl) (ev_m2 eH rfl) (rv_I (.inl ⟨by omega, by omega⟩))) (ev_var rfl) (rv_I (by omega)))) (ea_tc ?_ ea_tn))) (by simp)
      rw [← hlk]
      exact td_ixL (i := ((i : Int) + m 1 / 93) % 6) (lt_lst (ea_tc (td_non ev_c) (ea_tc (td_int ev_c) (ea_tc (td_int ev_c) (ea_tc (td_int ev_c) (ea_tc (td_int ev_c) (ea_tc (td_int ev_c) ea_tn)))))) (by simp)) (ev_op (ev_op (ev_var rfl) (ev_op (ev_m1 eH rfl) ev_c (rv_I ⟨by decide, by decide⟩)) rv_I0) ev_c (rv_I (by decide))) (atI_getD (by omega) (by simp; omega))
    · obtain ⟨eH4, y4, ds, hds, hdl4, rfl⟩ := hP
      have hdl92 : ds.length ≤ 92 := by omega
      -- the keys
      obtain ⟨c2, hc2, hc2b⟩ : ∃ c2 : Int, ([m 2 % 63, 59 + m 2 % 4] : List Int).getD (m 0 / 2 % 2).toNat 0 = c2 ∧ 0 ≤ c2 ∧ c2 ≤ 62 := by
        refine ⟨_, rfl, ?_⟩
        rcases (show m 0 / 2 % 2 = 0 ∨ m 0 / 2 % 2 = 1 by omega) with h | h <;> rw [h] <;> simp <;> omega
      obtain ⟨ks, eks⟩ : ∃ ks : List Key2, ks = (List.range c2.toNat).map fun (i : Nat) => (((i : Int) * m 1 % n, ((i : Int) + m 0) % 5) : Key2) := ⟨_, rfl⟩
      have hks62 : ks.length ≤ 62 := by rw [eks]; simp; omega
      refine q_asgLT (ds := ks.map keyD) ?_ fun kl H5 nkl e5 hkl => ?_
      · rw [eks, List.map_map]
        refine lt_mapR1 (n := c2) (fun (i : Nat) => keyD ((i : Int) * m 1 % n, ((i : Int) + m 0) % 5)) (ea_cons ?_ ea_nil) (by omega) (fun x => rfl) (fun i H6 e6 hi => ?_)
        · rw [← hc2]
          refine ev_ixInts (ea_tc (td_int ?_) (ea_tc (td_int ?_) ea_tn)) ?_ (by omega) (by simp; omega)
          · exact ev_op (ev_m2 eH4 rfl) ev_c (rv_I (by decide))
          · exact ev_op ev_c (ev_op (ev_m2 eH4 rfl) ev_c (rv_I (by decide))) rv_I0
          · exact ev_op (ev_op (ev_m0 eH4 rfl) ev_c (rv_I ⟨by decide, by decide⟩)) ev_c (rv_I (by decide))
        · have e26 := eH4.trans e6
          exact td_tup (ea_tc (td_int (ev_op (ev_op (ev_var rfl) (ev_m1 e26 rfl) (rv_I (.inl ⟨by omega, by omega⟩))) (ev_var rfl) (rv_I (by omega)))) (ea_tc (td_int (ev_op (ev_op (ev_var rfl) (ev_m0 e26 rfl) rv_I0) ev_c (rv_I (by decide)))) ea_tn)) (by simp)
      have nkl2 : H2 kl = none := fresh_back eH4 nkl
      have hne : dl ≠ kl := fun z => by
        obtain ⟨xs, hx, _⟩ := hdl4
        rw [z] at hx
        rw [hx] at nkl
        cases nkl
      -- the maze
      refine q_asgU (xs := [.int n, .ref dl, .ref kl]) (eu_tup (ea_cons (ev_var rfl) (ea_cons (ev_var rfl) (ea_cons (ev_var rfl) ea_nil))) (by simp)) fun mt H6 nmt e6 hmt => ?_
      have hz6 : MzAt H6 mt dl kl n ds ks := ⟨hmt, hdl4.ex (e5.trans e6), hkl.ex e6, hne⟩
      have eb6 : Ex H2 H6 := eH4.trans (e5.trans e6)
      obtain ⟨ms, ems, hms⟩ := cut_ints ns (some 3) (some 6)
      refine q_forNLn (j := 7) (xs := ms.map V.int) ?_ (fun p i σ' H' => Ex H2 H' ∧ H' p = some (.lst (ms.map V.int)) ∧ p ≠ dl ∧ p ≠ kl ∧ ∃ (y7 : Option V) (m' : Addr) (n' : Int) (ds' : List Door) (ks' : List Key2), σ' = [some (.ref a), some (.int n), some (.ref mo), some (.ref dl), y4, some (.ref kl), some (.ref m'), y7, none, none, none] ∧ MzAt H' m' dl kl n' ds' ks' ∧ ds'.length = ds.length ∧ ks'.length = ks.length) (fun p H7 np e7 h7 => ?_) (fun p i σ' H' _ hP => SqL.of hP.2.1) (fun p i x σ' H' hx hP => ?_) (fun p σ' H7 hP => ?_)
      · rw [← ems]
        exact el_sl (ev_var rfl) (eo_some ev_c) (eo_some ev_c) (ex_l (e2.trans eb6) hS1)
      · refine ⟨eb6.trans e7, h7, fun z => ?_, fun z => ?_, none, mt, n, ds, ks, rfl, hz6.ex e7, rfl, rfl⟩
        · obtain ⟨xs, hx, _⟩ := hz6.dl
          rw [z, hx] at np
          cases np
        · obtain ⟨xs, hx, _⟩ := hz6.kl
          rw [z, hx] at np
          cases np
      · obtain ⟨eH, hp, np1, np2, y7, m', n', ds', ks', rfl, hz, hd', hk'⟩ := hP
        rw [List.getElem?_map] at hx
        obtain ⟨c, hc, rfl⟩ := Option.map_eq_some_iff.mp hx
        refine ⟨_, rfl, _, rfl, m', dl, kl, n', c, ds', ks', rfl, hz, by omega, by omega, fun m2 n2 ds2 ks2 H8 ch hz2 hd2 hk2 => ?_⟩
        refine ⟨ch.keeps eH ndl nkl2, ch _ _ np1 np2 hp, np1, np2, _, m2, n2, ds2, ks2, rfl, hz2, by omega, by omega⟩
      · obtain ⟨eH, hp, np1, np2, y7, m', n', ds', ks', rfl, hz, hd', hk'⟩ := hP
        have hk62 : ks'.length ≤ 62 := by omega
        have hd92 : ds'.length ≤ 92 := by omega
        have evd : ∀ {σ' : L2.St} {H' : Hp}, MzAt H' m' dl kl n' ds' ks' → σ'[6]? = some (some (.ref m')) → Ev (tOp (rIxT K) (tVar 6) (tC (.int 1))) σ' H' (.ref dl) := fun hz h => ev_op (ev_var h) ev_c (rv_ixT (SqT.of hz.tup) rfl)
        have evk : ∀ {σ' : L2.St} {H' : Hp}, MzAt H' m' dl kl n' ds' ks' → σ'[6]? = some (some (.ref m')) → Ev (tOp (rIxT K) (tVar 6) (tC (.int 2))) σ' H' (.ref kl) := fun hz h => ev_op (ev_var h) ev_c (rv_ixT (SqT.of hz.tup) rfl)
        -- what is kept
        refine q_asgP (P := fun v H' => ∃ (kt k1 k2 : Addr), v = .ref kt ∧ H' kt = some (.tup [.int n', .ref k1, .ref k2]) ∧ LstT H' k1 (ds'.map doorD) ∧ LstT H' k2 (ks'.map keyD) ∧ (k1 ≠ dl ∧ k1 ≠ kl ∧ k2 ≠ dl ∧ k2 ≠ kl)) ?_ ?_
        · refine EvP.imp (ep_tupP (R := fun vs H' => ∃ (k1 k2 : Addr), vs = [.int n', .ref k1, .ref k2] ∧ LstT H' k1 (ds'.map doorD) ∧ LstT H' k2 (ks'.map keyD) ∧ (k1 ≠ dl ∧ k1 ≠ kl ∧ k2 ≠ dl ∧ k2 ≠ kl)) (ea_pv (v := .int n') (ev_op (ev_var rfl) ev_c (rv_ixT (SqT.of hz.tup) rfl)) fun H8 e8 => ?_) ?_) ?_
          · have hz8 := hz.ex e8
            refine ea_pl (lt_list (evd hz8 rfl) hz8.dl) fun p1 H9 e9 n1 h9 => ?_
            have hz9 := hz8.ex e9
            refine ea_pl (lt_list (evk hz9 rfl) hz9.kl) fun p2 H10 e10 n2 h10 => ?_
            obtain ⟨xd, hxd, _⟩ := hz8.dl
            obtain ⟨xk, hxk, _⟩ := hz8.kl
            exact ea_pn fun H11 e11 => ⟨p1, p2, rfl, h9.ex (e10.trans e11), h10.ex e11, fun z => (ne_of_none hxd n1) z.symm, fun z => (ne_of_none hxk n1) z.symm, fun z => (ne_of_none (e9 _ _ hxd) n2) z.symm, fun z => (ne_of_none (e9 _ _ hxk) n2) z.symm⟩
          · rintro vs H' ⟨k1, k2, rfl, _⟩
            simp
          · rintro v H8 e8 ⟨p, vs, H0, rfl, hp2, e0, e08, k1, k2, rfl, hk1, hk2, hkn⟩
            exact ⟨p, k1, k2, rfl, hp2, hk1.ex e08, hk2.ex e08, hkn⟩
        · rintro v H8 e8 ⟨kt, k1, k2, rfl, hkt, hk1, hk2, nk1, nk2, nk3, nk4⟩
          have hz8 := hz.ex e8
          -- what is due, what is told
          refine q_asg (v := .str (codeS (chk n' ds' ks'))) (ev_call0 (ea_cons (ev_var rfl) ea_nil) (sv_l_due hz8.dp)) fun H9 e9 => ?_
          have hz9 := hz8.ex e9
          have hkd : ∀ {H' : Hp}, Ex H8 H' → Dp K H' (.ref kt) (mazeF n' ds' ks') := fun e => .tup (SqT.of (e _ _ hkt)) (.cons (.int n') (.cons (hk1.ex e).dp (.cons (hk2.ex e).dp .nil)))
          refine q_when (b := (!decide (V.str (codeS (chk n' ds' ks')) = V.str (codeS (chk n' ds' ks')))) || !PyData.eqv (mazeF n' ds' ks') (mazeF n' ds' ks')) (et_or (et_test (ev_op (ev_call0 (ea_cons (ev_var rfl) ea_nil) (sv_l_told hz9.dp)) (ev_var rfl) (rv_ne rfl))) fun _ => et_test (ev_neD (ed_any (ev_var rfl) (hkd e9)) (ed_any (ev_var rfl) hz9.dp) (sh_maze n' ds' ks') (sh_maze n' ds' ks'))) (fun hb H10 e10 => ?_) (fun hb H10 e10 => ?_)
          · rw [eqv_self (nb_maze n' ds' ks'), decide_eq_true rfl] at hb
            cases hb
          · have hz10 := hz9.ex e10
            cases hc : chk n' ds' ks' with
            | some r =>
              refine q_when (b := !decide (V.str (codeS (some r)) = V.str "")) (et_test (ev_op (ev_var rfl) ev_c (rv_ne rfl))) (fun _ H11 e11 => ?_) (fun hb2 H11 e11 => ?_)
              · exact s_ret (ev_call0 (ea_cons (ev_var rfl) ea_nil) (sv_l_refused (hz10.ex e11).dp hc)) fun H12 e12 => q H12
              · have hne : ¬ V.str (codeS (some r)) = V.str "" := fun z => codeS_ne r (V.str.inj z)
                rw [decide_eq_false hne] at hb2
                cases hb2
            | none =>
              refine q_when (b := !decide (V.str (codeS none) = V.str "")) (et_test (ev_op (ev_var rfl) ev_c (rv_ne rfl))) (fun hb2 H11 e11 => ?_) (fun _ H11 e11 => ?_)
              · have : (!decide (V.str (codeS none) = V.str "")) = false := by decide
                rw [this] at hb2
                cases hb2
              · have hz11 := hz10.ex e11
                refine ⟨_, rfl, .ref m', n', ds', ks', rfl, hz11.dp, fun _ H12 e12 => ?_, (fun r hr => by rw [hc] at hr; cases hr)⟩
                have hz12 := hz11.ex e12
                have e812 := ((e9.trans e10).trans e11).trans e12
                dsimp only
                refine q_appT (l := dl) (d := doorD (0, 0, some 4)) hz12.dl (ev_op (ev_var rfl) ev_c (rv_ixT (SqT.of hz12.tup) rfl)) ?_ (by rw [List.length_map]; omega) fun H13 xs v e13 hx13 hp13 => ?_
                · unfold doorD
                  exact td_tup (ea_tc (td_int ev_c) (ea_tc (td_int ev_c) (ea_tc (td_int ev_c) ea_tn))) (by simp)
                have t14 : upd H13 dl (.lst (xs ++ [v])) m' = some (.tup [.int n', .ref dl, .ref kl]) := upd_tups hx13 _ _ (e13 _ _ hz12.tup)
                have k14 : LstT (upd H13 dl (.lst (xs ++ [v]))) kl (ks'.map keyD) := (hz12.kl.ex e13).upd_ne hx13 hne.symm
                refine q_appT (l := kl) (d := keyD (0, 4)) k14 (ev_op (ev_var rfl) ev_c (rv_ixT (SqT.of t14) rfl)) ?_ (by rw [List.length_map]; omega) fun H15 ys u e15 hy15 hp15 => ?_
                · unfold keyD
                  exact td_tup (ea_tc (td_int ev_c) (ea_tc (td_int ev_c) ea_tn)) (by simp)
                have d16 : LstT (upd H15 kl (.lst (ys ++ [u]))) dl (ds'.map doorD ++ [doorD (0, 0, some 4)]) := (hp13.ex e15).upd_ne hy15 hne
                have m16 : upd H15 kl (.lst (ys ++ [u])) m' = some (.tup [.int n', .ref dl, .ref kl]) := upd_tups hy15 _ _ (e15 _ _ t14)
                have t16 : upd H15 kl (.lst (ys ++ [u])) kt = some (.tup [.int n', .ref k1, .ref k2]) := upd_tups hy15 _ _ (e15 _ _ (upd_tups hx13 _ _ (e13 _ _ (e812 _ _ hkt))))
                have a16 : LstT (upd H15 kl (.lst (ys ++ [u]))) k1 (ds'.map doorD) := ((((hk1.ex e812).ex e13).upd_ne hx13 nk1).ex e15).upd_ne hy15 nk2
                have b16 : LstT (upd H15 kl (.lst (ys ++ [u]))) k2 (ks'.map keyD) := ((((hk2.ex e812).ex e13).upd_ne hx13 nk3).ex e15).upd_ne hy15 nk4
                have ed : ds'.map doorD ++ [doorD (0, 0, some 4)] = (ds' ++ [(0, 0, some 4)]).map doorD := by simp
                have ek : ks'.map keyD ++ [keyD (0, 4)] = (ks' ++ [(0, 4)]).map keyD := by simp
                rw [ed] at d16
                rw [ek] at hp15
                have hend : Dp K (upd H15 kl (.lst (ys ++ [u]))) (.ref m') (mazeF n' (ds' ++ [(0, 0, some 4)]) (ks' ++ [(0, 4)])) := .tup (SqT.of m16) (.cons (.int n') (.cons d16.dp (.cons hp15.dp .nil)))
                refine s_ret (ev_is (ev_eqD (d := mazeF n' (ds' ++ [(0, 0, some 4)]) (ks' ++ [(0, 4)])) (e := mazeF n' (ds' ++ [(0, 0, some 4)]) (ks' ++ [(0, 4)])) (ed_any (ev_var rfl) hend) ?_ (sh_maze _ _ _) (sh_maze _ _ _)) (by rw [eqv_self (nb_maze _ _ _)])) fun H17 e17 => q H17
                refine ed_tup (ea_dc (ed_int (ev_op (ev_var rfl) ev_c (rv_ixT (SqT.of t16) rfl))) (ea_dc (ed_lt ?_) (ea_dc (ed_lt ?_) ea_dn))) (by simp)
                · rw [← ed]
                  refine lt_cat (ev_op (ev_var rfl) ev_c (rv_ixT (SqT.of t16) rfl)) a16 (lt_lst (ea_tc ?_ ea_tn) (by simp)) (by simp; omega)
                  unfold doorD
                  exact td_tup (ea_tc (td_int ev_c) (ea_tc (td_int ev_c) (ea_tc (td_int ev_c) ea_tn))) (by simp)
                · rw [← ek]
                  refine lt_cat (ev_op (ev_var rfl) ev_c (rv_ixT (SqT.of t16) rfl)) b16 (lt_lst (ea_tc ?_ ea_tn) (by simp)) (by simp; omega)
                  unfold keyD
                  exact td_tup (ea_tc (td_int ev_c) (ea_tc (td_int ev_c) ea_tn)) (by simp)
end

set_option maxHeartbeats 0

/-! ### the head -/
section
variable {K : PySem.W.Frag} {h : Heap} {mg : Str → Option Value}
def faL : List Fx := ([.fa (.free "ValueError"), .fa (.free "abs"), .fa (.free "isinstance"), .fa (.free "len"), .fa (.free "list"), .fa (.free "range"), .fa (.free "tuple"), .fa (.int "MOST_ROOMS" 60), .fa (.int "MOST_DOORS" 90), .fa (.int "MOST_KEYS" 60), .fa (.int "KINDS" 5), .fa (.glo "MazeError"), .fa (.exc "MazeError"), .fa (.glo "NoMaze"), .fa (.exc "NoMaze"), .fa (.glo "NoRoom"), .fa (.exc "NoRoom"), .fa (.glo "NoKey"), .fa (.exc "NoKey"), .fa (.glo "TooMany"), .fa (.exc "TooMany"), .fa (.glo "NoDoor"), .fa (.exc "NoDoor"), .fa (.glo "Shut"), .fa (.exc "Shut"), .excC "NoRoom", .fa (.exm "NoRoom" "MazeError" true), .kit "NoRoom" "MazeError" true, .fa (.exm "NoRoom" "NoMaze" false), .kit "NoRoom" "NoMaze" false] : List Fx) ++ ([.fa (.exm "NoRoom" "NoRoom" true), .kit "NoRoom" "NoRoom" true, .fa (.exm "NoRoom" "NoKey" false), .kit "NoRoom" "NoKey" false, .fa (.exm "NoRoom" "TooMany" false), .kit "NoRoom" "TooMany" false, .fa (.exm "NoRoom" "NoDoor" false), .kit "NoRoom" "NoDoor" false, .fa (.exm "NoRoom" "Shut" false), .kit "NoRoom" "Shut" false, .kitT "NoRoom" "ValueError" true, .excC "NoKey", .fa (.exm "NoKey" "MazeError" true), .kit "NoKey" "MazeError" true, .fa (.exm "NoKey" "NoMaze" false), .kit "NoKey" "NoMaze" false, .fa (.exm "NoKey" "NoRoom" false), .kit "NoKey" "NoRoom" false, .fa (.exm "NoKey" "NoKey" true), .kit "NoKey" "NoKey" true, .fa (.exm "NoKey" "TooMany" false), .kit "NoKey" "TooMany" false, .fa (.exm "NoKey" "NoDoor" false), .kit "NoKey" "NoDoor" false, .fa (.exm "NoKey" "Shut" false), .kit "NoKey" "Shut" false, .kitT "NoKey" "ValueError" true, .excC "TooMany", .fa (.exm "TooMany" "MazeError" true), .kit "TooMany" "MazeError" true] : List Fx) ++ ([.fa (.exm "TooMany" "NoMaze" false), .kit "TooMany" "NoMaze" false, .fa (.exm "TooMany" "NoRoom" false), .kit "TooMany" "NoRoom" false, .fa (.exm "TooMany" "NoKey" false), .kit "TooMany" "NoKey" false, .fa (.exm "TooMany" "TooMany" true), .kit "TooMany" "TooMany" true, .fa (.exm "TooMany" "NoDoor" false), .kit "TooMany" "NoDoor" false, .fa (.exm "TooMany" "Shut" false), .kit "TooMany" "Shut" false, .kitT "TooMany" "ValueError" true, .fa (.glo "need_room"), .fa (.glo "need_kind"), .fa (.glo "checked"), .fa (.glo "_law_mix"), .fa (.glo "_law_cell_at"), .fa (.glo "_law_number"), .fa (.glo "_law_spoilt"), .fa (.glo "_law_due"), .fa (.glo "_law_told"), .fa (.glo "_law_refused"), .fa (.glo "law")] : List Fx)
def fnL : List He.DefD := ([⟨("need_room", none), "need_room", "need_room", defArgs s_need_room, defBody s_need_room, defScope s_need_room, [], []⟩, ⟨("need_kind", none), "need_kind", "need_kind", defArgs s_need_kind, defBody s_need_kind, defScope s_need_kind, [], []⟩, ⟨("checked", none), "checked", "checked", defArgs s_checked, defBody s_checked, defScope s_checked, [], []⟩, ⟨("_law_mix", none), "_law_mix", "_law_mix", defArgs s_l_mix, defBody s_l_mix, defScope s_l_mix, [], []⟩, ⟨("_law_cell_at", none), "_law_cell_at", "_law_cell_at", defArgs s_l_cell_at, defBody s_l_cell_at, defScope s_l_cell_at, [], []⟩, ⟨("_law_number", none), "_law_number", "_law_number", defArgs s_l_number, defBody s_l_number, defScope s_l_number, [], []⟩, ⟨("_law_spoilt", none), "_law_spoilt", "_law_spoilt", defArgs s_l_spoilt, defBody s_l_spoilt, defScope s_l_spoilt, [], []⟩, ⟨("_law_due", none), "_law_due", "_law_due", defArgs s_l_due, defBody s_l_due, defScope s_l_due, [], []⟩, ⟨("_law_told", none), "_law_told", "_law_told", defArgs s_l_told, defBody s_l_told, defScope s_l_told, [], []⟩, ⟨("_law_refused", none), "_law_refused", "_law_refused", defArgs s_l_refused, defBody s_l_refused, defScope s_l_refused, [], []⟩, ⟨("law", none), "law", "law", defArgs s_law, defBody s_law, defScope s_law, [], []⟩] : List He.DefD)
theorem txt_of (X : K.In h) (G : h.Ns mainGlobals mg) (c : SaysX faL fnL K) : Txt K mg where
  n_ValueError := He.free_ok X G (c.fact 0 (f := .fa (.free "ValueError")) rfl)
  n_abs := He.free_ok X G (c.fact 1 (f := .fa (.free "abs")) rfl)
  n_isinstance := He.free_ok X G (c.fact 2 (f := .fa (.free "isinstance")) rfl)
  n_len := He.free_ok X G (c.fact 3 (f := .fa (.free "len")) rfl)
  n_list := He.free_ok X G (c.fact 4 (f := .fa (.free "list")) rfl)
  n_range := He.free_ok X G (c.fact 5 (f := .fa (.free "range")) rfl)
  n_tuple := He.free_ok X G (c.fact 6 (f := .fa (.free "tuple")) rfl)
  i_MOST_ROOMS := He.int_ok X G (c.fact 7 (f := .fa (.int "MOST_ROOMS" 60)) rfl)
  i_MOST_DOORS := He.int_ok X G (c.fact 8 (f := .fa (.int "MOST_DOORS" 90)) rfl)
  i_MOST_KEYS := He.int_ok X G (c.fact 9 (f := .fa (.int "MOST_KEYS" 60)) rfl)
  i_KINDS := He.int_ok X G (c.fact 10 (f := .fa (.int "KINDS" 5)) rfl)
  e_MazeError := excT_ok X G (c.fact 11 (f := .fa (.glo "MazeError")) rfl) (c.fact 12 (f := .fa (.exc "MazeError")) rfl)
  e_NoMaze := excT_ok X G (c.fact 13 (f := .fa (.glo "NoMaze")) rfl) (c.fact 14 (f := .fa (.exc "NoMaze")) rfl)
  e_NoRoom := excT_ok X G (c.fact 15 (f := .fa (.glo "NoRoom")) rfl) (c.fact 16 (f := .fa (.exc "NoRoom")) rfl)
  e_NoKey := excT_ok X G (c.fact 17 (f := .fa (.glo "NoKey")) rfl) (c.fact 18 (f := .fa (.exc "NoKey")) rfl)
  e_TooMany := excT_ok X G (c.fact 19 (f := .fa (.glo "TooMany")) rfl) (c.fact 20 (f := .fa (.exc "TooMany")) rfl)
  e_NoDoor := excT_ok X G (c.fact 21 (f := .fa (.glo "NoDoor")) rfl) (c.fact 22 (f := .fa (.exc "NoDoor")) rfl)
  e_Shut := excT_ok X G (c.fact 23 (f := .fa (.glo "Shut")) rfl) (c.fact 24 (f := .fa (.exc "Shut")) rfl)
  x_NoRoom := excC_ok (c.fact 25 (f := .excC "NoRoom") rfl)
  m_NoRoom_MazeError := He.exm_ok (c.fact 26 (f := .fa (.exm "NoRoom" "MazeError" true)) rfl)
  k_NoRoom_MazeError := of_decide_eq_true (c.fact 27 (f := .kit "NoRoom" "MazeError" true) rfl)
  m_NoRoom_NoMaze := He.exm_ok (c.fact 28 (f := .fa (.exm "NoRoom" "NoMaze" false)) rfl)
  k_NoRoom_NoMaze := of_decide_eq_true (c.fact 29 (f := .kit "NoRoom" "NoMaze" false) rfl)
  m_NoRoom_NoRoom := He.exm_ok (c.fact 30 (f := .fa (.exm "NoRoom" "NoRoom" true)) rfl)
  k_NoRoom_NoRoom := of_decide_eq_true (c.fact 31 (f := .kit "NoRoom" "NoRoom" true) rfl)
  m_NoRoom_NoKey := He.exm_ok (c.fact 32 (f := .fa (.exm "NoRoom" "NoKey" false)) rfl)
  k_NoRoom_NoKey := of_decide_eq_true (c.fact 33 (f := .kit "NoRoom" "NoKey" false) rfl)
  m_NoRoom_TooMany := He.exm_ok (c.fact 34 (f := .fa (.exm "NoRoom" "TooMany" false)) rfl)
  k_NoRoom_TooMany := of_decide_eq_true (c.fact 35 (f := .kit "NoRoom" "TooMany" false) rfl)
  m_NoRoom_NoDoor := He.exm_ok (c.fact 36 (f := .fa (.exm "NoRoom" "NoDoor" false)) rfl)
  k_NoRoom_NoDoor := of_decide_eq_true (c.fact 37 (f := .kit "NoRoom" "NoDoor" false) rfl)
  m_NoRoom_Shut := He.exm_ok (c.fact 38 (f := .fa (.exm "NoRoom" "Shut" false)) rfl)
  k_NoRoom_Shut := of_decide_eq_true (c.fact 39 (f := .kit "NoRoom" "Shut" false) rfl)
  k_NoRoom_ValueError := of_decide_eq_true (c.fact 40 (f := .kitT "NoRoom" "ValueError" true) rfl)
  x_NoKey := excC_ok (c.fact 41 (f := .excC "NoKey") rfl)
  m_NoKey_MazeError := He.exm_ok (c.fact 42 (f := .fa (.exm "NoKey" "MazeError" true)) rfl)
  k_NoKey_MazeError := of_decide_eq_true (c.fact 43 (f := .kit "NoKey" "MazeError" true) rfl)
  m_NoKey_NoMaze := He.exm_ok (c.fact 44 (f := .fa (.exm "NoKey" "NoMaze" false)) rfl)
  k_NoKey_NoMaze := of_decide_eq_true (c.fact 45 (f := .kit "NoKey" "NoMaze" false) rfl)
  m_NoKey_NoRoom := He.exm_ok (c.fact 46 (f := .fa (.exm "NoKey" "NoRoom" false)) rfl)
  k_NoKey_NoRoom := of_decide_eq_true (c.fact 47 (f := .kit "NoKey" "NoRoom" false) rfl)
  m_NoKey_NoKey := He.exm_ok (c.fact 48 (f := .fa (.exm "NoKey" "NoKey" true)) rfl)
  k_NoKey_NoKey := of_decide_eq_true (c.fact 49 (f := .kit "NoKey" "NoKey" true) rfl)
  m_NoKey_TooMany := He.exm_ok (c.fact 50 (f := .fa (.exm "NoKey" "TooMany" false)) rfl)
  k_NoKey_TooMany := of_decide_eq_true (c.fact 51 (f := .kit "NoKey" "TooMany" false) rfl)
  m_NoKey_NoDoor := He.exm_ok (c.fact 52 (f := .fa (.exm "NoKey" "NoDoor" false)) rfl)
  k_NoKey_NoDoor := of_decide_eq_true (c.fact 53 (f := .kit "NoKey" "NoDoor" false) rfl)
  m_NoKey_Shut := He.exm_ok (c.fact 54 (f := .fa (.exm "NoKey" "Shut" false)) rfl)
  k_NoKey_Shut := of_decide_eq_true (c.fact 55 (f := .kit "NoKey" "Shut" false) rfl)
  k_NoKey_ValueError := of_decide_eq_true (c.fact 56 (f := .kitT "NoKey" "ValueError" true) rfl)
  x_TooMany := excC_ok (c.fact 57 (f := .excC "TooMany") rfl)
  m_TooMany_MazeError := He.exm_ok (c.fact 58 (f := .fa (.exm "TooMany" "MazeError" true)) rfl)
  k_TooMany_MazeError := of_decide_eq_true (c.fact 59 (f := .kit "TooMany" "MazeError" true) rfl)
  m_TooMany_NoMaze := He.exm_ok (c.fact 60 (f := .fa (.exm "TooMany" "NoMaze" false)) rfl)
  k_TooMany_NoMaze := of_decide_eq_true (c.fact 61 (f := .kit "TooMany" "NoMaze" false) rfl)
  m_TooMany_NoRoom := He.exm_ok (c.fact 62 (f := .fa (.exm "TooMany" "NoRoom" false)) rfl)
  k_TooMany_NoRoom := of_decide_eq_true (c.fact 63 (f := .kit "TooMany" "NoRoom" false) rfl)
  m_TooMany_NoKey := He.exm_ok (c.fact 64 (f := .fa (.exm "TooMany" "NoKey" false)) rfl)
  k_TooMany_NoKey := of_decide_eq_true (c.fact 65 (f := .kit "TooMany" "NoKey" false) rfl)
  m_TooMany_TooMany := He.exm_ok (c.fact 66 (f := .fa (.exm "TooMany" "TooMany" true)) rfl)
  k_TooMany_TooMany := of_decide_eq_true (c.fact 67 (f := .kit "TooMany" "TooMany" true) rfl)
  m_TooMany_NoDoor := He.exm_ok (c.fact 68 (f := .fa (.exm "TooMany" "NoDoor" false)) rfl)
  k_TooMany_NoDoor := of_decide_eq_true (c.fact 69 (f := .kit "TooMany" "NoDoor" false) rfl)
  m_TooMany_Shut := He.exm_ok (c.fact 70 (f := .fa (.exm "TooMany" "Shut" false)) rfl)
  k_TooMany_Shut := of_decide_eq_true (c.fact 71 (f := .kit "TooMany" "Shut" false) rfl)
  k_TooMany_ValueError := of_decide_eq_true (c.fact 72 (f := .kitT "TooMany" "ValueError" true) rfl)
  d_need_room := c.dfn X G 0 73 rfl rfl fun _ _ _ _ _ _ us hl => match us, hl with | [_, _], _ => rfl
  d_need_kind := c.dfn X G 1 74 rfl rfl fun _ _ _ _ _ _ us hl => match us, hl with | [_], _ => rfl
  d_checked := c.dfn X G 2 75 rfl rfl fun _ _ _ _ _ _ us hl => match us, hl with | [_], _ => rfl
  d_l_mix := c.dfn X G 3 76 rfl rfl fun _ _ _ _ _ _ us hl => match us, hl with | [_, _], _ => rfl
  d_l_cell_at := c.dfn X G 4 77 rfl rfl fun _ _ _ _ _ _ us hl => match us, hl with | [_, _], _ => rfl
  d_l_number := c.dfn X G 5 78 rfl rfl fun _ _ _ _ _ _ us hl => match us, hl with | [_, _], _ => rfl
  d_l_spoilt := c.dfn X G 6 79 rfl rfl fun _ _ _ _ _ _ us hl => match us, hl with | [_, _], _ => rfl
  d_l_due := c.dfn X G 7 80 rfl rfl fun _ _ _ _ _ _ us hl => match us, hl with | [_], _ => rfl
  d_l_told := c.dfn X G 8 81 rfl rfl fun _ _ _ _ _ _ us hl => match us, hl with | [_], _ => rfl
  d_l_refused := c.dfn X G 9 82 rfl rfl fun _ _ _ _ _ _ us hl => match us, hl with | [_], _ => rfl
  d_law := c.dfn X G 10 83 rfl rfl fun _ _ _ _ _ _ us hl => match us, hl with | [_], _ => rfl
end
abbrev Rrow : PySem.W.OpenRow := PySem.W.OpenLaw.row PySem.Challenge.rw_mazeguide_k05_mazes_checked
abbrev hkL : PySem.W.Hook := hookX 4 faL fnL
def looseL : List Str := (["need_room", "need_kind", "checked", "_law_mix", "_law_cell_at", "_law_number", "_law_spoilt", "_law_due", "_law_told", "_law_refused", "MazeError", "NoMaze", "NoRoom", "NoKey", "TooMany", "NoDoor", "Shut", "MOST_ROOMS", "MOST_DOORS", "MOST_KEYS", "KINDS"] : List Str)
def obL (s : PySem.W.SharedT) : He.AlD := obsXG 4 faL fnL (HandSHeadRun.getT s)
theorem obL_eq (s : PySem.W.SharedT) : obL s = hkL.obs s.abs := obsXG_eq (HandSHeadRun.getT_eq s)
theorem runL (w : World) : HandSHeadRun.RunEq Rrow (PySem.W.view Rrow.prog [24]) hkL obL 6000 looseL w := by
  intro os
  kernel_rfl
theorem law_fn {P : Program} {w : World} {K : PySem.W.Frag} {h : Heap} {mg : Str → Option Value} {f : Addr} (X : K.In h) (G : h.Ns mainGlobals mg) (hfa : mg ("law" : Str) = some (.ref f)) (c : SaysX faL fnL K) :
    ∃ fd : FuncData, (∀ (s : Shared) (v : Value), BindsTo s fd ⟨[v], []⟩ [("_law_script", v)]) ∧ ∀ base : Heap, K.In base → base.Ns mainGlobals mg → FnOk P w K mg base CX0 4 f fd ["_law_script"] (sp_law K) := by
  have T : Txt K mg := txt_of X G c
  obtain ⟨fd, F⟩ := c.def_ 10 (d := ⟨("law", none), "law", "law", defArgs s_law, defBody s_law, defScope s_law, [], []⟩) rfl
  have e := hfa.symm.trans T.d_law.1
  cases e
  have b := FunD.bindsA (ps := ["_law_script"]) F fun _ _ _ _ _ _ us hl => match us, hl with | [_], _ => rfl
  exact ⟨fd, fun s v => b s [v] rfl, fun base _ _ => ok_law T F⟩
end Mz
open PySem PySem.W PySem.Calls PyProof.Rows
theorem PySem.Challenge.cw_mazeguide_k05_mazes_checked_holds : PySem.Challenge.rw_mazeguide_k05_mazes_checked.Holds := by
  w_on; o_law
  refine HandSHeadRun.head_any (r := OpenLaw.row PySem.Challenge.rw_mazeguide_k05_mazes_checked) (q := view (OpenLaw.row PySem.Challenge.rw_mazeguide_k05_mazes_checked).prog [24]) (H := Mz.hkL) (ob := Mz.obL) (M := 6000) (loose := Mz.looseL) (d := HandSHeadRun.topDef (OpenLaw.row PySem.Challenge.rw_mazeguide_k05_mazes_checked).prog 24) (kwd := []) Mz.obL_eq
    (by kernel_rfl) (fun s => by kernel_rfl) Mz.runL (by kernel_rfl) (by kernel_rfl) (by kernel_rfl) (by rfl) (by first | assumption | decide +kernel) (by decide +kernel) ⟨rfl, rfl, rfl, rfl, rfl, by decide +kernel⟩ ?hw ?hc
  case hw => w_witness2
  case hc =>
    refine L2.walk_ofE (l := PySem.Challenge.rw_mazeguide_k05_mazes_checked) (n := 63) (k := 4) (x := "_law_script") (CX := L2.CX0) rfl (by decide) (by kernel_rfl) ⟨rfl, by decide, by decide⟩ ?F (fun _ _ _ _ z => z)
    intro w mg fa h Y G hmg0
    obtain ⟨K, KX, c⟩ := Y
    have hmg : mg ("law" : PySem.Str) = some (.ref fa) := by
      have e : (HandSHeadRun.topDef (OpenLaw.row PySem.Challenge.rw_mazeguide_k05_mazes_checked).prog 24).name = ("law" : PySem.Str) := by kernel_rfl
      rw [← e]
      exact hmg0
    obtain ⟨fd, hb, hF⟩ := Mz.law_fn (P := (PySem.Challenge.rw_mazeguide_k05_mazes_checked).prog) (w := w) KX G hmg c
    exact ⟨K, fd, Mz.sp_law K, KX, hb, fun H a ns hl _ hS => ⟨a, ns, rfl, hS, hl, fun _ => rfl⟩, hF⟩
