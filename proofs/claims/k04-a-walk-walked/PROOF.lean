import PyProof.Rows.All
import Wide.All
import OpenK.AllK
import Wide.FinOn
import PyProof.EqAt
import PyProof.EqKinds
import PyProof.TupleCall
import KE.KStateDown
import HandS.ForMost
import HandS.ForExc
import HandS.Deep
import HandS.Conv
import HandS.TupAny
import HandS.IsInst
import HandS.ExcIs
import HandS.TryMany
import HandS.Defaults
import HandS.Head0
import HandS.Head1
import HandS.Head2
import HandS.HeadEnd
import HandS.HeadHook1
import HandS.HeadHook2
import HandS.Evl
import HandS.Text
import Lean
import PySem.Challenge.RW_mazeguide_k04_a_walk_walked
set_option Elab.async false
set_option linter.all false
set_option maxRecDepth 100000
set_option maxHeartbeats 4000000
namespace Mz
open PySem PySem.Spec PyProof.Rows L2

/-! ### a def that keeps its promise -/
/-- the def of the text at the module's name x -/
def Dfn (K : PySem.W.Frag) (mg : Str → Option Value) (x : Str) (st : Stmt) (ps : List Str) : Prop :=
  mg x = some (.ref (He.ga K x)) ∧ ∃ fd, FunD K x x (defArgs st) (defBody st) (defScope st) [] [] (He.ga K x) fd ∧ Binds K fd ps []
def Kept (P : Program) (w : World) (K : PySem.W.Frag) (mg : Str → Option Value) (base : Heap) (k : Nat) (x : Str) (ps : List Str) (sp : Sp) : Prop :=
  ∃ f fd, FnOk P w K mg base (L2.CX P w) k f fd ps sp ∧ mg x = some (.ref f) ∧ PySem.W.keepIn K (.ref f) = true ∧ Binds K fd ps []
section
variable {P : Program} {w : World} {K : PySem.W.Frag} {mg : Str → Option Value} {base : Heap}
theorem Dfn.kept {x : Str} {st : Stmt} {N ps : List Str} {k : Nat} {sp : Sp} (D : Dfn K mg x st ps) (S : FnScope N ps (defScope st)) (len : ∀ vs H Q E, sp vs H Q E → vs.length = ps.length)
    (hbody : ∀ (cdv : Value) (A : Around) (outer : List Env) (s : Shared) (H : Hp) (vs : List V) (Q : VK) (E : XK), Room k (A.deeper (envOfC x (defScope st) s.heap.objs.size (He.ga K x) cdv)) → sp vs H Q E →
      ∃ t, PSs (cxOf (L2.CX P w) P w K mg base N x (defScope st) (He.ga K x) cdv A outer s H E) (defBody st) t ∧ t { nx := fun _ H' => Q .non H', rt := Q } (start N vs) H) :
    Kept P w K mg base (k + 1) x ps sp := by
  obtain ⟨g, fd, F, b⟩ := D
  exact ⟨_, fd, F.ok S len hbody, g, F.kp, b⟩
end
section
variable {X : Cx} {k : Nat} {x : Str} {ps : List Str} {sp : Sp} {p pos : Pos} {e : Expr} {es : List Expr} {t : TA}
theorem pe_fn {E : XK} (F : Kept X.prog X.w X.K X.mg X.base k x ps sp) (hr : Room k X.A) (hx : Passes (L2.CX X.prog X.w) X E) (hg : Gl X x) (ha : PA X (e :: es) t)
    (hdb : (x == ("__debug__" : Str)) = false := by decide) (he : starEach (e :: es) X.env = (false, eval e X.env) :: starEach es X.env := by rfl) (hpl : (backTo pos (starEach es X.env)).any (·.1) = false := by rfl) :
    PE X (.Call (.Name x p) (e :: es) [] pos) (tCall sp [] E t) := by
  obtain ⟨f, fd, G, g, kp, b⟩ := F
  exact pe_call G hr hg g kp b .nil hx ha hdb he hpl
theorem pe_fnS {E : L2.St → XK} (F : Kept X.prog X.w X.K X.mg X.base k x ps sp) (hr : Room k X.A) (hx : ∀ st, PassesAt (L2.CX X.prog X.w) X st (E st)) (ha : PA X (e :: es) t) (hg : Gl X x := by rfl)
    (hdb : (x == ("__debug__" : Str)) = false := by decide) (he : starEach (e :: es) X.env = (false, eval e X.env) :: starEach es X.env := by rfl) (hpl : (backTo pos (starEach es X.env)).any (·.1) = false := by rfl) :
    PE X (.Call (.Name x p) (e :: es) [] pos) (tCallS sp E t) := by
  obtain ⟨f, fd, G, g, kp, b⟩ := F
  exact pe_callS G hr hg g kp b hx ha hdb he hpl
theorem passR {E : XK} (tk : L2.Takes X (fun cls d _ H => E cls d H)) : Passes (L2.CX X.prog X.w) X E := passes_call tk fun _ _ _ _ h => h
theorem takes0x : L2.Takes X (fun _ _ _ _ => False) := takes0
theorem pe_gint {i : Int} (h : ∃ tk, X.mg x = some (.int i tk)) (hg : Gl X x) (hd : (x == ("__debug__" : Str)) = false := by decide) : PE X (.Name x p) (tC (.int i)) := by
  obtain ⟨tk, h⟩ := h
  exact pe_glob hg h ⟨tk, rfl⟩ hd
theorem pe_gstr {z : Str} (h : ∃ tk, X.mg x = some (.str z tk)) (hg : Gl X x) (hd : (x == ("__debug__" : Str)) = false := by decide) : PE X (.Name x p) (tC (.str z)) := by
  obtain ⟨tk, h⟩ := h
  exact pe_glob hg h ⟨tk, rfl⟩ hd
theorem pe_gref {a : Addr} (h : X.mg x = some (.ref a)) (hg : Gl X x) (hd : (x == ("__debug__" : Str)) = false := by decide) : PE X (.Name x p) (tC (.ref a)) := pe_glob hg h rfl hd
end
theorem u65 {k : Nat} {A : Around} (hr : Room k A) : A.units + 65 < cLine := by have := hr.un; omega

/-! ### exception classes of the text -/
structure ExcT (K : PySem.W.Frag) (mg : Str → Option Value) (x : Str) : Prop where
  gC : mg x = some (.ref (He.ga K x))
  xC : PySem.W.excIn K (He.ga K x) [.type "ValueError", .type "Exception", .type "BaseException", .type "object"] "ValueError.__new__" = true
  kC : PySem.W.keepIn K (.ref (He.ga K x)) = true
  bC : PySem.W.subIn K (.ref (He.ga K x)) (.type "BaseException") = some true
  tC : PySem.W.typeIn K (.ref (He.ga K x)) = some (.type "type")
/-! ### the head's facts -/
inductive Fx where
  | fa (f : He.Fa)
  | excC (x : Str)
  | kit (x y : Str) (b : Bool)
  | kitT (x : Str) (n : String) (b : Bool)
def Fx.ok (K : PySem.W.Frag) : Fx → Bool
  | .fa f => f.ok K
  | .excC x => He.eqO (PySem.W.findIn K (.ref (He.ga K x)) "__getattribute__") (some (some (.builtin "BaseException.__getattribute__"))) && (He.eqO (PySem.W.findIn K (.ref (He.ga K x)) "__getattr__") (some none) && (decide (PySem.W.subIn K (.ref (He.ga K x)) (.type "BaseException") = some true) &&
      (PySem.W.hasDictIn K (He.ga K x) && (He.eqO (PySem.W.findIn K (.ref (He.ga K x)) "__class__") (some (some (.builtin "object.__class__"))) && (He.eqO (PySem.W.specialIn K (.builtin "object.__class__") "__get__") (some (some (.builtin "getset_descriptor.__get__"))) &&
        (decide (PySem.W.takesIn K (.builtin "object.__class__") = some true) && decide (PySem.W.mroIn K (He.ga K x) (.type "object") = some true)))))))
  | .kit x y b => decide (PySem.W.kitOne K (.ref (He.ga K x)) (.ref (He.ga K y)) = some b)
  | .kitT x n b => decide (PySem.W.kitOne K (.ref (He.ga K x)) (.type n) = some b)
theorem excC_ok {K : PySem.W.Frag} {x : Str} (c : (Fx.excC x).ok K = true) : ExcC K (He.ga K x) := by
  obtain ⟨h1, c⟩ := He.ba c
  obtain ⟨h2, c⟩ := He.ba c
  obtain ⟨h3, c⟩ := He.ba c
  obtain ⟨h4, c⟩ := He.ba c
  obtain ⟨h5, c⟩ := He.ba c
  obtain ⟨h6, c⟩ := He.ba c
  obtain ⟨h7, h8⟩ := He.ba c
  exact ⟨He.eqO_ok h1, He.eqO_ok h2, of_decide_eq_true h3, h4, He.eqO_ok h5, He.eqO_ok h6, of_decide_eq_true h7, of_decide_eq_true h8⟩
theorem excT_ok {K : PySem.W.Frag} {h : Heap} {mg : Str → Option Value} (X : K.In h) (G : h.Ns mainGlobals mg) {x : Str} (g : (He.Fa.glo x).ok K = true) (c : (He.Fa.exc x).ok K = true) : ExcT K mg x := by
  obtain ⟨h1, h2, h3, h4⟩ := He.exc_ok c
  exact ⟨He.glo_ok X G g, h1, h2, h3, h4⟩
def obsX (fa : List Fx) (fn : List He.DefD) (K : PySem.W.Frag) : He.AlD := ((fa.all fun f => f.ok K) && fn.all fun d => d.ok K, fn.map fun d => He.fnW K d.at_)
def SaysX (fa : List Fx) (fn : List He.DefD) (K : PySem.W.Frag) : Prop := obsX fa fn K = He.valD fn
def obsXG (n : Nat) (fa : List Fx) (fn : List He.DefD) (g : Addr → Option Obj) : He.AlD := obsX fa fn (He.frG g (He.asD g n))
def hookX (n : Nat) (fa : List Fx) (fn : List He.DefD) : PySem.W.Hook where
  α := He.AlD
  obs := fun s => obsXG n fa fn s.heap.get?
  val := fun _ => He.valD fn
  says := fun _ h => ∃ K : PySem.W.Frag, K.In h ∧ SaysX fa fn K
  of := fun _ _ e => ⟨_, He.frG_in, e⟩
  keeps := fun _ _ _ ⟨K, hK, c⟩ k => ⟨K, PySem.W.Frag.In.keeps hK k, c⟩
theorem obsXG_eq {n : Nat} {fa : List Fx} {fn : List He.DefD} {g : Addr → Option Obj} {s : Shared} (h : ∀ a, g a = s.heap.get? a) : obsXG n fa fn g = (hookX n fa fn).obs s := by
  have e : g = s.heap.get? := funext h
  rw [e]
  rfl
section
variable {fa : List Fx} {fn : List He.DefD} {K : PySem.W.Frag}
theorem SaysX.fact (c : SaysX fa fn K) (i : Nat) {f : Fx} (h : fa[i]? = some f := by rfl) : f.ok K = true := by
  have e : ((fa.all fun f => f.ok K) && fn.all fun d => d.ok K) = true := congrArg Prod.fst c
  have e1 := (He.ba e).1
  exact List.all_eq_true.mp e1 f (List.mem_of_getElem? h)
theorem SaysX.def_ (c : SaysX fa fn K) (i : Nat) {d : He.DefD} (h : fn[i]? = some d := by rfl) : ∃ fd, FunD K d.name d.qual d.params d.body d.scope (d.dvs K) (d.kws K) (He.fAd K d.at_) fd := by
  have e : ((fa.all fun f => f.ok K) && fn.all fun d => d.ok K) = true := congrArg Prod.fst c
  have e2 := List.all_eq_true.mp (He.ba e).2 d (List.mem_of_getElem? h)
  have e3 : (fn.map fun d => He.fnW K d.at_) = fn.map He.DefD.val := congrArg Prod.snd c
  have e4 : He.fnW K d.at_ = d.val := by
    have q := congrArg (fun l => l[i]?) e3
    simp only [List.getElem?_map, h, Option.map_some, Option.some.injEq] at q
    exact q
  exact He.DefD.funD e4 e2
theorem SaysX.dfn {mg : Str → Option Value} {h : Heap} (X : K.In h) (G : h.Ns mainGlobals mg) (c : SaysX fa fn K) {x : Str} {st : Stmt} {ps : List Str} (i j : Nat) (hd : fn[i]? = some ⟨(x, none), x, x, defArgs st, defBody st, defScope st, [], []⟩) (hj : fa[j]? = some (.fa (.glo x)))
    (hb : ∀ (kV doc pm : Value) (an : Option Addr) (cdv ct : Value) (us : List Value), us.length = ps.length → bindArgs (PySem.W.fnOf x x (defArgs st) (defBody st) (defScope st) .none kV doc pm an cdv ct) ⟨us, []⟩ = pure (ps.zip us)) : Dfn K mg x st ps := by
  obtain ⟨fd, F⟩ := c.def_ i hd
  exact ⟨He.glo_ok X G (c.fact j hj), fd, F, FunD.bindsN F hb⟩
end
/-- the law's end -/
theorem cx_end {P : Program} {w : World} (H : Hp) (s : Shared) (e : Value) (s' : Shared) (h : L2.CX P w [] H s (fun _ _ _ => False) e s') : False := by
  obtain ⟨_, _, _, _, _, _, _, _, _, _, _, _, z⟩ := h
  exact z
/-! ### a suite whose exception is of a class of the text -/
theorem pss_exc {X : Cx} {sts : List Stmt} {K : PySem.W.Frag} {cls : Value} {dd : Option Addr} {oe : Obj} {t : Addr → TS} (hz : Zc cls dd oe) (h : ∀ D, ExcC K D → Zc (.ref D) none oe → PSs X sts (t D)) :
    PSs X sts (fun Dn st H => ∃ D, (cls = .ref D ∧ dd = none ∧ ExcC K D) ∧ t D Dn st H) := ⟨fun pins s st H Dn I q => by
  obtain ⟨D, ⟨rfl, rfl, hx⟩, q⟩ := q
  exact (h D hx hz).run pins s st H Dn I q⟩
/-! ### xs.count(y), flat items -/
theorem countP_eqU {y : V} : ∀ {xs : List V} {us : List Value}, Vals xs us → xs.all flatV = true → us.countP (eqU y) = xs.countP fun z => eqV z y
  | _, _, .nil, _ => rfl
  | _, _, .cons r t, f => by
    simp only [List.all_cons, Bool.and_eq_true] at f
    rw [List.countP_cons, List.countP_cons, countP_eqU t f.2, eqU_of r f.1]
def rCntF (K : PySem.W.Frag) : V → List V → Hp → VK → Prop := fun x vs H Q => ∃ (p : Addr) (xs : List V) (y : V), x = .ref p ∧ vs = [y] ∧ SqL K H p xs ∧ flatV y = true ∧ xs.all flatV = true ∧ Q (.int (xs.countP (fun z => eqV z y) : Nat)) H
theorem mt_countF {X : Cx} : MtR X "list.count" (rCntF X.K) := by
  intro pins s st H x vs v us Q I rx rxs h
  obtain ⟨p, xs, y, rfl, rfl, hs, fy, fx, q⟩ := h
  cases rx
  obtain ⟨u, rfl, ru⟩ := rxs.one
  obtain ⟨its, rv, ⟨⟨cls, dd, data, sl⟩, n, ho, hc, hdn, hd⟩, hlen⟩ := I.list hs
  simp only at hc hd
  subst hc hd
  refine call_meets PySem.F.slot_list_count ⟨_, ho, rfl⟩ PySem.F.entry_list_count (PySem.F.args_list_count_2 _ _)
    (SeqAt.list_countAt p its.toArray n dd sl u (eqU y)) ⟨ho, fun z hz => mem_eqAt ru fy rv fx z (by simpa using hz), ?_⟩
  have ec : its.toArray.toList.countP (eqU y) = xs.countP fun z => eqV z y := countP_eqU rv fx
  refine ⟨.int (xs.countP (fun z => eqV z y) : Nat), H, I.tok _, ⟨s.toks, ?_⟩, q⟩
  show Value.int ((its.toArray.toList.countP (eqU y) : Nat) : Int) s.toks = Value.int ((xs.countP (fun z => eqV z y) : Nat) : Int) s.toks
  rw [ec]
theorem mt_countF_K {X : Cx} {K : PySem.W.Frag} (h : X.K = K) : MtR X "list.count" (rCntF K) := by subst h; exact mt_countF
/-! ### the same rules, the written part named (within a comprehension) -/
section
variable {X : Cx} {K : PySem.W.Frag}
theorem ix_list_K (h : X.K = K) : IxR X (rIxL K) := by subst h; exact ix_list
theorem ix_seq_K (h : X.K = K) : IxR X (rIx K) := by subst h; exact ix_seq
theorem sl_tupA_K (h : X.K = K) : SlR X (rSlA K) := by subst h; exact sl_tupA
theorem op_catA_K (h : X.K = K) : OpR X (binaryOp .Add) (rCatA K) := by subst h; exact op_catA
theorem cr_sorted_K (h : X.K = K) : CallR X (.builtin "sorted") (rSorted K) := by subst h; exact cr_sorted
theorem pi_list_K {tg l : Expr} {tl : TE} (h : X.K = K) (hl : PE X l tl) : PI X tg l (iList K tl) := by subst h; exact pi_list hl
theorem pi_tup_K {tg l : Expr} {tl : TE} (h : X.K = K) (hl : PE X l tl) : PI X tg l (iTup K tl) := by subst h; exact pi_tup hl
theorem pg_tup_K {es : List Expr} {k : Nat} {t : TGs} {n : Nat} {pos : Pos} (hK : X.K = K) (hc : X.calm = true) (h : PGs X es t) (hn : (assignEach es X.env).length = n := by rfl) (hst : (assignEach es X.env).findIdx? (·.1) = none := by rfl) : PG X (.Tuple es k pos) (gTup K n t) := by
  subst hK; exact pg_tup hc h hn hst
theorem pe_bm0_K {o : Expr} {to : TE} {name : Str} {apos cpos : Pos} {T id : String} {r : V → List V → Hp → VK → Prop} (hK : X.K = K) (pa : PlainAttrs T) (slot : Slot T name id) (hty : typeOf (.builtin id) = pure (.type "method_descriptor")) (hm : MtR X id r) (ho : PE X o to)
    (hbase : attributeBase o name X.env (eval o X.env) = eval o X.env := by rfl) (hline : (apos.endLine == cpos.line) = true := by rfl) : PE X (.Call (.Attribute o name apos) [] [] cpos) (tBM0 K T r to) := by
  subst hK; exact pe_bm0 pa slot hty hm ho hbase hline
theorem pe_bm_K {o e : Expr} {es : List Expr} {to : TE} {t : TA} {name : Str} {apos cpos : Pos} {T id : String} {r : V → List V → Hp → VK → Prop} (hK : X.K = K) (pa : PlainAttrs T) (slot : Slot T name id) (hty : typeOf (.builtin id) = pure (.type "method_descriptor")) (hm : MtR X id r) (ho : PE X o to) (ha : PA X (e :: es) t)
    (hbase : attributeBase o name X.env (eval o X.env) = eval o X.env := by rfl)
    (hfew : ((backTo cpos (starEach (e :: es) X.env)).all (fun x => !x.1) && (backToKw cpos (keywordEach [] X.env)).all (fun x => x.1.isSome) && decide ((e :: es).length + ([] : List Keyword).length + (if ([] : List Keyword).isEmpty then 0 else 1) < 30)) = true := by rfl)
    (hline : (apos.endLine == cpos.line) = true := by rfl) (hs : starEach (e :: es) X.env = (false, eval e X.env) :: starEach es X.env := by rfl) (hplain : (backTo cpos (starEach es X.env)).any (·.1) = false := by rfl) :
    PE X (.Call (.Attribute o name apos) (e :: es) [] cpos) (tBM K T r to t) := by
  subst hK; exact pe_bm pa slot hty hm ho ha hbase hfew hline hs hplain
theorem ix_tup_K (h : X.K = K) : IxR X (rIxT K) := by subst h; exact ix_tup
theorem sl_list_K (h : X.K = K) : SlR X (rSlL K) := by subst h; exact sl_list
theorem call_len_seq_K (h : X.K = K) : CallR X (.builtin "len") (fun xs H Q => ∃ p ys, xs = [.ref p] ∧ (SqL K H p ys ∨ SqT K H p ys) ∧ Q (.int ys.length) H) := by subst h; exact call_len_seq
theorem call_list_of_K (h : X.K = K) : CallR X (.type "list") (fun xs H Q => ∃ p ys, xs = [.ref p] ∧ (SqL K H p ys ∨ SqT K H p ys) ∧ ∀ l, H l = none → Q (.ref l) (upd H l (.lst ys))) := by subst h; exact call_list_of
theorem call_tuple_of_K (h : X.K = K) : CallR X (.type "tuple") (fun xs H Q => ∃ p ys, xs = [.ref p] ∧ ((SqL K H p ys ∧ ∀ l, H l = none → Q (.ref l) (upd H l (.tup ys))) ∨ (SqT K H p ys ∧ Q (.ref p) H))) := by subst h; exact call_tuple_of
theorem call_isi_K (h : X.K = K) : CallR X (.builtin "isinstance") (rIsi K) := by subst h; exact call_isi
theorem op_eqD_K (h : X.K = K) (hu : X.A.units + 64 < cLine) : OpR X (compareOp .Eq) (rEqD K) := by subst h; exact op_eqD hu
theorem op_neD_K (h : X.K = K) (hu : X.A.units + 64 < cLine) : OpR X (compareOp .NotEq) (rNeD K) := by subst h; exact op_neD hu
theorem op_inD_K (h : X.K = K) (hu : X.A.units + 65 < cLine) : OpR X (compareOp .In) (rInD K) := by subst h; exact op_inD hu
theorem op_notInD_K (h : X.K = K) (hu : X.A.units + 65 < cLine) : OpR X (compareOp .NotIn) (rNotInD K) := by subst h; exact op_notInD hu
theorem op_in_seq_K (h : X.K = K) : OpR X (compareOp .In) (rIn K false) := by subst h; exact op_in_seq
theorem op_notIn_seq_K (h : X.K = K) : OpR X (compareOp .NotIn) (rIn K true) := by subst h; exact op_notIn_seq
end
end Mz
namespace Mz
open PySem PySem.Spec PyProof.Rows L2 Evl

/-! ### data made of tuples alone: it stays while lists change -/
mutual
inductive Td (H : Hp) : V → PyData → Prop
  | non : Td H .non .none
  | bl (b : Bool) : Td H (.bl b) (.bool b)
  | int (i : Int) : Td H (.int i) (.int i)
  | str (x : Str) : Td H (.str x) (.str x)
  | tup {a : Addr} {xs : List V} {ds : List PyData} : H a = some (.tup xs) → TdAll H xs ds → Td H (.ref a) (.tuple ds)
inductive TdAll (H : Hp) : List V → List PyData → Prop
  | nil : TdAll H [] []
  | cons {v : V} {vs : List V} {d : PyData} {ds : List PyData} : Td H v d → TdAll H vs ds → TdAll H (v :: vs) (d :: ds)
end
section
variable {K : PySem.W.Frag} {H H' : Hp}
mutual
theorem Td.keep (k : ∀ b xs, H b = some (.tup xs) → H' b = some (.tup xs)) : ∀ {d : PyData} {v : V}, Td H v d → Td H' v d
  | .none, _, .non => .non
  | .bool _, _, .bl b => .bl b
  | .int _, _, .int i => .int i
  | .str _, _, .str x => .str x
  | .tuple ds, _, .tup h r => .tup (k _ _ h) (TdAll.keep k r)
theorem TdAll.keep (k : ∀ b xs, H b = some (.tup xs) → H' b = some (.tup xs)) : ∀ {ds : List PyData} {vs : List V}, TdAll H vs ds → TdAll H' vs ds
  | [], _, .nil => .nil
  | _ :: _, _, .cons h r => .cons (Td.keep k h) (TdAll.keep k r)
end
mutual
theorem Td.dp : ∀ {d : PyData} {v : V}, Td H v d → Dp K H v d
  | .none, _, .non => .non
  | .bool _, _, .bl b => .bl b
  | .int _, _, .int i => .int i
  | .str _, _, .str x => .str x
  | .tuple ds, _, .tup h r => .tup (SqT.of h) (TdAll.dp r)
theorem TdAll.dp : ∀ {ds : List PyData} {vs : List V}, TdAll H vs ds → DpAll K H vs ds
  | [], _, .nil => .nil
  | _ :: _, _, .cons h r => .cons (Td.dp h) (TdAll.dp r)
end
mutual
theorem dp_ex (e : Ex H H') : ∀ {d : PyData} {v : V}, Dp K H v d → Dp K H' v d
  | .none, _, .non => .non
  | .bool _, _, .bl b => .bl b
  | .int _, _, .int i => .int i
  | .str _, _, .str x => .str x
  | .list ds, _, .lst h r => .lst (ex_l e h) (dpAll_ex e r)
  | .tuple ds, _, .tup h r => .tup (ex_t e h) (dpAll_ex e r)
theorem dpAll_ex (e : Ex H H') : ∀ {ds : List PyData} {vs : List V}, DpAll K H vs ds → DpAll K H' vs ds
  | [], _, .nil => .nil
  | _ :: _, _, .cons h r => .cons (dp_ex e h) (dpAll_ex e r)
end
theorem Td.ex (e : Ex H H') {d : PyData} {v : V} (h : Td H v d) : Td H' v d := Td.keep (fun b xs q => e b _ q) h
theorem TdAll.ex (e : Ex H H') {ds : List PyData} {vs : List V} (h : TdAll H vs ds) : TdAll H' vs ds := TdAll.keep (fun b xs q => e b _ q) h
theorem upd_tups {l : Addr} {xs : List V} {o : HO} (h : H l = some (.lst xs)) : ∀ b ys, H b = some (.tup ys) → upd H l o b = some (.tup ys) := fun b ys q => by
  rw [upd_ne (ne_of q h (fun z => by cases z))]
  exact q
theorem Td.upd {l : Addr} {xs : List V} {o : HO} (h : H l = some (.lst xs)) {d : PyData} {v : V} (q : Td H v d) : Td (L2.upd H l o) v d := Td.keep (upd_tups h) q
theorem TdAll.upd {l : Addr} {xs : List V} {o : HO} (h : H l = some (.lst xs)) {ds : List PyData} {vs : List V} (q : TdAll H vs ds) : TdAll (L2.upd H l o) vs ds := TdAll.keep (upd_tups h) q
theorem TdAll.append {ds es : List PyData} : ∀ {vs us : List V}, TdAll H vs ds → TdAll H us es → TdAll H (vs ++ us) (ds ++ es) := by
  induction ds with
  | nil => intro vs us h q; cases h; exact q
  | cons d r ih => intro vs us h q; cases h with | cons a b => exact .cons a (ih b q)
theorem TdAll.len {ds : List PyData} : ∀ {vs : List V}, TdAll H vs ds → vs.length = ds.length := by
  induction ds with
  | nil => intro vs h; cases h; rfl
  | cons d r ih => intro vs h; cases h with | cons a b => simp [ih b]
theorem TdAll.get {ds : List PyData} : ∀ {vs : List V} {i : Nat} {d : PyData}, TdAll H vs ds → ds[i]? = some d → ∃ v, vs[i]? = some v ∧ Td H v d := by
  induction ds with
  | nil => intro vs i d h q; simp at q
  | cons d r ih =>
    intro vs i d' h q
    cases h with
    | cons a b =>
      cases i with
      | zero => simp at q; subst q; exact ⟨_, rfl, a⟩
      | succ i => simp at q; obtain ⟨v, e, t⟩ := ih b q; exact ⟨v, by simpa using e, t⟩
theorem TdAll.getV {ds : List PyData} : ∀ {vs : List V} {i : Nat} {v : V}, TdAll H vs ds → vs[i]? = some v → ∃ d, ds[i]? = some d ∧ Td H v d := by
  induction ds with
  | nil => intro vs i d h q; cases h; simp at q
  | cons d r ih =>
    intro vs i d' h q
    cases h with
    | cons a b =>
      cases i with
      | zero => simp at q; subst q; exact ⟨_, rfl, a⟩
      | succ i => simp at q; obtain ⟨v, e, t⟩ := ih b q; exact ⟨v, by simpa using e, t⟩
theorem dpAll_len {ds : List PyData} : ∀ {vs : List V}, DpAll K H vs ds → vs.length = ds.length := by
  induction ds with
  | nil => intro vs h; cases h; rfl
  | cons d r ih => intro vs h; cases h with | cons a b => simp [ih b]
theorem dpAll_getV {ds : List PyData} : ∀ {vs : List V} {i : Nat} {v : V}, DpAll K H vs ds → vs[i]? = some v → ∃ d, ds[i]? = some d ∧ Dp K H v d := by
  induction ds with
  | nil => intro vs i d h q; cases h; simp at q
  | cons d r ih =>
    intro vs i d' h q
    cases h with
    | cons a b =>
      cases i with
      | zero => simp at q; subst q; exact ⟨_, rfl, a⟩
      | succ i => simp at q; obtain ⟨v, e, t⟩ := ih b q; exact ⟨v, by simpa using e, t⟩
theorem dpAll_get {ds : List PyData} : ∀ {vs : List V} {i : Nat} {d : PyData}, DpAll K H vs ds → ds[i]? = some d → ∃ v, vs[i]? = some v ∧ Dp K H v d := by
  induction ds with
  | nil => intro vs i d h q; simp at q
  | cons d r ih =>
    intro vs i d' h q
    cases h with
    | cons a b =>
      cases i with
      | zero => simp at q; subst q; exact ⟨_, rfl, a⟩
      | succ i => simp at q; obtain ⟨v, e, t⟩ := ih b q; exact ⟨v, by simpa using e, t⟩
theorem dpAll_append {ds es : List PyData} : ∀ {vs us : List V}, DpAll K H vs ds → DpAll K H us es → DpAll K H (vs ++ us) (ds ++ es) := by
  induction ds with
  | nil => intro vs us h q; cases h; exact q
  | cons d r ih => intro vs us h q; cases h with | cons a b => exact .cons a (ih b q)
/-- ints -/
theorem td_ints : ∀ ns : List Int, TdAll H (ns.map V.int) (ns.map PyData.int)
  | [] => .nil
  | n :: r => .cons (.int n) (td_ints r)
theorem td_int_inv {v : V} {i : Int} (h : Td H v (.int i)) : v = .int i := by cases h; rfl
theorem dp_int_inv {v : V} {i : Int} (h : Dp K H v (.int i)) : v = .int i := by cases h; rfl
theorem dpAll_ints : ∀ {ns : List Int} {vs : List V}, DpAll K H vs (ns.map PyData.int) → vs = ns.map V.int
  | [], _, .nil => rfl
  | n :: r, _, .cons h q => by rw [dp_int_inv h, dpAll_ints q]; rfl
theorem tdAll_ints : ∀ {ns : List Int} {vs : List V}, TdAll H vs (ns.map PyData.int) → vs = ns.map V.int
  | [], _, .nil => rfl
  | n :: r, _, .cons h q => by rw [td_int_inv h, tdAll_ints q]; rfl
/-- a list that stands, of such data -/
def LstT (H : Hp) (p : Addr) (ds : List PyData) : Prop := ∃ xs, H p = some (.lst xs) ∧ TdAll H xs ds
theorem LstT.ex (e : Ex H H') {p : Addr} {ds : List PyData} (h : LstT H p ds) : LstT H' p ds := by
  obtain ⟨xs, a, b⟩ := h
  exact ⟨xs, e _ _ a, b.ex e⟩
theorem LstT.dp {p : Addr} {ds : List PyData} (h : LstT H p ds) : Dp K H (.ref p) (.list ds) := by
  obtain ⟨xs, a, b⟩ := h
  exact .lst (SqL.of a) b.dp
theorem LstT.push {p : Addr} {ds : List PyData} {d : PyData} {v : V} {xs : List V} (h : H p = some (.lst xs)) (b : TdAll H xs ds) (t : Td H v d) : LstT (L2.upd H p (.lst (xs ++ [v]))) p (ds ++ [d]) :=
  ⟨_, upd_same, TdAll.append (b.upd h) (.cons (t.upd h) .nil)⟩
end

theorem at0 {ds : List PyData} {d : PyData} {j : Nat} (h : ds[j]? = some d := by rfl) : atI ds (j : Int) = some d := atI_nat h
theorem atI0 {d : PyData} {r : List PyData} : atI (d :: r) 0 = some d := at0 (j := 0)
theorem atI1 {a d : PyData} {r : List PyData} : atI (a :: d :: r) 1 = some d := at0 (j := 1)
theorem atI2 {a b d : PyData} {r : List PyData} : atI (a :: b :: d :: r) 2 = some d := at0 (j := 2)
/-! ### what evaluates to data -/
def EvP (te : TE) (σ : L2.St) (H : Hp) (P : V → Hp → Prop) : Prop := ∀ H1, Ex H H1 → ∀ Q : VK, (∀ v H2, Ex H1 H2 → P v H2 → Q v H2) → te σ H1 Q
def EaP (ta : TA) (σ : L2.St) (H : Hp) (P : List V → Hp → Prop) : Prop := ∀ H1, Ex H H1 → ∀ Q : List V → Hp → Prop, (∀ v H2, Ex H1 H2 → P v H2 → Q v H2) → ta σ H1 Q
abbrev EvD (K : PySem.W.Frag) (te : TE) (σ : L2.St) (H : Hp) (d : PyData) : Prop := EvP te σ H fun v H' => Dp K H' v d
abbrev EvTd (te : TE) (σ : L2.St) (H : Hp) (d : PyData) : Prop := EvP te σ H fun v H' => Td H' v d
abbrev EaTd (ta : TA) (σ : L2.St) (H : Hp) (ds : List PyData) : Prop := EaP ta σ H fun vs H' => TdAll H' vs ds
abbrev EaD (K : PySem.W.Frag) (ta : TA) (σ : L2.St) (H : Hp) (ds : List PyData) : Prop := EaP ta σ H fun vs H' => DpAll K H' vs ds
/-- a new list of such data -/
def EvLT (te : TE) (σ : L2.St) (H : Hp) (ds : List PyData) : Prop := ∀ H1, Ex H H1 → ∀ Q : VK, (∀ p H2, H1 p = none → Ex H1 H2 → LstT H2 p ds → Q (.ref p) H2) → te σ H1 Q
section
variable {K : PySem.W.Frag} {σ : L2.St} {H H' : Hp} {ta tb te tx : TE} {t u : TT} {x y z v : V} {r : R2} {tr : TA} {D : Ends} {tu tw tz : TS} {P P' : V → Hp → Prop} {d : PyData} {ds : List PyData}
theorem EvP.mono (e : Ex H H') (h : EvP te σ H P) : EvP te σ H' P := fun H1 e1 => h H1 (e.trans e1)
theorem EvLT.mono (e : Ex H H') (h : EvLT te σ H ds) : EvLT te σ H' ds := fun H1 e1 => h H1 (e.trans e1)
theorem EvP.imp (h : EvP te σ H P) (k : ∀ v H2, Ex H H2 → P v H2 → P' v H2) : EvP te σ H P' := fun H1 e Q q => h H1 e Q fun v H2 e2 p => q v H2 e2 (k v H2 (e.trans e2) p)
theorem ep_ev (h : Ev te σ H v) (k : ∀ H2, Ex H H2 → P v H2) : EvP te σ H P := fun H1 e Q q => h H1 e Q fun H2 e2 => q v H2 e2 (k H2 (e.trans e2))
theorem td_int {i : Int} (h : Ev te σ H (.int i)) : EvTd te σ H (.int i) := ep_ev h fun _ _ => .int i
theorem td_non (h : Ev te σ H .non) : EvTd te σ H .none := ep_ev h fun _ _ => .non
theorem td_bl {b : Bool} (h : Ev te σ H (.bl b)) : EvTd te σ H (.bool b) := ep_ev h fun _ _ => .bl b
theorem td_str {b : Str} (h : Ev te σ H (.str b)) : EvTd te σ H (.str b) := ep_ev h fun _ _ => .str b
theorem td_any (h : Ev te σ H v) (t : Td H v d) : EvTd te σ H d := ep_ev h fun _ e => t.ex e
theorem ed_any (h : Ev te σ H v) (t : Dp K H v d) : EvD K te σ H d := ep_ev h fun _ e => dp_ex e t
theorem ed_td (h : EvTd te σ H d) : EvD K te σ H d := h.imp fun _ _ _ t => t.dp
theorem ev_of_td {i : Int} (h : EvTd te σ H (.int i)) : Ev te σ H (.int i) := fun H1 e Q q => h H1 e Q fun v H2 e2 p => by rw [td_int_inv p]; exact q H2 e2
theorem ev_of_ed {i : Int} (h : EvD K te σ H (.int i)) : Ev te σ H (.int i) := fun H1 e Q q => h H1 e Q fun v H2 e2 p => by rw [dp_int_inv p]; exact q H2 e2
theorem ed_lt (h : EvLT te σ H ds) : EvD K te σ H (.list ds) := fun H1 e Q q => h H1 e Q fun p H2 _ e2 l => q _ H2 e2 l.dp
theorem ea_tn : EaTd tNil σ H [] := fun H1 e Q q => q [] H1 (Ex.refl H1) .nil
theorem ea_tc (h : EvTd te σ H d) (hr : EaTd tr σ H ds) : EaTd (tCons te tr) σ H (d :: ds) := fun H1 e Q q => h H1 e _ fun v H2 e2 p => hr H2 (e.trans e2) _ fun vs H3 e3 ps => q _ H3 (e2.trans e3) (.cons (p.ex e3) ps)
theorem ea_dn : EaD K tNil σ H [] := fun H1 e Q q => q [] H1 (Ex.refl H1) .nil
theorem ea_dc (h : EvD K te σ H d) (hr : EaD K tr σ H ds) : EaD K (tCons te tr) σ H (d :: ds) := fun H1 e Q q => h H1 e _ fun v H2 e2 p => hr H2 (e.trans e2) _ fun vs H3 e3 ps => q _ H3 (e2.trans e3) (.cons (dp_ex e3 p) ps)
theorem td_tup (h : EaTd tr σ H ds) (hl : ds.length ≤ 100000) : EvTd (tTup tr) σ H (.tuple ds) := fun H1 e Q q => h H1 e _ fun vs H2 e2 p => ⟨sz_of (by rw [p.len]; exact hl), fun a na => q _ _ (e2.trans (Ex.new na)) (.tup upd_same (p.ex (Ex.new na)))⟩
theorem ed_tup (h : EaD K tr σ H ds) (hl : ds.length ≤ 100000) : EvD K (tTup tr) σ H (.tuple ds) := fun H1 e Q q => h H1 e _ fun vs H2 e2 p => ⟨sz_of (by rw [dpAll_len p]; exact hl), fun a na => q _ _ (e2.trans (Ex.new na)) (.tup (SqT.of upd_same) (dpAll_ex (Ex.new na) p))⟩
theorem lt_lst (h : EaTd tr σ H ds) (hl : ds.length ≤ 100000) : EvLT (tLst tr) σ H ds := fun H1 e Q q => h H1 e _ fun vs H2 e2 p => ⟨sz_of (by rw [p.len]; exact hl), fun a na => q _ _ (fresh_back e2 na) (e2.trans (Ex.new na)) ⟨vs, upd_same, p.ex (Ex.new na)⟩⟩
theorem ed_lst (h : EaD K tr σ H ds) (hl : ds.length ≤ 100000) : EvD K (tLst tr) σ H (.list ds) := fun H1 e Q q => h H1 e _ fun vs H2 e2 p => ⟨sz_of (by rw [dpAll_len p]; exact hl), fun a na => q _ _ (e2.trans (Ex.new na)) (.lst (SqL.of upd_same) (dpAll_ex (Ex.new na) p))⟩
/-! ### items -/
theorem td_ixT {i : Int} (ha : EvTd ta σ H (.tuple ds)) (hb : Ev tb σ H (.int i)) (h : atI ds i = some d) : EvTd (tOp (rIxT K) ta tb) σ H d := fun H1 e Q q => ha H1 e _ fun v H2 e2 p => hb H2 (e.trans e2) _ fun H3 e3 => by
  cases p with
  | tup ho hd =>
    rename_i xs
    obtain ⟨j, h1, h2, h3, _⟩ := atI_get h
    obtain ⟨w, h4, h5⟩ := hd.get h2
    refine ⟨_, xs, i, w, rfl, rfl, SqT.of (e3 _ _ ho), ?_, q w H3 (e2.trans e3) (h5.ex e3)⟩
    have : atI xs i = some w := by
      unfold atI at h ⊢
      rw [hd.len]
      cases e5 : ixN ds.length i with
      | none => rw [e5] at h; cases h
      | some k =>
        have hk := (ixN_seq e5).1
        rw [hk] at h1
        cases h1
        exact h4
    exact this
theorem ed_ixT {i : Int} (ha : EvD K ta σ H (.tuple ds)) (hb : Ev tb σ H (.int i)) (h : atI ds i = some d) : EvD K (tOp (rIxT K) ta tb) σ H d := fun H1 e Q q => ha H1 e _ fun v H2 e2 p => hb H2 (e.trans e2) _ fun H3 e3 => by
  cases p with
  | tup ho hd =>
    rename_i xs
    obtain ⟨j, h1, h2, h3, _⟩ := atI_get h
    obtain ⟨w, h4, h5⟩ := dpAll_get hd h2
    refine ⟨_, xs, i, w, rfl, rfl, ex_t e3 ho, ?_, q w H3 (e2.trans e3) (dp_ex e3 h5)⟩
    have : atI xs i = some w := by
      unfold atI at h ⊢
      rw [dpAll_len hd]
      cases e5 : ixN ds.length i with
      | none => rw [e5] at h; cases h
      | some k =>
        have hk := (ixN_seq e5).1
        rw [hk] at h1
        cases h1
        exact h4
    exact this
theorem ed_ixL {i : Int} (ha : EvD K ta σ H (.list ds)) (hb : Ev tb σ H (.int i)) (h : atI ds i = some d) : EvD K (tOp (rIxL K) ta tb) σ H d := fun H1 e Q q => ha H1 e _ fun v H2 e2 p => hb H2 (e.trans e2) _ fun H3 e3 => by
  cases p with
  | lst ho hd =>
    rename_i xs
    obtain ⟨j, h1, h2, h3, _⟩ := atI_get h
    obtain ⟨w, h4, h5⟩ := dpAll_get hd h2
    refine ⟨_, xs, i, w, rfl, rfl, ex_l e3 ho, ?_, q w H3 (e2.trans e3) (dp_ex e3 h5)⟩
    have : atI xs i = some w := by
      unfold atI at h ⊢
      rw [dpAll_len hd]
      cases e5 : ixN ds.length i with
      | none => rw [e5] at h; cases h
      | some k =>
        have hk := (ixN_seq e5).1
        rw [hk] at h1
        cases h1
        exact h4
    exact this
theorem td_ixL {i : Int} (ha : EvLT ta σ H ds) (hb : Ev tb σ H (.int i)) (h : atI ds i = some d) : EvTd (tOp (rIxL K) ta tb) σ H d := fun H1 e Q q => ha H1 e _ fun pp H2 _ e2 p => hb H2 (e.trans e2) _ fun H3 e3 => by
  obtain ⟨xs, ho, hd⟩ := p
  obtain ⟨j, h1, h2, h3, _⟩ := atI_get h
  obtain ⟨w, h4, h5⟩ := hd.get h2
  refine ⟨_, xs, i, w, rfl, rfl, SqL.of (e3 _ _ ho), ?_, q w H3 (e2.trans e3) (h5.ex e3)⟩
  have : atI xs i = some w := by
    unfold atI at h ⊢
    rw [hd.len]
    cases e5 : ixN ds.length i with
    | none => rw [e5] at h; cases h
    | some k =>
      have hk := (ixN_seq e5).1
      rw [hk] at h1
      cases h1
      exact h4
  exact this
/-! ### == and in, of data -/
theorem ev_eqD {e : PyData} (ha : EvD K ta σ H d) (hb : EvD K tb σ H e) (h1 : SeqAt.shaped d = true) (h2 : SeqAt.shaped e = true) : Ev (tOp (rEqD K) ta tb) σ H (.bl (PyData.eqv d e)) := fun H1 x Q q => ha H1 x _ fun v H2 x2 p => hb H2 (x.trans x2) _ fun w H3 x3 p2 => ⟨d, e, dp_ex x3 p, p2, h1, h2, q H3 (x2.trans x3)⟩
theorem ev_neD {e : PyData} (ha : EvD K ta σ H d) (hb : EvD K tb σ H e) (h1 : SeqAt.shaped d = true) (h2 : SeqAt.shaped e = true) : Ev (tOp (rNeD K) ta tb) σ H (.bl (!PyData.eqv d e)) := fun H1 x Q q => ha H1 x _ fun v H2 x2 p => hb H2 (x.trans x2) _ fun w H3 x3 p2 => ⟨d, e, dp_ex x3 p, p2, h1, h2, q H3 (x2.trans x3)⟩
theorem ev_inD {es : List PyData} (ha : EvD K ta σ H d) (hb : EvD K tb σ H (.list es)) (h1 : SeqAt.shaped d = true) (h2 : SeqAt.shaped (.list es) = true) : Ev (tOp (rInD K) ta tb) σ H (.bl (es.any fun z => PyData.eqv z d)) := fun H1 x Q q => ha H1 x _ fun v H2 x2 p => hb H2 (x.trans x2) _ fun w H3 x3 p2 => ⟨d, es, dp_ex x3 p, p2, h1, h2, q H3 (x2.trans x3)⟩
theorem ev_niD {es : List PyData} (ha : EvD K ta σ H d) (hb : EvD K tb σ H (.list es)) (h1 : SeqAt.shaped d = true) (h2 : SeqAt.shaped (.list es) = true) : Ev (tOp (rNotInD K) ta tb) σ H (.bl (!es.any fun z => PyData.eqv z d)) := fun H1 x Q q => ha H1 x _ fun v H2 x2 p => hb H2 (x.trans x2) _ fun w H3 x3 p2 => ⟨d, es, dp_ex x3 p, p2, h1, h2, q H3 (x2.trans x3)⟩
/-- an int in a tuple or list of ints -/
theorem inV_int (i : Int) : ∀ ns : List Int, inV (.int i) (ns.map V.int) = decide (i ∈ ns)
  | [] => by simp [inV]
  | n :: r => by
    have h := inV_int i r
    have e0 : inV (.int i) ((n :: r).map V.int) = ((n == i) || inV (.int i) (r.map V.int)) := rfl
    rw [e0, h]
    by_cases e : n = i
    · subst e; simp
    · have e2 : (n == i) = false := beq_false_of_ne e
      have e3 : ¬ i = n := fun z => e z.symm
      simp [e2, e3]
theorem flat_ints : ∀ ns : List Int, (ns.map V.int).all flatV = true
  | [] => rfl
  | _ :: r => by simp [flatV, flat_ints r]
theorem ev_inI {i : Int} {ns : List Int} (ha : Ev ta σ H (.int i)) (hb : EvD K tb σ H (.tuple (ns.map PyData.int)) ∨ EvD K tb σ H (.list (ns.map PyData.int))) : Ev (tOp (rIn K false) ta tb) σ H (.bl (decide (i ∈ ns))) := fun H1 x Q q => ha H1 x _ fun H2 x2 => by
  rcases hb with hb | hb
  · refine hb H2 (x.trans x2) _ fun w H3 x3 p2 => ?_
    cases p2 with
    | tup ho hd =>
      rename_i xs
      have e := dpAll_ints hd
      subst e
      refine ⟨_, _, rfl, .inr ho, rfl, flat_ints ns, ?_⟩
      show Q (.bl (inV (.int i) (ns.map V.int))) H3
      rw [inV_int]
      exact q H3 (x2.trans x3)
  · refine hb H2 (x.trans x2) _ fun w H3 x3 p2 => ?_
    cases p2 with
    | lst ho hd =>
      rename_i xs
      have e := dpAll_ints hd
      subst e
      refine ⟨_, _, rfl, .inl ho, rfl, flat_ints ns, ?_⟩
      show Q (.bl (inV (.int i) (ns.map V.int))) H3
      rw [inV_int]
      exact q H3 (x2.trans x3)
theorem ev_niI {i : Int} {ns : List Int} (ha : Ev ta σ H (.int i)) (hb : EvD K tb σ H (.tuple (ns.map PyData.int)) ∨ EvD K tb σ H (.list (ns.map PyData.int))) : Ev (tOp (rIn K true) ta tb) σ H (.bl (!decide (i ∈ ns))) := fun H1 x Q q => ha H1 x _ fun H2 x2 => by
  rcases hb with hb | hb
  · refine hb H2 (x.trans x2) _ fun w H3 x3 p2 => ?_
    cases p2 with
    | tup ho hd =>
      rename_i xs
      have e := dpAll_ints hd
      subst e
      refine ⟨_, _, rfl, .inr ho, rfl, flat_ints ns, ?_⟩
      show Q (.bl (!inV (.int i) (ns.map V.int))) H3
      rw [inV_int]
      exact q H3 (x2.trans x3)
  · refine hb H2 (x.trans x2) _ fun w H3 x3 p2 => ?_
    cases p2 with
    | lst ho hd =>
      rename_i xs
      have e := dpAll_ints hd
      subst e
      refine ⟨_, _, rfl, .inl ho, rfl, flat_ints ns, ?_⟩
      show Q (.bl (!inV (.int i) (ns.map V.int))) H3
      rw [inV_int]
      exact q H3 (x2.trans x3)
/-! ### built-ins -/
theorem ev_lenD (ha : EvD K ta σ H d) (h : d = .list ds ∨ d = .tuple ds) : Ev (tCB (fun xs H Q => ∃ p ys, xs = [.ref p] ∧ (SqL K H p ys ∨ SqT K H p ys) ∧ Q (.int ys.length) H) (tCons ta tNil)) σ H (.int (ds.length : Int)) := fun H1 x Q q => ha H1 x _ fun v H2 x2 p => by
  rcases h with rfl | rfl
  · cases p with
    | lst ho hd =>
      rename_i a xs
      refine ⟨a, xs, rfl, .inl ho, ?_⟩
      rw [dpAll_len hd]
      exact q H2 x2
  · cases p with
    | tup ho hd =>
      rename_i a xs
      refine ⟨a, xs, rfl, .inr ho, ?_⟩
      rw [dpAll_len hd]
      exact q H2 x2
theorem ev_lenS {a : Addr} {xs : List V} (ha : Ev ta σ H (.ref a)) (h : SqL K H a xs) : Ev (tCB (fun xs H Q => ∃ p ys, xs = [.ref p] ∧ (SqL K H p ys ∨ SqT K H p ys) ∧ Q (.int ys.length) H) (tCons ta tNil)) σ H (.int (xs.length : Int)) := fun H1 x Q q => ha H1 x _ fun H2 x2 => ⟨a, xs, rfl, .inl (ex_l (x.trans x2) h), q H2 x2⟩
/-- tuple(x) of data without lists -/
theorem td_tupleL (ha : EvLT ta σ H ds) : EvTd (tCB (fun xs H Q => ∃ p ys, xs = [.ref p] ∧ ((SqL K H p ys ∧ ∀ l, H l = none → Q (.ref l) (upd H l (.tup ys))) ∨ (SqT K H p ys ∧ Q (.ref p) H))) (tCons ta tNil)) σ H (.tuple ds) := fun H1 x Q q => ha H1 x _ fun p H2 _ x2 ⟨xs, ho, hd⟩ =>
  ⟨p, xs, rfl, .inl ⟨SqL.of ho, fun l hl => q _ _ (x2.trans (Ex.new hl)) (.tup upd_same (hd.ex (Ex.new hl)))⟩⟩
theorem td_tupleV {a : Addr} (ha : Ev ta σ H (.ref a)) (h : LstT H a ds) : EvTd (tCB (fun xs H Q => ∃ p ys, xs = [.ref p] ∧ ((SqL K H p ys ∧ ∀ l, H l = none → Q (.ref l) (upd H l (.tup ys))) ∨ (SqT K H p ys ∧ Q (.ref p) H))) (tCons ta tNil)) σ H (.tuple ds) := fun H1 x Q q => ha H1 x _ fun H2 x2 => by
  obtain ⟨xs, ho, hd⟩ := h.ex (x.trans x2)
  exact ⟨a, xs, rfl, .inl ⟨SqL.of ho, fun l hl => q _ _ (x2.trans (Ex.new hl)) (.tup upd_same (hd.ex (Ex.new hl)))⟩⟩
theorem lt_list {a : Addr} (ha : Ev ta σ H (.ref a)) (h : LstT H a ds) : EvLT (tCB (fun xs H Q => ∃ p ys, xs = [.ref p] ∧ (SqL K H p ys ∨ SqT K H p ys) ∧ ∀ l, H l = none → Q (.ref l) (upd H l (.lst ys))) (tCons ta tNil)) σ H ds := fun H1 x Q q => ha H1 x _ fun H2 x2 => by
  obtain ⟨xs, ho, hd⟩ := h.ex (x.trans x2)
  exact ⟨a, xs, rfl, .inl (SqL.of ho), fun l hl => q _ _ (fresh_back x2 hl) (x2.trans (Ex.new hl)) ⟨xs, upd_same, hd.ex (Ex.new hl)⟩⟩
theorem ev_abs {i : Int} (ha : Ev ta σ H (.int i)) : Ev (tCB (fun xs H Q => ∃ i, xs = [.int i] ∧ Q (.int (if i < 0 then -i else i)) H) (tCons ta tNil)) σ H (.int (if i < 0 then -i else i)) := fun H1 x Q q => ha H1 x _ fun H2 x2 => ⟨i, rfl, q H2 x2⟩
theorem ev_isN (ha : Ev ta σ H x) : Ev (tOp (fun x y H Q => y = .non ∧ Q (.bl (decide (x = .non))) H) ta (tC .non)) σ H (.bl (decide (x = .non))) := fun H1 e Q q => ha H1 e _ fun H2 e2 => ⟨rfl, q H2 e2⟩
theorem ev_notN (ha : Ev ta σ H x) : Ev (tOp (fun x y H Q => y = .non ∧ Q (.bl (!decide (x = .non))) H) ta (tC .non)) σ H (.bl (!decide (x = .non))) := fun H1 e Q q => ha H1 e _ fun H2 e2 => ⟨rfl, q H2 e2⟩
theorem rv_isN : RV (fun x y H Q => y = .non ∧ Q (.bl (decide (x = .non))) H) x .non H (.bl (decide (x = .non))) := fun H1 e Q q => ⟨rfl, q H1 (Ex.refl H1)⟩
theorem rv_notN : RV (fun x y H Q => y = .non ∧ Q (.bl (!decide (x = .non))) H) x .non H (.bl (!decide (x = .non))) := fun H1 e Q q => ⟨rfl, q H1 (Ex.refl H1)⟩
theorem rv_eqI {i j : Int} : RV rEq (.int i) (.int j) H (.bl (decide (i = j))) := fun H1 e Q q => ⟨rfl, by
  have e2 : decide (V.int i = V.int j) = decide (i = j) := by simp
  rw [e2]
  exact q H1 (Ex.refl H1)⟩
theorem rv_neI {i j : Int} : RV rNe (.int i) (.int j) H (.bl (!decide (i = j))) := fun H1 e Q q => ⟨rfl, by
  have e2 : decide (V.int i = V.int j) = decide (i = j) := by simp
  rw [e2]
  exact q H1 (Ex.refl H1)⟩
/-! ### calls -/
theorem ta_cons {Q : List V → Hp → Prop} (h : ta σ H fun x H1 => tr σ H1 fun xs H2 => Q (x :: xs) H2) : tCons ta tr σ H Q := h
theorem ep_call {sp : Sp} {dvs : List V} {E : XK} {tr : TA} {Pa : List V → Hp → Prop} (h : EaP tr σ H Pa) (hs : ∀ vs H1, Ex H H1 → Pa vs H1 → ∀ Q : VK, (∀ v H2, Ex H1 H2 → P v H2 → Q v H2) → sp (vs ++ dvs) H1 Q E) : EvP (tCall sp dvs E tr) σ H P := fun H1 e Q q => h H1 e _ fun vs H2 e2 p => hs vs H2 (e.trans e2) p Q fun v H3 e3 p3 => q v H3 (e2.trans e3) p3
theorem ev_call0 {sp : Sp} {vs : List V} {E : XK} {tr : TA} (h : EvA tr σ H vs) (hs : SpV sp vs H z) : Ev (tCall sp [] E tr) σ H z := ev_call h (by rw [List.append_nil]; exact hs)
theorem ep_call0 {sp : Sp} {E : XK} {tr : TA} {Pa : List V → Hp → Prop} (h : EaP tr σ H Pa) (hs : ∀ vs H1, Ex H H1 → Pa vs H1 → ∀ Q : VK, (∀ v H2, Ex H1 H2 → P v H2 → Q v H2) → sp vs H1 Q E) : EvP (tCall sp [] E tr) σ H P :=
  ep_call h fun vs H1 e p Q q => by rw [List.append_nil]; exact hs vs H1 e p Q q
theorem ea_ep1 (h : EvP te σ H P) : EaP (tCons te tNil) σ H (fun vs H' => ∃ v, vs = [v] ∧ P v H') := fun H1 e Q q => h H1 e _ fun v H2 e2 p => q [v] H2 e2 ⟨v, rfl, p⟩
/-! ### statements -/
theorem tif_cases {b : Bool} (h : EvT t σ H b) (h1 : b = true → ∀ H1, Ex H H1 → tu D σ H1) (h2 : b = false → ∀ H1, Ex H H1 → tw D σ H1) : tIfS t tu tw D σ H := s_if h h1 h2
theorem s_asgP {i : Nat} (h : EvP te σ H P) (k : ∀ v H1, Ex H H1 → P v H1 → D.nx (σ.set i (some v)) H1) : tAsg te (gName i) D σ H := h H (Ex.refl H) _ fun v H1 e p => k v H1 e p
theorem q_asgP {i : Nat} (h : EvP te σ H P) (k : ∀ v H1, Ex H H1 → P v H1 → tz D (σ.set i (some v)) H1) : tSeq (tAsg te (gName i)) tz D σ H := h H (Ex.refl H) _ fun v H1 e p => k v H1 e p
theorem s_asgLT {i : Nat} (h : EvLT te σ H ds) (k : ∀ p H1, H p = none → Ex H H1 → LstT H1 p ds → D.nx (σ.set i (some (.ref p))) H1) : tAsg te (gName i) D σ H := h H (Ex.refl H) _ fun v H1 n e p => k v H1 n e p
theorem q_asgLT {i : Nat} (h : EvLT te σ H ds) (k : ∀ p H1, H p = none → Ex H H1 → LstT H1 p ds → tz D (σ.set i (some (.ref p))) H1) : tSeq (tAsg te (gName i)) tz D σ H := h H (Ex.refl H) _ fun v H1 n e p => k v H1 n e p
theorem s_retP (h : EvP te σ H P) (k : ∀ v H1, Ex H H1 → P v H1 → D.rt v H1) : tRet te D σ H := h H (Ex.refl H) _ fun v H1 e p => k v H1 e p
theorem s_retLT (h : EvLT te σ H ds) (k : ∀ p H1, H p = none → Ex H H1 → LstT H1 p ds → D.rt (.ref p) H1) : tRet te D σ H := h H (Ex.refl H) _ fun v H1 n e p => k v H1 n e p
theorem s_appT {l : Addr} (hl : LstT H l ds) (ha : Ev ta σ H (.ref l)) (h : EvTd te σ H d) (hz : ds.length < 100000) (k : ∀ H1 xs v, Ex H H1 → H1 l = some (.lst xs) → LstT (upd H1 l (.lst (xs ++ [v]))) l (ds ++ [d]) → D.nx σ (upd H1 l (.lst (xs ++ [v])))) :
    tDrop (tBM K "list" rAppend ta (tCons te tNil)) D σ H := by
  obtain ⟨xs, ho, hd⟩ := hl
  refine ha H (Ex.refl H) _ fun H1 e1 => ⟨Or.inl ⟨rfl, xs, sq_of (e1 l _ ho)⟩, h H1 e1 _ fun v H2 e2 p => ⟨l, xs, v, rfl, rfl, e2 l _ (e1 l _ ho), sz_lt (by rw [hd.len]; exact hz), ?_⟩⟩
  exact k H2 xs v (e1.trans e2) (e2 l _ (e1 l _ ho)) (LstT.push (e2 l _ (e1 l _ ho)) (hd.ex (e1.trans e2)) p)
theorem q_appT {l : Addr} (hl : LstT H l ds) (ha : Ev ta σ H (.ref l)) (h : EvTd te σ H d) (hz : ds.length < 100000) (k : ∀ H1 xs v, Ex H H1 → H1 l = some (.lst xs) → LstT (upd H1 l (.lst (xs ++ [v]))) l (ds ++ [d]) → tz D σ (upd H1 l (.lst (xs ++ [v])))) :
    tSeq (tDrop (tBM K "list" rAppend ta (tCons te tNil))) tz D σ H := s_appT (D := { D with nx := tz D }) hl ha h hz k
/-! ### comprehensions whose items are such data -/
def Ct (H : Hp) (f : Nat → Bool) (v : Nat → PyData) (Dl : Addr) (i : Nat) (H' : Hp) : Prop := H Dl = none ∧ Ex H H' ∧ LstT H' Dl (((List.range i).filter f).map v)
theorem len_filt (f : Nat → Bool) (v : Nat → PyData) (n : Nat) : (((List.range n).filter f).map v).length ≤ n := by
  rw [List.length_map]
  exact Nat.le_trans (List.length_filter_le _ _) (by simp)
theorem filt_yes {f : Nat → Bool} {v : Nat → PyData} {n : Nat} (h : f n = true) : ((List.range (n + 1)).filter f).map v = ((List.range n).filter f).map v ++ [v n] := by
  rw [List.range_succ, List.filter_append, List.map_append]
  simp [h]
theorem filt_no {f : Nat → Bool} {v : Nat → PyData} {n : Nat} (h : f n = false) : ((List.range (n + 1)).filter f).map v = ((List.range n).filter f).map v := by
  rw [List.range_succ, List.filter_append, List.map_append]
  simp [h]
theorem ct_turn {f : Nat → Bool} {v : Nat → PyData} {Dl : Addr} {i : Nat} {σ2 : L2.St} (p : Ct H f v Dl i H') (hi : i < 50000) (ht : EvT t σ2 H (f i)) (he : f i = true → EvTd te σ2 H (v i)) :
    t σ2 H' fun b H3 => if b = true then te σ2 H3 fun y H4 => ∃ acc, H4 Dl = some (.lst acc) ∧ acc.length < sizeLine ∧ Ct H f v Dl (i + 1) (upd H4 Dl (.lst (acc ++ [y]))) else Ct H f v Dl (i + 1) H3 := by
  obtain ⟨p1, p2, xs, p3, p4⟩ := p
  refine ht H' p2 _ fun H3 e3 => ?_
  cases hf : f i with
  | true =>
    show te σ2 H3 fun y H4 => ∃ acc, H4 Dl = some (.lst acc) ∧ acc.length < sizeLine ∧ Ct H f v Dl (i + 1) (upd H4 Dl (.lst (acc ++ [y])))
    refine he hf H3 (p2.trans e3) _ fun y H4 e4 q4 => ⟨xs, e4 Dl _ (e3 Dl _ p3), sz_lt (by have := len_filt f v i; rw [p4.len]; omega), p1, Ex.mut ((p2.trans e3).trans e4) p1, ?_⟩
    rw [filt_yes hf]
    exact LstT.push (e4 Dl _ (e3 Dl _ p3)) (p4.ex (e3.trans e4)) q4
  | false =>
    show Ct H f v Dl (i + 1) H3
    refine ⟨p1, p2.trans e3, ?_⟩
    rw [filt_no hf]
    exact ⟨xs, e3 Dl _ p3, p4.ex e3⟩
theorem lt_lcR1 {tr : TA} {j : Nat} {vs : List Nat} {n : Int} (f : Nat → Bool) (v : Nat → PyData) (h : EvA tr σ H [.int n]) (hn : n ≤ 40000) (hw : ∀ x, wipe ((wipe σ vs).set j (some x)) vs = wipe σ vs)
    (ht : ∀ (i : Nat) H1, Ex H H1 → (i : Int) < n → EvT t ((wipe σ vs).set j (some (.int (i : Int)))) H1 (f i)) (he : ∀ (i : Nat) H1, Ex H H1 → (i : Int) < n → f i = true → EvTd te ((wipe σ vs).set j (some (.int (i : Int)))) H1 (v i)) (hn0 : -100000 ≤ n := by omega) :
    EvLT (tLc (iRng1 tr) (gName j) t te vs) σ H (((List.range n.toNat).filter f).map v) := fun H0 e Q q => h H0 e _ fun H1 e1 => ⟨n, rfl, by omega, by omega, fun Dl hD =>
  lc_range (lo := 0) (n := n.toNat) (Ct H1 f v Dl) ⟨hD, Ex.new hD, ⟨[], upd_same, .nil⟩⟩ (fun i H' hi p => by
    have e0 : (0 : Int) + (i : Int) = (i : Int) := Int.zero_add _
    show wipe ((wipe σ vs).set j (some (.int ((0 : Int) + (i : Int))))) vs = wipe σ vs ∧ t ((wipe σ vs).set j (some (.int ((0 : Int) + (i : Int))))) H' fun b H3 => if b = true then te ((wipe σ vs).set j (some (.int ((0 : Int) + (i : Int))))) H3 fun y H4 => ∃ acc, H4 Dl = some (.lst acc) ∧ acc.length < sizeLine ∧ Ct H1 f v Dl (i + 1) (upd H4 Dl (.lst (acc ++ [y]))) else Ct H1 f v Dl (i + 1) H3
    rw [e0]
    exact ⟨hw _, ct_turn p (by omega) (ht i H1 (e.trans e1) (by omega)) (fun hf => he i H1 (e.trans e1) (by omega) hf)⟩) (fun H' p => q Dl H' (fresh_back e1 p.1) (e1.trans p.2.1) p.2.2)⟩
theorem lt_lcR2 {tr : TA} {j : Nat} {vs : List Nat} {lo n : Int} (f : Nat → Bool) (v : Nat → PyData) (h : EvA tr σ H [.int lo, .int n]) (hn : 0 ≤ lo ∧ lo ≤ 100000 ∧ -100000 ≤ n ∧ n ≤ 40000) (hw : ∀ x, wipe ((wipe σ vs).set j (some x)) vs = wipe σ vs)
    (ht : ∀ (i : Nat) H1, Ex H H1 → lo + (i : Int) < n → EvT t ((wipe σ vs).set j (some (.int (lo + (i : Int))))) H1 (f i)) (he : ∀ (i : Nat) H1, Ex H H1 → lo + (i : Int) < n → f i = true → EvTd te ((wipe σ vs).set j (some (.int (lo + (i : Int))))) H1 (v i)) :
    EvLT (tLc (iRng2 tr) (gName j) t te vs) σ H (((List.range (n - lo).toNat).filter f).map v) := fun H0 e Q q => h H0 e _ fun H1 e1 => ⟨lo, n, rfl, ⟨by omega, by omega, by omega, by omega⟩, fun Dl hD =>
  lc_range (lo := lo) (n := (n - lo).toNat) (Ct H1 f v Dl) ⟨hD, Ex.new hD, ⟨[], upd_same, .nil⟩⟩ (fun i H' hi p =>
    ⟨hw _, ct_turn p (by omega) (ht i H1 (e.trans e1) (by omega)) (fun hf => he i H1 (e.trans e1) (by omega) hf)⟩) (fun H' p => q Dl H' (fresh_back e1 p.1) (e1.trans p.2.1) p.2.2)⟩
end
section
variable {K : PySem.W.Frag} {σ : L2.St} {H H' : Hp} {ta tb te tx : TE} {t u : TT} {x y z v : V} {r : R2} {tr : TA} {D : Ends} {tu tw tz : TS} {P P' : V → Hp → Prop} {d : PyData} {ds : List PyData}
theorem filt_all {n : Nat} (v : Nat → PyData) : ((List.range n).filter fun _ => true).map v = (List.range n).map v := by rw [List.filter_eq_self.mpr (fun _ _ => rfl)]
theorem et_yes0 : EvT tYes σ H true := fun H1 _ Q q => q H1 (Ex.refl H1)
theorem lt_mapR1 {j : Nat} {vs : List Nat} {n : Int} (v : Nat → PyData) (h : EvA tr σ H [.int n]) (hn : n ≤ 40000) (hw : ∀ x, wipe ((wipe σ vs).set j (some x)) vs = wipe σ vs)
    (he : ∀ (i : Nat) H1, Ex H H1 → (i : Int) < n → EvTd te ((wipe σ vs).set j (some (.int (i : Int)))) H1 (v i)) (hn0 : -100000 ≤ n := by omega) :
    EvLT (tLc (iRng1 tr) (gName j) tYes te vs) σ H ((List.range n.toNat).map v) := by
  have h2 := lt_lcR1 (t := tYes) (te := te) (fun _ => true) v h hn hw (fun _ _ _ _ => et_yes0) (fun i H1 e hi _ => he i H1 e hi) hn0
  rw [filt_all] at h2
  exact h2
theorem lt_mapR2 {j : Nat} {vs : List Nat} {lo n : Int} (v : Nat → PyData) (h : EvA tr σ H [.int lo, .int n]) (hn : 0 ≤ lo ∧ lo ≤ 100000 ∧ -100000 ≤ n ∧ n ≤ 40000) (hw : ∀ x, wipe ((wipe σ vs).set j (some x)) vs = wipe σ vs)
    (he : ∀ (i : Nat) H1, Ex H H1 → lo + (i : Int) < n → EvTd te ((wipe σ vs).set j (some (.int (lo + (i : Int))))) H1 (v i)) :
    EvLT (tLc (iRng2 tr) (gName j) tYes te vs) σ H ((List.range (n - lo).toNat).map v) := by
  have h2 := lt_lcR2 (t := tYes) (te := te) (fun _ => true) v h hn hw (fun _ _ _ _ => et_yes0) (fun i H1 e hi _ => he i H1 e hi)
  rw [filt_all] at h2
  exact h2
theorem atI_getD {i : Int} (h0 : 0 ≤ i) (h1 : i < (ds.length : Int)) : atI ds i = some (ds.getD i.toNat .none) := by
  have hl : i.toNat < ds.length := by omega
  have := at0 (ds := ds) (j := i.toNat) (d := ds.getD i.toNat .none) (by rw [List.getD_eq_getElem?_getD, List.getElem?_eq_getElem hl]; rfl)
  rw [show ((i.toNat : Nat) : Int) = i by omega] at this
  exact this
/-- an item of a written list of ints -/
theorem ev_ixInts {xs : List Int} {i : Int} (h : EaTd tr σ H (xs.map PyData.int)) (hb : Ev tb σ H (.int i)) (h0 : 0 ≤ i) (h1 : i < (xs.length : Int)) (hl : xs.length ≤ 100000 := by first | decide | simp) : Ev (tOp (rIxL K) (tLst tr) tb) σ H (.int (xs.getD i.toNat 0)) := by
  refine ev_of_td (td_ixL (lt_lst h (by rw [List.length_map]; exact hl)) hb ?_)
  have hl2 : i.toNat < xs.length := by omega
  have := at0 (ds := xs.map PyData.int) (j := i.toNat) (d := .int (xs.getD i.toNat 0)) (by rw [List.getElem?_map, List.getD_eq_getElem?_getD, List.getElem?_eq_getElem hl2]; rfl)
  rw [show ((i.toNat : Nat) : Int) = i by omega] at this
  exact this
theorem ev_callP {sp : Sp} {E : XK} {Pa : List V → Hp → Prop} (h : EaP tr σ H Pa) (hs : ∀ vs H1, Ex H H1 → Pa vs H1 → SpV sp vs H1 z) : Ev (tCall sp [] E tr) σ H z := fun H1 e Q q => h H1 e _ fun vs H2 e2 p => by
  show sp (vs ++ []) H2 Q E
  rw [List.append_nil]
  exact hs vs H2 (e.trans e2) p H2 (Ex.refl H2) Q (fun H3 e3 => q H3 (e2.trans e3)) E
/-- arguments, one by one -/
theorem dpAll1 {vs : List V} {d : PyData} (h : DpAll K H vs [d]) : ∃ v, vs = [v] ∧ Dp K H v d := by
  cases h with | cons a b => cases b; exact ⟨_, rfl, a⟩
theorem dpAll2 {vs : List V} {d e : PyData} (h : DpAll K H vs [d, e]) : ∃ v u, vs = [v, u] ∧ Dp K H v d ∧ Dp K H u e := by
  cases h with | cons a b => cases b with | cons b c => cases c; exact ⟨_, _, rfl, a, b⟩
theorem dpAll3 {vs : List V} {d e f : PyData} (h : DpAll K H vs [d, e, f]) : ∃ v u x, vs = [v, u, x] ∧ Dp K H v d ∧ Dp K H u e ∧ Dp K H x f := by
  cases h with | cons a b => cases b with | cons b c => cases c with | cons c d => cases d; exact ⟨_, _, _, rfl, a, b, c⟩
theorem dpAll4 {vs : List V} {d e f g : PyData} (h : DpAll K H vs [d, e, f, g]) : ∃ v u x y, vs = [v, u, x, y] ∧ Dp K H v d ∧ Dp K H u e ∧ Dp K H x f ∧ Dp K H y g := by
  cases h with | cons a b => cases b with | cons b c => cases c with | cons c d => cases d with | cons d e => cases e; exact ⟨_, _, _, _, rfl, a, b, c, d⟩
theorem ed_int {i : Int} (h : Ev te σ H (.int i)) : EvD K te σ H (.int i) := ep_ev h fun _ _ => .int i
end
section
variable {K : PySem.W.Frag} {σ : L2.St} {H H' : Hp} {ta tb te tx : TE} {D : Ends} {tz : TS} {d : PyData} {ds es : List PyData}
theorem TdAll.set {v : V} (h : Td H v d) : ∀ {ds : List PyData} {vs : List V} (j : Nat), TdAll H vs ds → TdAll H (vs.set j v) (ds.set j d)
  | [], _, _, .nil => .nil
  | _ :: _, _, 0, .cons _ b => .cons h b
  | _ :: _, _, j + 1, .cons a b => .cons a (TdAll.set h j b)
/-- xs[j] = e -/
theorem s_setT {l : Addr} {i : Int} {j : Nat} (hl : LstT H l ds) (h : EvTd te σ H d) (ho : Ev ta σ H (.ref l)) (hi : Ev tb σ H (.int i)) (ei : i = (j : Int)) (hj : j < ds.length) (k : ∀ H1 xs v, Ex H H1 → H1 l = some (.lst xs) → LstT (upd H1 l (.lst (xs.set j v))) l (ds.set j d) → D.nx σ (upd H1 l (.lst (xs.set j v)))) :
    tAsg te (gSub ta tb rSetL) D σ H := by
  obtain ⟨xs, hx, hd⟩ := hl
  subst ei
  refine h H (Ex.refl H) _ fun v H1 e1 p => ho H1 e1 _ fun H2 e2 => hi H2 (e1.trans e2) _ fun H3 e3 => ?_
  have e13 := (e1.trans e2).trans e3
  have hx3 := e13 _ _ hx
  refine ⟨l, xs, (j : Int), j, rfl, rfl, hx3, ixN_nat (by rw [hd.len]; exact hj), k H3 xs v e13 hx3 ⟨_, upd_same, ?_⟩⟩
  exact TdAll.upd hx3 (TdAll.set (p.ex (e2.trans e3)) j (hd.ex e13))
theorem q_setT {l : Addr} {i : Int} {j : Nat} (hl : LstT H l ds) (h : EvTd te σ H d) (ho : Ev ta σ H (.ref l)) (hi : Ev tb σ H (.int i)) (ei : i = (j : Int)) (hj : j < ds.length) (k : ∀ H1 xs v, Ex H H1 → H1 l = some (.lst xs) → LstT (upd H1 l (.lst (xs.set j v))) l (ds.set j d) → tz D σ (upd H1 l (.lst (xs.set j v)))) :
    tSeq (tAsg te (gSub ta tb rSetL)) tz D σ H := s_setT (D := { D with nx := tz D }) hl h ho hi ei hj k
/-- list + list -/
theorem lt_cat {l : Addr} (ha : Ev ta σ H (.ref l)) (hl : LstT H l ds) (hb : EvLT tb σ H es) (hz : ds.length + es.length ≤ 100000) : EvLT (tOp rCat ta tb) σ H (ds ++ es) := fun H1 e Q q => ha H1 e _ fun H2 e2 => hb H2 (e.trans e2) _ fun p H3 np e3 hp => by
  obtain ⟨xs, hx, hd⟩ := hl.ex ((e.trans e2).trans e3)
  obtain ⟨ys, hy, he⟩ := hp
  refine ⟨l, p, xs, ys, rfl, rfl, hx, hy, sz_of (by rw [hd.len, he.len]; exact hz), fun r nr => q r _ (fresh_back (e2.trans e3) nr) ((e2.trans e3).trans (Ex.new nr)) ⟨_, upd_same, (TdAll.append hd he).ex (Ex.new nr)⟩⟩
theorem lt_cat2 (ha : EvLT ta σ H ds) (hb : EvLT tb σ H es) (hz : ds.length + es.length ≤ 100000) : EvLT (tOp rCat ta tb) σ H (ds ++ es) := fun H1 e Q q => ha H1 e _ fun l H2 nl e2 hl => hb H2 (e.trans e2) _ fun p H3 np e3 hp => by
  obtain ⟨xs, hx, hd⟩ := hl.ex e3
  obtain ⟨ys, hy, he⟩ := hp
  refine ⟨l, p, xs, ys, rfl, rfl, hx, hy, sz_of (by rw [hd.len, he.len]; exact hz), fun r nr => q r _ (fresh_back (e2.trans e3) nr) ((e2.trans e3).trans (Ex.new nr)) ⟨_, upd_same, (TdAll.append hd he).ex (Ex.new nr)⟩⟩
end
section
variable {K : PySem.W.Frag} {σ : L2.St} {H H' : Hp} {ta tb te tx tl : TE} {D : Ends} {tz tu : TS} {d : PyData} {ds es : List PyData} {tr : TA} {g : TG}
/-! ### loops over data -/
theorem s_forD (h : EvD K tl σ H (.list ds)) (Pv : Hp → Nat → L2.St → Hp → Prop) (h0 : ∀ H1, Ex H H1 → Pv H1 0 σ H1) (hx : ∀ H1 i σ' H', Pv H1 i σ' H' → Ex H1 H')
    (hs : ∀ H1, Ex H H1 → ∀ i d x σ' H', ds[i]? = some d → Dp K H' x d → Pv H1 i σ' H' → g x σ' H' fun σ2 H2 => tu { D with nx := Pv H1 (i + 1), ct := Pv H1 (i + 1), bk := D.nx } σ2 H2)
    (hd : ∀ H1, Ex H H1 → ∀ σ' H', Pv H1 ds.length σ' H' → D.nx σ' H') : tFor (iList K tl) g tu D σ H := by
  refine h H (Ex.refl H) _ fun v H1 e1 p => ?_
  cases p with
  | lst ho hda =>
    rename_i a xs
    have hlen := dpAll_len hda
    refine ⟨a, rfl, ⟨xs, ho⟩, for_list (K := K) (a := a) (xs := xs) (Pv H1) (h0 H1 e1) (fun i σ' H' _ p => ex_l (hx H1 i σ' H' p) ho) (fun i x σ' H' hx' p => ?_) (fun σ' H' p => hd H1 e1 σ' H' (by rw [← hlen]; exact p))⟩
    obtain ⟨d, hd1, hd2⟩ := dpAll_getV hda hx'
    exact hs H1 e1 i d x σ' H' hd1 (dp_ex (hx H1 i σ' H' p) hd2) p
theorem s_forU (h : EvD K tl σ H (.tuple ds)) (Pv : Hp → Nat → L2.St → Hp → Prop) (h0 : ∀ H1, Ex H H1 → Pv H1 0 σ H1) (hx : ∀ H1 i σ' H', Pv H1 i σ' H' → Ex H1 H')
    (hs : ∀ H1, Ex H H1 → ∀ i d x σ' H', ds[i]? = some d → Dp K H' x d → Pv H1 i σ' H' → g x σ' H' fun σ2 H2 => tu { D with nx := Pv H1 (i + 1), ct := Pv H1 (i + 1), bk := D.nx } σ2 H2)
    (hd : ∀ H1, Ex H H1 → ∀ σ' H', Pv H1 ds.length σ' H' → D.nx σ' H') : tFor (iTup K tl) g tu D σ H := by
  refine h H (Ex.refl H) _ fun v H1 e1 p => ?_
  cases p with
  | tup ho hda =>
    rename_i a xs
    have hlen := dpAll_len hda
    refine ⟨a, rfl, ⟨xs, ho⟩, for_tup (K := K) (a := a) (xs := xs) (Pv H1) (h0 H1 e1) (fun i σ' H' _ p => ex_t (hx H1 i σ' H' p) ho) (fun i x σ' H' hx' p => ?_) (fun σ' H' p => hd H1 e1 σ' H' (by rw [← hlen]; exact p))⟩
    obtain ⟨d, hd1, hd2⟩ := dpAll_getV hda hx'
    exact hs H1 e1 i d x σ' H' hd1 (dp_ex (hx H1 i σ' H' p) hd2) p
theorem q_forD (h : EvD K tl σ H (.list ds)) (Pv : Hp → Nat → L2.St → Hp → Prop) (h0 : ∀ H1, Ex H H1 → Pv H1 0 σ H1) (hx : ∀ H1 i σ' H', Pv H1 i σ' H' → Ex H1 H')
    (hs : ∀ H1, Ex H H1 → ∀ i d x σ' H', ds[i]? = some d → Dp K H' x d → Pv H1 i σ' H' → g x σ' H' fun σ2 H2 => tu { D with nx := Pv H1 (i + 1), ct := Pv H1 (i + 1), bk := tz D } σ2 H2)
    (hd : ∀ H1, Ex H H1 → ∀ σ' H', Pv H1 ds.length σ' H' → tz D σ' H') : tSeq (tFor (iList K tl) g tu) tz D σ H := s_forD (D := { D with nx := tz D }) h Pv h0 hx hs hd
theorem q_forU (h : EvD K tl σ H (.tuple ds)) (Pv : Hp → Nat → L2.St → Hp → Prop) (h0 : ∀ H1, Ex H H1 → Pv H1 0 σ H1) (hx : ∀ H1 i σ' H', Pv H1 i σ' H' → Ex H1 H')
    (hs : ∀ H1, Ex H H1 → ∀ i d x σ' H', ds[i]? = some d → Dp K H' x d → Pv H1 i σ' H' → g x σ' H' fun σ2 H2 => tu { D with nx := Pv H1 (i + 1), ct := Pv H1 (i + 1), bk := tz D } σ2 H2)
    (hd : ∀ H1, Ex H H1 → ∀ σ' H', Pv H1 ds.length σ' H' → tz D σ' H') : tSeq (tFor (iTup K tl) g tu) tz D σ H := s_forU (D := { D with nx := tz D }) h Pv h0 hx hs hd
/-! ### a call whose value is dropped; arguments of data -/
theorem s_dropC {sp : Sp} {E : XK} (h : EaD K tr σ H ds) (k : ∀ vs H1, Ex H H1 → DpAll K H1 vs ds → sp vs H1 (fun _ H2 => D.nx σ H2) E) : tDrop (tCall sp [] E tr) D σ H := h H (Ex.refl H) _ fun vs H1 e1 p => by
  show sp (vs ++ []) H1 _ E
  rw [List.append_nil]
  exact k vs H1 e1 p
theorem q_dropC {sp : Sp} {E : XK} (h : EaD K tr σ H ds) (k : ∀ vs H1, Ex H H1 → DpAll K H1 vs ds → sp vs H1 (fun _ H2 => tz D σ H2) E) : tSeq (tDrop (tCall sp [] E tr)) tz D σ H := s_dropC (D := { D with nx := tz D }) h k
/-- x = f(..) -/
theorem s_asgC {sp : Sp} {E : XK} {i : Nat} (h : EaD K tr σ H ds) (k : ∀ vs H1, Ex H H1 → DpAll K H1 vs ds → sp vs H1 (fun v H2 => D.nx (σ.set i (some v)) H2) E) : tAsg (tCall sp [] E tr) (gName i) D σ H := h H (Ex.refl H) _ fun vs H1 e1 p => by
  show sp (vs ++ []) H1 _ E
  rw [List.append_nil]
  exact k vs H1 e1 p
theorem q_asgC {sp : Sp} {E : XK} {i : Nat} (h : EaD K tr σ H ds) (k : ∀ vs H1, Ex H H1 → DpAll K H1 vs ds → sp vs H1 (fun v H2 => tz D (σ.set i (some v)) H2) E) : tSeq (tAsg (tCall sp [] E tr) (gName i)) tz D σ H := s_asgC (D := { D with nx := tz D }) h k
theorem s_retC {sp : Sp} {E : XK} (h : EaD K tr σ H ds) (k : ∀ vs H1, Ex H H1 → DpAll K H1 vs ds → sp vs H1 D.rt E) : tRet (tCall sp [] E tr) D σ H := h H (Ex.refl H) _ fun vs H1 e1 p => by
  show sp (vs ++ []) H1 _ E
  rw [List.append_nil]
  exact k vs H1 e1 p
/-! ### slices of tuples -/
theorem dpAll_drop : ∀ {ds : List PyData} {vs : List V} (n : Nat), DpAll K H vs ds → DpAll K H (vs.drop n) (ds.drop n)
  | _, _, 0, h => h
  | [], _, n + 1, .nil => .nil
  | _ :: _, _, n + 1, .cons _ b => dpAll_drop n b
theorem dpAll_take : ∀ {ds : List PyData} {vs : List V} (n : Nat), DpAll K H vs ds → DpAll K H (vs.take n) (ds.take n)
  | _, _, 0, _ => by simp only [List.take_zero]; exact .nil
  | [], _, n + 1, .nil => .nil
  | _ :: _, _, n + 1, .cons a b => .cons a (dpAll_take n b)
def cutD (ds : List PyData) (lo hi : Option Int) : List PyData := (ds.drop (HT.sIx ds.length 0 lo)).take (HT.sIx ds.length ds.length hi - HT.sIx ds.length 0 lo)
theorem ed_slU {lo hi : Option Int} {t1 t2 : TO} (h : EvD K te σ H (.tuple ds)) (h1 : EvO t1 σ H lo) (h2 : EvO t2 σ H hi) : EvD K (tSl (rSlA K) te t1 t2) σ H (.tuple (cutD ds lo hi)) := fun H1 e Q q => h H1 e _ fun v H2 e2 p => h1 H2 (e.trans e2) _ fun H3 e3 => h2 H3 ((e.trans e2).trans e3) _ fun H4 e4 => by
  have p4 := dp_ex (e3.trans e4) p
  have e24 := (e2.trans e3).trans e4
  cases p4 with
  | tup ho hd =>
    rename_i a xs
    have hlen := dpAll_len hd
    refine ⟨a, xs, rfl, ho, fun hw => ?_, fun hw r nr => ?_⟩
    · have ec : cutD ds lo hi = ds := by
        unfold cutD
        rw [← hlen, hw.1, hw.2, List.drop_zero, hlen, Nat.sub_zero, List.take_length]
      exact q _ H4 e24 (by rw [ec]; exact .tup ho hd)
    · refine q _ _ (e24.trans (Ex.new nr)) (.tup (SqT.of upd_same) ?_)
      unfold cutD cutV
      rw [hlen]
      exact dpAll_ex (Ex.new nr) (dpAll_take _ (dpAll_drop _ hd))
/-! ### xs.count(True) of a list of truth values -/
theorem td_bls : ∀ bs : List Bool, TdAll H (bs.map V.bl) (bs.map PyData.bool)
  | [] => .nil
  | b :: r => .cons (.bl b) (td_bls r)
theorem tdAll_bls : ∀ {bs : List Bool} {vs : List V}, TdAll H vs (bs.map PyData.bool) → vs = bs.map V.bl
  | [], _, .nil => rfl
  | b :: r, _, .cons h q => by
    cases h
    rw [tdAll_bls q]
    rfl
theorem count_bls (bs : List Bool) : (bs.map V.bl).countP (fun z => eqV z (.bl true)) = bs.countP id := by
  induction bs with
  | nil => rfl
  | cons b r ih =>
    rw [List.map_cons, List.countP_cons, List.countP_cons, ih]
    cases b <;> rfl
theorem flat_bls : ∀ bs : List Bool, (bs.map V.bl).all flatV = true
  | [] => rfl
  | _ :: r => by simp [flatV, flat_bls r]
theorem ev_countT {l : Addr} {bs : List Bool} (ha : Ev ta σ H (.ref l)) (hl : LstT H l (bs.map PyData.bool)) : Ev (tBM K "list" (rCntF K) ta (tCons (tC (.bl true)) tNil)) σ H (.int (bs.countP id : Nat)) := fun H1 e Q q => ha H1 e _ fun H2 e2 => by
  obtain ⟨xs, hx, hd⟩ := hl.ex (e.trans e2)
  have ex := tdAll_bls hd
  subst ex
  refine ⟨.inl ⟨rfl, _, SqL.of hx⟩, l, _, _, rfl, rfl, SqL.of hx, rfl, flat_bls bs, ?_⟩
  rw [count_bls]
  exact q H2 e2
end
section
variable {K : PySem.W.Frag} {σ : L2.St} {H H' : Hp} {ta tb te : TE} {d : PyData} {ds : List PyData}
theorem lt_listU (ha : EvTd ta σ H (.tuple ds)) : EvLT (tCB (fun xs H Q => ∃ p ys, xs = [.ref p] ∧ (SqL K H p ys ∨ SqT K H p ys) ∧ ∀ l, H l = none → Q (.ref l) (upd H l (.lst ys))) (tCons ta tNil)) σ H ds := fun H1 x Q q => ha H1 x _ fun v H2 x2 p => by
  cases p with
  | tup ho hd =>
    rename_i a xs
    exact ⟨a, xs, rfl, .inr (SqT.of ho), fun l hl => q _ _ (fresh_back x2 hl) (x2.trans (Ex.new hl)) ⟨xs, upd_same, hd.ex (Ex.new hl)⟩⟩
theorem td_ixLV {l : Addr} {i : Int} (ha : Ev ta σ H (.ref l)) (hl : LstT H l ds) (hb : Ev tb σ H (.int i)) (h : atI ds i = some d) : EvTd (tOp (rIxL K) ta tb) σ H d := fun H1 e Q q => ha H1 e _ fun H2 e2 => hb H2 (e.trans e2) _ fun H3 e3 => by
  obtain ⟨xs, ho, hd⟩ := hl.ex ((e.trans e2).trans e3)
  obtain ⟨j, h1, h2, h3, _⟩ := atI_get h
  obtain ⟨w, h4, h5⟩ := hd.get h2
  refine ⟨_, xs, i, w, rfl, rfl, SqL.of ho, ?_, q w H3 (e2.trans e3) h5⟩
  have : atI xs i = some w := by
    unfold atI at h ⊢
    rw [hd.len]
    cases e5 : ixN ds.length i with
    | none => rw [e5] at h; cases h
    | some k =>
      have hk := (ixN_seq e5).1
      rw [hk] at h1
      cases h1
      exact h4
  exact this
theorem LstT.upd_ne {l p : Addr} {xs : List V} {o : HO} (h : LstT H p ds) (hl : H l = some (.lst xs)) (ne : p ≠ l) : LstT (L2.upd H l o) p ds := by
  obtain ⟨ys, a, b⟩ := h
  exact ⟨ys, by rw [L2.upd_ne ne]; exact a, b.upd hl⟩
theorem ev_inW {i : Int} {ns : List Int} (ha : Ev ta σ H (.int i)) (hb : EvTd tb σ H (.tuple (ns.map PyData.int))) : Ev (tOp (rIn K false) ta tb) σ H (.bl (decide (i ∈ ns))) := ev_inI ha (.inl (ed_td hb))
theorem ev_niW {i : Int} {ns : List Int} (ha : Ev ta σ H (.int i)) (hb : EvTd tb σ H (.tuple (ns.map PyData.int))) : Ev (tOp (rIn K true) ta tb) σ H (.bl (!decide (i ∈ ns))) := ev_niI ha (.inl (ed_td hb))
end
section
variable {K : PySem.W.Frag} {σ : L2.St} {H H' : Hp} {ta tb te : TE} {d : PyData} {ds : List PyData} {tr : TA} {v : V} {P : V → Hp → Prop} {R : List V → Hp → Prop}
/-! ### arguments and tuples, part by part -/
theorem ea_pn (h : ∀ H1, Ex H H1 → R [] H1) : EaP tNil σ H R := fun H1 e Q q => q [] H1 (Ex.refl H1) (h H1 e)
theorem ea_pc (h : EvP te σ H P) (k : ∀ v H1, Ex H H1 → P v H1 → EaP tr σ H1 (fun vs H' => R (v :: vs) H')) : EaP (tCons te tr) σ H R := fun H1 e Q q => h H1 e _ fun v H2 e2 p => k v H2 (e.trans e2) p H2 (Ex.refl H2) _ fun vs H3 e3 r => q _ H3 (e2.trans e3) r
theorem ea_pv (h : Ev te σ H v) (k : ∀ H1, Ex H H1 → EaP tr σ H1 (fun vs H' => R (v :: vs) H')) : EaP (tCons te tr) σ H R := fun H1 e Q q => h H1 e _ fun H2 e2 => k H2 (e.trans e2) H2 (Ex.refl H2) _ fun vs H3 e3 r => q _ H3 (e2.trans e3) r
theorem ea_pl (h : EvLT te σ H ds) (k : ∀ p H1, Ex H H1 → H p = none → LstT H1 p ds → EaP tr σ H1 (fun vs H' => R (.ref p :: vs) H')) : EaP (tCons te tr) σ H R := fun H1 e Q q => h H1 e _ fun p H2 np e2 r => k p H2 (e.trans e2) (fresh_back e np) r H2 (Ex.refl H2) _ fun vs H3 e3 r => q _ H3 (e2.trans e3) r
theorem ep_tupP (h : EaP tr σ H R) (hl : ∀ vs H', R vs H' → vs.length ≤ 100000) : EvP (tTup tr) σ H (fun v H' => ∃ p vs H0, v = .ref p ∧ H' p = some (.tup vs) ∧ Ex H H0 ∧ Ex H0 H' ∧ R vs H0) := fun H1 e Q q => h H1 e _ fun vs H2 e2 r => ⟨sz_of (hl vs H2 r), fun p np => q _ _ (e2.trans (Ex.new np)) ⟨p, vs, H2, rfl, upd_same, e.trans e2, Ex.new np, r⟩⟩
end
theorem et_yes {σ : L2.St} {H : Hp} : EvT tYes σ H true := fun H1 _ Q q => q H1 (Ex.refl H1)
end Mz
namespace Mz
open PySem PySem.Spec PyProof.Rows L2 Evl
def topS (i : Nat) : Stmt := PySem.Challenge.pw_mazeguide_k04_a_walk_walked.main.body.getD i (.Pass ⟨0, 0, 0, 0⟩)
abbrev s_need_room : Stmt := topS 10
theorem sc_need_room : FnScope ["maze", "room"] ["maze", "room"] (defScope s_need_room) := ⟨rfl, rfl, rfl, by decide +kernel, rfl, by decide +kernel, by decide +kernel⟩
abbrev s_taken : Stmt := topS 11
theorem sc_taken : FnScope ["maze", "room", "held", "kind"] ["maze", "room", "held"] (defScope s_taken) := ⟨rfl, rfl, rfl, by decide +kernel, rfl, by decide +kernel, by decide +kernel⟩
abbrev s_opens : Stmt := topS 13
theorem sc_opens : FnScope ["door", "held"] ["door", "held"] (defScope s_opens) := ⟨rfl, rfl, rfl, by decide +kernel, rfl, by decide +kernel, by decide +kernel⟩
abbrev s_joins : Stmt := topS 14
theorem sc_joins : FnScope ["door", "one", "other"] ["door", "one", "other"] (defScope s_joins) := ⟨rfl, rfl, rfl, by decide +kernel, rfl, by decide +kernel, by decide +kernel⟩
abbrev s_passed : Stmt := topS 15
theorem sc_passed : FnScope ["maze", "one", "other", "held", "between", "door"] ["maze", "one", "other", "held"] (defScope s_passed) := ⟨rfl, rfl, rfl, by decide +kernel, rfl, by decide +kernel, by decide +kernel⟩
abbrev s_walked : Stmt := topS 16
theorem sc_walked : FnScope ["maze", "walk", "room", "held", "k"] ["maze", "walk"] (defScope s_walked) := ⟨rfl, rfl, rfl, by decide +kernel, rfl, by decide +kernel, by decide +kernel⟩
abbrev s_l_mix : Stmt := topS 18
theorem sc_l_mix : FnScope ["_law_cell", "_law_k", "_law_number"] ["_law_cell", "_law_k"] (defScope s_l_mix) := ⟨rfl, rfl, rfl, by decide +kernel, rfl, by decide +kernel, by decide +kernel⟩
abbrev s_l_whole : Stmt := topS 19
theorem sc_l_whole : FnScope ["_law_found"] ["_law_found"] (defScope s_l_whole) := ⟨rfl, rfl, rfl, by decide +kernel, rfl, by decide +kernel, by decide +kernel⟩
abbrev s_l_cell_at : Stmt := topS 20
theorem sc_l_cell_at : FnScope ["_law_script", "_law_k"] ["_law_script", "_law_k"] (defScope s_l_cell_at) := ⟨rfl, rfl, rfl, by decide +kernel, rfl, by decide +kernel, by decide +kernel⟩
abbrev s_l_size : Stmt := topS 21
theorem sc_l_size : FnScope ["_law_script", "_law_first", "_law_number", "_law_some"] ["_law_script"] (defScope s_l_size) := ⟨rfl, rfl, rfl, by decide +kernel, rfl, by decide +kernel, by decide +kernel⟩
abbrev s_l_lock : Stmt := topS 22
theorem sc_l_lock : FnScope ["_law_number"] ["_law_number"] (defScope s_l_lock) := ⟨rfl, rfl, rfl, by decide +kernel, rfl, by decide +kernel, by decide +kernel⟩
abbrev s_l_rank : Stmt := topS 23
theorem sc_l_rank : FnScope ["_law_place", "_law_size_here"] ["_law_place", "_law_size_here"] (defScope s_l_rank) := ⟨rfl, rfl, rfl, by decide +kernel, rfl, by decide +kernel, by decide +kernel⟩
abbrev s_l_ranks : Stmt := topS 24
theorem sc_l_ranks : FnScope ["_law_first", "_law_size_here", "_law_number", "_law_name", "_law_made", "_law_one", "_law_other", "_law_rank_here", "_law_door"] ["_law_first", "_law_size_here"] (defScope s_l_ranks) := ⟨rfl, rfl, rfl, by decide +kernel, rfl, by decide +kernel, by decide +kernel⟩
abbrev s_l_many : Stmt := topS 25
theorem sc_l_many : FnScope ["_law_first", "_law_size_here", "_law_number", "_law_made", "_law_k", "_law_near", "_law_lock_here"] ["_law_first", "_law_size_here"] (defScope s_l_many) := ⟨rfl, rfl, rfl, by decide +kernel, rfl, by decide +kernel, by decide +kernel⟩
abbrev s_l_mixed : Stmt := topS 26
theorem sc_l_mixed : FnScope ["_law_first", "_law_size_here", "_law_number", "_law_made", "_law_k", "_law_lock_here", "_law_one"] ["_law_first", "_law_size_here"] (defScope s_l_mixed) := ⟨rfl, rfl, rfl, by decide +kernel, rfl, by decide +kernel, by decide +kernel⟩
abbrev s_l_built : Stmt := topS 27
theorem sc_l_built : FnScope ["_law_first", "_law_size_here", "_law_made", "_law_k", "_law_one", "_law_other", "_law_locks", "_law_turn"] ["_law_first", "_law_size_here"] (defScope s_l_built) := ⟨rfl, rfl, rfl, by decide +kernel, rfl, by decide +kernel, by decide +kernel⟩
abbrev s_l_doors : Stmt := topS 28
theorem sc_l_doors : FnScope ["_law_script", "_law_size_here", "_law_first", "_law_made", "_law_k", "_law_cell", "_law_one"] ["_law_script", "_law_size_here"] (defScope s_l_doors) := ⟨rfl, rfl, rfl, by decide +kernel, rfl, by decide +kernel, by decide +kernel⟩
abbrev s_l_lying : Stmt := topS 29
theorem sc_l_lying : FnScope ["_law_script", "_law_size_here", "_law_first", "_law_turn", "_law_made", "_law_k"] ["_law_script", "_law_size_here"] (defScope s_l_lying) := ⟨rfl, rfl, rfl, by decide +kernel, rfl, by decide +kernel, by decide +kernel⟩
abbrev s_l_taken : Stmt := topS 30
theorem sc_l_taken : FnScope ["_law_lying_here", "_law_room", "_law_held", "_law_made", "_law_kind"] ["_law_lying_here", "_law_room", "_law_held"] (defScope s_l_taken) := ⟨rfl, rfl, rfl, by decide +kernel, rfl, by decide +kernel, by decide +kernel⟩
abbrev s_l_steps : Stmt := topS 31
theorem sc_l_steps : FnScope ["_law_doors_here", "_law_lying_here", "_law_room", "_law_held", "_law_made", "_law_one", "_law_other", "_law_lock_here"] ["_law_doors_here", "_law_lying_here", "_law_room", "_law_held"] (defScope s_l_steps) := ⟨rfl, rfl, rfl, by decide +kernel, rfl, by decide +kernel, by decide +kernel⟩
abbrev s_l_hand : Stmt := topS 32
theorem sc_l_hand : FnScope ["_law_found", "_law_due_here", "_law_kind"] ["_law_found", "_law_due_here"] (defScope s_l_hand) := ⟨rfl, rfl, rfl, by decide +kernel, rfl, by decide +kernel, by decide +kernel⟩
abbrev s_l_walk : Stmt := topS 33
theorem sc_l_walk : FnScope ["_law_script", "_law_size_here", "_law_doors_here", "_law_far", "_law_row", "_law_k", "_law_cell", "_law_here", "_law_more", "_law_one", "_law_other", "_law_lock_here"] ["_law_script", "_law_size_here", "_law_doors_here"] (defScope s_l_walk) := ⟨rfl, rfl, rfl, by decide +kernel, rfl, by decide +kernel, by decide +kernel⟩
abbrev s_l_due : Stmt := topS 34
theorem sc_l_due : FnScope ["_law_doors_here", "_law_lying_here", "_law_size_here", "_law_walk_here", "_law_room", "_law_held", "_law_k", "_law_between", "_law_one", "_law_other", "_law_lock_here"] ["_law_doors_here", "_law_lying_here", "_law_size_here", "_law_walk_here"] (defScope s_l_due) := ⟨rfl, rfl, rfl, by decide +kernel, rfl, by decide +kernel, by decide +kernel⟩
abbrev s_l_told : Stmt := topS 35
theorem sc_l_told : FnScope ["_law_maze", "_law_walk_here"] ["_law_maze", "_law_walk_here"] (defScope s_l_told) := ⟨rfl, rfl, rfl, by decide +kernel, rfl, by decide +kernel, by decide +kernel⟩
abbrev s_l_refused : Stmt := topS 36
theorem sc_l_refused : FnScope ["_law_maze", "_law_walk_here", "e", "_law_kinds"] ["_law_maze", "_law_walk_here"] (defScope s_l_refused) := ⟨rfl, rfl, rfl, by decide +kernel, rfl, by decide +kernel, by decide +kernel⟩
abbrev s_law : Stmt := topS 37
theorem sc_law : FnScope ["_law_script", "_law_size_here", "_law_doors_here", "_law_lying_here", "_law_walk_here", "_law_due_here", "_law_handed", "_law_found"] ["_law_script"] (defScope s_law) := ⟨rfl, rfl, rfl, by decide +kernel, rfl, by decide +kernel, by decide +kernel⟩
structure Txt (K : PySem.W.Frag) (mg : Str → Option Value) : Prop where
  n_ValueError : mg "ValueError" = none
  n_bool : mg "bool" = none
  n_int : mg "int" = none
  n_isinstance : mg "isinstance" = none
  n_len : mg "len" = none
  n_list : mg "list" = none
  n_max : mg "max" = none
  n_min : mg "min" = none
  n_range : mg "range" = none
  n_sorted : mg "sorted" = none
  n_str : mg "str" = none
  n_tuple : mg "tuple" = none
  i_KINDS : ∃ tk, mg "KINDS" = some (.int 5 tk)
  e_MazeError : ExcT K mg "MazeError"
  e_NoMaze : ExcT K mg "NoMaze"
  e_NoRoom : ExcT K mg "NoRoom"
  e_NoKey : ExcT K mg "NoKey"
  e_TooMany : ExcT K mg "TooMany"
  e_NoDoor : ExcT K mg "NoDoor"
  e_Shut : ExcT K mg "Shut"
  x_NoRoom : ExcC K (He.ga K "NoRoom")
  m_NoRoom_MazeError : PySem.W.exmOne K (.ref (He.ga K "NoRoom")) (.ref (He.ga K "MazeError")) = some true
  k_NoRoom_MazeError : PySem.W.kitOne K (.ref (He.ga K "NoRoom")) (.ref (He.ga K "MazeError")) = some true
  m_NoRoom_NoMaze : PySem.W.exmOne K (.ref (He.ga K "NoRoom")) (.ref (He.ga K "NoMaze")) = some false
  k_NoRoom_NoMaze : PySem.W.kitOne K (.ref (He.ga K "NoRoom")) (.ref (He.ga K "NoMaze")) = some false
  m_NoRoom_NoRoom : PySem.W.exmOne K (.ref (He.ga K "NoRoom")) (.ref (He.ga K "NoRoom")) = some true
  k_NoRoom_NoRoom : PySem.W.kitOne K (.ref (He.ga K "NoRoom")) (.ref (He.ga K "NoRoom")) = some true
  m_NoRoom_NoKey : PySem.W.exmOne K (.ref (He.ga K "NoRoom")) (.ref (He.ga K "NoKey")) = some false
  k_NoRoom_NoKey : PySem.W.kitOne K (.ref (He.ga K "NoRoom")) (.ref (He.ga K "NoKey")) = some false
  m_NoRoom_TooMany : PySem.W.exmOne K (.ref (He.ga K "NoRoom")) (.ref (He.ga K "TooMany")) = some false
  k_NoRoom_TooMany : PySem.W.kitOne K (.ref (He.ga K "NoRoom")) (.ref (He.ga K "TooMany")) = some false
  m_NoRoom_NoDoor : PySem.W.exmOne K (.ref (He.ga K "NoRoom")) (.ref (He.ga K "NoDoor")) = some false
  k_NoRoom_NoDoor : PySem.W.kitOne K (.ref (He.ga K "NoRoom")) (.ref (He.ga K "NoDoor")) = some false
  m_NoRoom_Shut : PySem.W.exmOne K (.ref (He.ga K "NoRoom")) (.ref (He.ga K "Shut")) = some false
  k_NoRoom_Shut : PySem.W.kitOne K (.ref (He.ga K "NoRoom")) (.ref (He.ga K "Shut")) = some false
  k_NoRoom_ValueError : PySem.W.kitOne K (.ref (He.ga K "NoRoom")) (.type "ValueError") = some true
  x_NoDoor : ExcC K (He.ga K "NoDoor")
  m_NoDoor_MazeError : PySem.W.exmOne K (.ref (He.ga K "NoDoor")) (.ref (He.ga K "MazeError")) = some true
  k_NoDoor_MazeError : PySem.W.kitOne K (.ref (He.ga K "NoDoor")) (.ref (He.ga K "MazeError")) = some true
  m_NoDoor_NoMaze : PySem.W.exmOne K (.ref (He.ga K "NoDoor")) (.ref (He.ga K "NoMaze")) = some false
  k_NoDoor_NoMaze : PySem.W.kitOne K (.ref (He.ga K "NoDoor")) (.ref (He.ga K "NoMaze")) = some false
  m_NoDoor_NoRoom : PySem.W.exmOne K (.ref (He.ga K "NoDoor")) (.ref (He.ga K "NoRoom")) = some false
  k_NoDoor_NoRoom : PySem.W.kitOne K (.ref (He.ga K "NoDoor")) (.ref (He.ga K "NoRoom")) = some false
  m_NoDoor_NoKey : PySem.W.exmOne K (.ref (He.ga K "NoDoor")) (.ref (He.ga K "NoKey")) = some false
  k_NoDoor_NoKey : PySem.W.kitOne K (.ref (He.ga K "NoDoor")) (.ref (He.ga K "NoKey")) = some false
  m_NoDoor_TooMany : PySem.W.exmOne K (.ref (He.ga K "NoDoor")) (.ref (He.ga K "TooMany")) = some false
  k_NoDoor_TooMany : PySem.W.kitOne K (.ref (He.ga K "NoDoor")) (.ref (He.ga K "TooMany")) = some false
  m_NoDoor_NoDoor : PySem.W.exmOne K (.ref (He.ga K "NoDoor")) (.ref (He.ga K "NoDoor")) = some true
  k_NoDoor_NoDoor : PySem.W.kitOne K (.ref (He.ga K "NoDoor")) (.ref (He.ga K "NoDoor")) = some true
  m_NoDoor_Shut : PySem.W.exmOne K (.ref (He.ga K "NoDoor")) (.ref (He.ga K "Shut")) = some false
  k_NoDoor_Shut : PySem.W.kitOne K (.ref (He.ga K "NoDoor")) (.ref (He.ga K "Shut")) = some false
  k_NoDoor_ValueError : PySem.W.kitOne K (.ref (He.ga K "NoDoor")) (.type "ValueError") = some true
  x_Shut : ExcC K (He.ga K "Shut")
  m_Shut_MazeError : PySem.W.exmOne K (.ref (He.ga K "Shut")) (.ref (He.ga K "MazeError")) = some true
  k_Shut_MazeError : PySem.W.kitOne K (.ref (He.ga K "Shut")) (.ref (He.ga K "MazeError")) = some true
  m_Shut_NoMaze : PySem.W.exmOne K (.ref (He.ga K "Shut")) (.ref (He.ga K "NoMaze")) = some false
  k_Shut_NoMaze : PySem.W.kitOne K (.ref (He.ga K "Shut")) (.ref (He.ga K "NoMaze")) = some false
  m_Shut_NoRoom : PySem.W.exmOne K (.ref (He.ga K "Shut")) (.ref (He.ga K "NoRoom")) = some false
  k_Shut_NoRoom : PySem.W.kitOne K (.ref (He.ga K "Shut")) (.ref (He.ga K "NoRoom")) = some false
  m_Shut_NoKey : PySem.W.exmOne K (.ref (He.ga K "Shut")) (.ref (He.ga K "NoKey")) = some false
  k_Shut_NoKey : PySem.W.kitOne K (.ref (He.ga K "Shut")) (.ref (He.ga K "NoKey")) = some false
  m_Shut_TooMany : PySem.W.exmOne K (.ref (He.ga K "Shut")) (.ref (He.ga K "TooMany")) = some false
  k_Shut_TooMany : PySem.W.kitOne K (.ref (He.ga K "Shut")) (.ref (He.ga K "TooMany")) = some false
  m_Shut_NoDoor : PySem.W.exmOne K (.ref (He.ga K "Shut")) (.ref (He.ga K "NoDoor")) = some false
  k_Shut_NoDoor : PySem.W.kitOne K (.ref (He.ga K "Shut")) (.ref (He.ga K "NoDoor")) = some false
  m_Shut_Shut : PySem.W.exmOne K (.ref (He.ga K "Shut")) (.ref (He.ga K "Shut")) = some true
  k_Shut_Shut : PySem.W.kitOne K (.ref (He.ga K "Shut")) (.ref (He.ga K "Shut")) = some true
  k_Shut_ValueError : PySem.W.kitOne K (.ref (He.ga K "Shut")) (.type "ValueError") = some true
  d_need_room : Dfn K mg "need_room" s_need_room ["maze", "room"]
  d_taken : Dfn K mg "taken" s_taken ["maze", "room", "held"]
  d_opens : Dfn K mg "opens" s_opens ["door", "held"]
  d_joins : Dfn K mg "joins" s_joins ["door", "one", "other"]
  d_passed : Dfn K mg "passed" s_passed ["maze", "one", "other", "held"]
  d_walked : Dfn K mg "walked" s_walked ["maze", "walk"]
  d_l_mix : Dfn K mg "_law_mix" s_l_mix ["_law_cell", "_law_k"]
  d_l_whole : Dfn K mg "_law_whole" s_l_whole ["_law_found"]
  d_l_cell_at : Dfn K mg "_law_cell_at" s_l_cell_at ["_law_script", "_law_k"]
  d_l_size : Dfn K mg "_law_size" s_l_size ["_law_script"]
  d_l_lock : Dfn K mg "_law_lock" s_l_lock ["_law_number"]
  d_l_rank : Dfn K mg "_law_rank" s_l_rank ["_law_place", "_law_size_here"]
  d_l_ranks : Dfn K mg "_law_ranks" s_l_ranks ["_law_first", "_law_size_here"]
  d_l_many : Dfn K mg "_law_many" s_l_many ["_law_first", "_law_size_here"]
  d_l_mixed : Dfn K mg "_law_mixed" s_l_mixed ["_law_first", "_law_size_here"]
  d_l_built : Dfn K mg "_law_built" s_l_built ["_law_first", "_law_size_here"]
  d_l_doors : Dfn K mg "_law_doors" s_l_doors ["_law_script", "_law_size_here"]
  d_l_lying : Dfn K mg "_law_lying" s_l_lying ["_law_script", "_law_size_here"]
  d_l_taken : Dfn K mg "_law_taken" s_l_taken ["_law_lying_here", "_law_room", "_law_held"]
  d_l_steps : Dfn K mg "_law_steps" s_l_steps ["_law_doors_here", "_law_lying_here", "_law_room", "_law_held"]
  d_l_hand : Dfn K mg "_law_hand" s_l_hand ["_law_found", "_law_due_here"]
  d_l_walk : Dfn K mg "_law_walk" s_l_walk ["_law_script", "_law_size_here", "_law_doors_here"]
  d_l_due : Dfn K mg "_law_due" s_l_due ["_law_doors_here", "_law_lying_here", "_law_size_here", "_law_walk_here"]
  d_l_told : Dfn K mg "_law_told" s_l_told ["_law_maze", "_law_walk_here"]
  d_l_refused : Dfn K mg "_law_refused" s_l_refused ["_law_maze", "_law_walk_here"]
  d_law : Dfn K mg "law" s_law ["_law_script"]
end Mz
namespace Mz
open PySem PySem.Spec PyProof.Rows L2 Evl
/-! ### the tactics of the readings -/
local macro_rules | `(tactic| walk_at "mz side") => `(tactic| first
  | assumption
  | omega
  | decide
  | exact Or.inl ⟨by omega, by omega⟩
  | exact Or.inr ⟨by omega, by omega⟩
  | exact ⟨by omega, by omega⟩
  | exact ⟨by decide, by decide, by decide⟩)
local macro_rules | `(tactic| walk_at "mz ev1") => `(tactic| first
  | exact ev_c
  | exact ev_var rfl
  | with_reducible apply ev_op
  | with_reducible exact rv_I0
  | ((with_reducible refine rv_I ?_); walk_at "mz side")
  | with_reducible exact rv_eqI
  | with_reducible exact rv_neI
  | with_reducible exact rv_isN
  | with_reducible exact rv_notN
  | with_reducible apply ev_un
  | with_reducible exact ru_neg
  | with_reducible apply ev_abs
  | with_reducible apply et_test
  | with_reducible apply et_B
  | with_reducible apply et_not
  | with_reducible apply et_and
  | with_reducible apply et_or
  | with_reducible apply ev_andV
  | with_reducible apply ev_orV
  | with_reducible apply ev_notV
  | with_reducible exact ea_nil
  | with_reducible apply ea_cons
  | with_reducible exact ea_tn
  | with_reducible apply ea_tc
  | with_reducible refine td_tup ?_ (by first | decide | simp)
  | with_reducible exact et_yes
  | ((with_reducible show ((_ : Bool) = (_ : Bool)) → _); intro _))
local macro_rules | `(tactic| walk_at "mz ev") => `(tactic| repeat' walk_at "mz ev1")
/-! ### data of a heap that stands below -/
section
variable {K : PySem.W.Frag} {σ : L2.St} {H H' H0 : Hp} {ta tb te tl : TE} {t : TT} {tu tz : TS} {D : Ends} {g : TG} {d : PyData} {ds : List PyData} {v : V} {tr : TA}
theorem ev_of_tdN (h : EvTd te σ H .none) : Ev te σ H .non := fun H1 e Q q => h H1 e Q fun v H2 e2 p => by cases p; exact q H2 e2
theorem ev_of_edN (h : EvD K te σ H .none) : Ev te σ H .non := fun H1 e Q q => h H1 e Q fun v H2 e2 p => by cases p; exact q H2 e2
theorem atI_len {α β : Type} {xs : List α} {ys : List β} (hl : xs.length = ys.length) {i : Int} {y : β} {j : Nat} (h : atI ys i = some y) (h1 : ixN ys.length i = some j) {x : α} (hx : xs[j]? = some x) : atI xs i = some x := by
  unfold atI
  rw [hl, h1]
  exact hx
/-- an item of data that stands -/
theorem dp_item {i : Int} (h : Dp K H0 v (.tuple ds)) (hi : atI ds i = some d) : ∃ u, Dp K H0 u d ∧ ∀ {ta tb : TE} {σ : L2.St} {H : Hp}, Ex H0 H → Ev ta σ H v → Ev tb σ H (.int i) → Ev (tOp (rIxT K) ta tb) σ H u := by
  cases h with
  | tup ho hd =>
    rename_i a xs
    obtain ⟨j, h1, h2, h3, _⟩ := atI_get hi
    obtain ⟨w, h4, h5⟩ := dpAll_get hd h2
    have hat : atI xs i = some w := by
      unfold atI at hi ⊢
      rw [dpAll_len hd]
      cases e5 : ixN ds.length i with
      | none => rw [e5] at hi; cases hi
      | some k =>
        have hk := (ixN_seq e5).1
        rw [hk] at h1
        cases h1
        exact h4
    exact ⟨w, h5, fun e h1 h2 => ev_op h1 h2 (rv_ixT (ex_t e ho) hat)⟩
theorem dp_itemL {i : Int} (h : Dp K H0 v (.list ds)) (hi : atI ds i = some d) : ∃ u, Dp K H0 u d ∧ ∀ {ta tb : TE} {σ : L2.St} {H : Hp}, Ex H0 H → Ev ta σ H v → Ev tb σ H (.int i) → Ev (tOp (rIxL K) ta tb) σ H u := by
  cases h with
  | lst ho hd =>
    rename_i a xs
    obtain ⟨j, h1, h2, h3, _⟩ := atI_get hi
    obtain ⟨w, h4, h5⟩ := dpAll_get hd h2
    have hat : atI xs i = some w := by
      unfold atI at hi ⊢
      rw [dpAll_len hd]
      cases e5 : ixN ds.length i with
      | none => rw [e5] at hi; cases hi
      | some k =>
        have hk := (ixN_seq e5).1
        rw [hk] at h1
        cases h1
        exact h4
    exact ⟨w, h5, fun e h1 h2 => ev_op h1 h2 (rv_ixL (ex_l e ho) hat)⟩
/-- loops over it -/
theorem s_forV (h : Ev tl σ H v) (hv : Dp K H0 v (.list ds)) (e0 : Ex H0 H) (Pv : Nat → L2.St → Hp → Prop) (h0 : ∀ H1, Ex H H1 → Pv 0 σ H1) (hx : ∀ i σ' H', Pv i σ' H' → Ex H0 H')
    (hs : ∀ i d x σ' H', ds[i]? = some d → Dp K H0 x d → Pv i σ' H' → g x σ' H' fun σ2 H2 => tu { D with nx := Pv (i + 1), ct := Pv (i + 1), bk := D.nx } σ2 H2)
    (hd : ∀ σ' H', Pv ds.length σ' H' → D.nx σ' H') : tFor (iList K tl) g tu D σ H := by
  cases hv with
  | lst ho hda =>
    rename_i a xs
    have hlen := dpAll_len hda
    refine s_forL h (ex_l e0 ho) Pv h0 (fun i σ' H' _ p => ex_l (hx i σ' H' p) ho) (fun i x σ' H' hx' p => ?_) (fun σ' H' p => hd σ' H' (by rw [← hlen]; exact p))
    obtain ⟨d, hd1, hd2⟩ := dpAll_getV hda hx'
    exact hs i d x σ' H' hd1 hd2 p
theorem q_forV (h : Ev tl σ H v) (hv : Dp K H0 v (.list ds)) (e0 : Ex H0 H) (Pv : Nat → L2.St → Hp → Prop) (h0 : ∀ H1, Ex H H1 → Pv 0 σ H1) (hx : ∀ i σ' H', Pv i σ' H' → Ex H0 H')
    (hs : ∀ i d x σ' H', ds[i]? = some d → Dp K H0 x d → Pv i σ' H' → g x σ' H' fun σ2 H2 => tu { D with nx := Pv (i + 1), ct := Pv (i + 1), bk := tz D } σ2 H2)
    (hd : ∀ σ' H', Pv ds.length σ' H' → tz D σ' H') : tSeq (tFor (iList K tl) g tu) tz D σ H := s_forV (D := { D with nx := tz D }) h hv e0 Pv h0 hx hs hd
/-- comprehensions over it -/
theorem filt_take {α β : Type} {xs : List α} {i : Nat} {a : α} (h : xs[i]? = some a) (p : α → Bool) (w : α → β) : ((xs.take (i + 1)).filter p).map w = ((xs.take i).filter p).map w ++ (if p a = true then [w a] else []) := by
  have e : xs.take (i + 1) = xs.take i ++ [a] := by rw [List.take_succ, h]; rfl
  rw [e, List.filter_append, List.map_append]
  by_cases hp : p a = true
  · simp [hp]
  · simp [hp]
theorem lt_lcV {α : Type} {Dd : α → PyData} {xs : List α} {lv : V} {vs : List Nat} (p : α → Bool) (w : α → PyData) (h : Ev tl σ H lv) (hl : Dp K H lv (.list (xs.map Dd))) (hn : xs.length ≤ 40000)
    (hg : ∀ a, a ∈ xs → ∀ x H1, Ex H H1 → Dp K H x (Dd a) → ∀ Q : L2.St → Hp → Prop, (∀ σ2, wipe σ2 vs = wipe σ vs → EvT t σ2 H1 (p a) → (p a = true → EvTd te σ2 H1 (w a)) → Q σ2 H1) → g x (wipe σ vs) H1 Q) :
    EvLT (tLc (iList K tl) g t te vs) σ H ((xs.filter p).map w) := fun H1 e Q q => h H1 e _ fun H2 e2 => by
  cases hl with
  | lst ho hda =>
    rename_i a ys
    have hlen := dpAll_len hda
    rw [List.length_map] at hlen
    have e02 := e.trans e2
    refine ⟨a, rfl, ⟨ys, ex_l e02 ho⟩, fun Dl hD => lc_list (K := K) (a := a) (xs := ys) (fun i H' => H2 Dl = none ∧ Ex H2 H' ∧ LstT H' Dl (((xs.take i).filter p).map w)) ⟨hD, Ex.new hD, ⟨[], upd_same, .nil⟩⟩ (fun i H' _ pp => ex_l (e02.trans pp.2.1) ho) (fun i x H' hx pp => ?_) (fun H' pp => ?_)⟩
    · obtain ⟨p1, p2, zs, p3, p4⟩ := pp
      obtain ⟨d, hd1, hd2⟩ := dpAll_getV hda hx
      rw [List.getElem?_map] at hd1
      obtain ⟨b, hb, rfl⟩ := Option.map_eq_some_iff.mp hd1
      have hil : i < xs.length := (List.getElem?_eq_some_iff.mp hb).1
      refine hg b (List.mem_of_getElem? hb) x H' (e02.trans p2) hd2 _ fun σ2 hw ht he => ⟨hw, ht H' (Ex.refl H') _ fun H3 e3 => ?_⟩
      cases hf : p b with
      | true =>
        show te σ2 H3 fun y H4 => ∃ acc, H4 Dl = some (.lst acc) ∧ acc.length < sizeLine ∧ (H2 Dl = none ∧ Ex H2 (upd H4 Dl (.lst (acc ++ [y]))) ∧ LstT (upd H4 Dl (.lst (acc ++ [y]))) Dl (((xs.take (i + 1)).filter p).map w))
        refine he hf H3 e3 _ fun y H4 e4 q4 => ⟨zs, e4 Dl _ (e3 Dl _ p3), sz_lt ?_, p1, Ex.mut ((p2.trans e3).trans e4) p1, ?_⟩
        · rw [p4.len, List.length_map]
          have h1 := List.length_filter_le p (xs.take i)
          have h2 := List.length_take_le i xs
          omega
        · rw [filt_take hb, if_pos hf]
          exact LstT.push (e4 Dl _ (e3 Dl _ p3)) (p4.ex (e3.trans e4)) q4
      | false =>
        show H2 Dl = none ∧ Ex H2 H3 ∧ LstT H3 Dl (((xs.take (i + 1)).filter p).map w)
        refine ⟨p1, p2.trans e3, ?_⟩
        rw [filt_take hb, if_neg (by rw [hf]; simp), List.append_nil]
        exact ⟨zs, e3 Dl _ p3, p4.ex e3⟩
    · obtain ⟨p1, p2, p3⟩ := pp
      rw [hlen, List.take_length] at p3
      exact q Dl H' (fresh_back e2 p1) (e2.trans p2) p3
/-- clear -/
theorem q_clear {l : Addr} {xs : List V} (ha : Ev ta σ H (.ref l)) (hl : H l = some (.lst xs)) (k : ∀ H1, Ex H H1 → H1 l = some (.lst xs) → tz D σ (upd H1 l (.lst []))) : tSeq (tDrop (tBM0 K "list" rClear ta)) tz D σ H := ha H (Ex.refl H) _ fun H1 e1 => ⟨Or.inl ⟨rfl, xs, sq_of (e1 l _ hl)⟩, l, xs, rfl, rfl, e1 l _ hl, k H1 e1 (e1 l _ hl)⟩
end
section
variable {K : PySem.W.Frag} {σ : L2.St} {H H' H0 : Hp} {ta tb te tl : TE} {v : V} {tr : TA}
theorem rv_eqB {a b : Bool} : RV rEq (.bl a) (.bl b) H (.bl (decide (a = b))) := fun H1 e Q q => ⟨rfl, by
  have e2 : decide (V.bl a = V.bl b) = decide (a = b) := by simp
  rw [e2]
  exact q H1 (Ex.refl H1)⟩
theorem rv_neB {a b : Bool} : RV rNe (.bl a) (.bl b) H (.bl (!decide (a = b))) := fun H1 e Q q => ⟨rfl, by
  have e2 : decide (V.bl a = V.bl b) = decide (a = b) := by simp
  rw [e2]
  exact q H1 (Ex.refl H1)⟩
theorem rv_eqS {a b : Str} : RV rEq (.str a) (.str b) H (.bl (decide (a = b))) := fun H1 e Q q => ⟨rfl, by
  have e2 : decide (V.str a = V.str b) = decide (a = b) := by simp
  rw [e2]
  exact q H1 (Ex.refl H1)⟩
theorem rv_neS {a b : Str} : RV rNe (.str a) (.str b) H (.bl (!decide (a = b))) := fun H1 e Q q => ⟨rfl, by
  have e2 : decide (V.str a = V.str b) = decide (a = b) := by simp
  rw [e2]
  exact q H1 (Ex.refl H1)⟩
end

/-! ### the data of mazes -/
abbrev Key2 := Int × Int
abbrev Door := Int × Int × Option Int
def lockD : Option Int → PyData
  | none => .none
  | some k => .int k
def doorD (d : Door) : PyData := .tuple [.int d.1, .int d.2.1, lockD d.2.2]
def keyD (k : Key2) : PyData := .tuple [.int k.1, .int k.2]
def intsD (ns : List Int) : PyData := .tuple (ns.map PyData.int)
mutual
def nb : PyData → Bool
  | .none => true
  | .int _ => true
  | .list xs => nbAll xs
  | .tuple xs => nbAll xs
  | _ => false
def nbAll : List PyData → Bool
  | [] => true
  | x :: xs => nb x && nbAll xs
end
mutual
theorem nb_lay : ∀ d : PyData, nb d = true → d.canLay0 = true
  | .none, _ => by simp only [PyData.canLay0]
  | .int _, _ => by simp only [PyData.canLay0]
  | .bool _, h => by simp [nb] at h
  | .str _, h => by simp [nb] at h
  | .dict _, h => by simp [nb] at h
  | .list xs, h => by simp only [PyData.canLay0]; exact nb_layAll xs (by simpa only [nb] using h)
  | .tuple xs, h => by simp only [PyData.canLay0]; exact nb_layAll xs (by simpa only [nb] using h)
theorem nb_layAll : ∀ ds : List PyData, nbAll ds = true → PyData.canLayAll0 ds = true
  | [], _ => by simp only [PyData.canLayAll0]
  | x :: xs, h => by
    simp only [nbAll, Bool.and_eq_true] at h
    simp only [PyData.canLayAll0, Bool.and_eq_true]
    exact ⟨nb_lay x h.1, nb_layAll xs h.2⟩
end
mutual
theorem eqv_nb : ∀ d e : PyData, nb d = true → nb e = true → (PyData.eqv d e = true ↔ d = e)
  | .none, .none, _, _ => by simp [PyData.eqv]
  | .none, .int _, _, _ => by simp [PyData.eqv]
  | .none, .list _, _, _ => by simp [PyData.eqv]
  | .none, .tuple _, _, _ => by simp [PyData.eqv]
  | .int _, .none, _, _ => by simp [PyData.eqv]
  | .int i, .int j, _, _ => by simp [PyData.eqv]
  | .int _, .list _, _, _ => by simp [PyData.eqv]
  | .int _, .tuple _, _, _ => by simp [PyData.eqv]
  | .list _, .none, _, _ => by simp [PyData.eqv]
  | .list _, .int _, _, _ => by simp [PyData.eqv]
  | .list xs, .list ys, h, q => by
    simp only [PyData.eqv, PyData.list.injEq]
    exact eqv_nbAll xs ys (by simpa only [nb] using h) (by simpa only [nb] using q)
  | .list _, .tuple _, _, _ => by simp [PyData.eqv]
  | .tuple _, .none, _, _ => by simp [PyData.eqv]
  | .tuple _, .int _, _, _ => by simp [PyData.eqv]
  | .tuple _, .list _, _, _ => by simp [PyData.eqv]
  | .tuple xs, .tuple ys, h, q => by
    simp only [PyData.eqv, PyData.tuple.injEq]
    exact eqv_nbAll xs ys (by simpa only [nb] using h) (by simpa only [nb] using q)
  | .bool _, _, h, _ => by simp [nb] at h
  | .str _, _, h, _ => by simp [nb] at h
  | .dict _, _, h, _ => by simp [nb] at h
  | .none, .bool _, _, h => by simp [nb] at h
  | .none, .str _, _, h => by simp [nb] at h
  | .none, .dict _, _, h => by simp [nb] at h
  | .int _, .bool _, _, h => by simp [nb] at h
  | .int _, .str _, _, h => by simp [nb] at h
  | .int _, .dict _, _, h => by simp [nb] at h
  | .list _, .bool _, _, h => by simp [nb] at h
  | .list _, .str _, _, h => by simp [nb] at h
  | .list _, .dict _, _, h => by simp [nb] at h
  | .tuple _, .bool _, _, h => by simp [nb] at h
  | .tuple _, .str _, _, h => by simp [nb] at h
  | .tuple _, .dict _, _, h => by simp [nb] at h
theorem eqv_nbAll : ∀ ds es : List PyData, nbAll ds = true → nbAll es = true → (PyData.eqvAll ds es = true ↔ ds = es)
  | [], [], _, _ => by simp [PyData.eqvAll]
  | [], _ :: _, _, _ => by simp [PyData.eqvAll]
  | _ :: _, [], _, _ => by simp [PyData.eqvAll]
  | x :: xs, y :: ys, h, q => by
    simp only [nbAll, Bool.and_eq_true] at h q
    simp only [PyData.eqvAll, Bool.and_eq_true, List.cons.injEq, eqv_nb x y h.1 q.1, eqv_nbAll xs ys h.2 q.2]
end
theorem eqv_self {d : PyData} (h : nb d = true) : PyData.eqv d d = true := (eqv_nb d d h h).mpr rfl
theorem eqv_dec {d e : PyData} {p : Prop} [Decidable p] (h : nb d = true) (q : nb e = true) (k : d = e ↔ p) : PyData.eqv d e = decide p := by
  by_cases c : p
  · rw [decide_eq_true c]
    exact (eqv_nb d e h q).mpr (k.mpr c)
  · rw [decide_eq_false c]
    cases z : PyData.eqv d e with
    | false => rfl
    | true => exact absurd (k.mp ((eqv_nb d e h q).mp z)) c
theorem nbAll_iff : ∀ {ds : List PyData}, nbAll ds = true ↔ ∀ d ∈ ds, nb d = true
  | [] => by simp [nbAll]
  | x :: xs => by simp [nbAll, nbAll_iff (ds := xs)]
theorem nbAll_map {α : Type} {f : α → PyData} (h : ∀ a, nb (f a) = true) (l : List α) : nbAll (l.map f) = true := nbAll_iff.mpr fun d hd => by
  obtain ⟨a, _, rfl⟩ := List.mem_map.mp hd
  exact h a
/-- depth -/
theorem depthAll_le {n : Nat} : ∀ {ds : List PyData}, (∀ d ∈ ds, d.depth ≤ n) → PyData.depthAll ds ≤ n
  | [], _ => by simp [PyData.depthAll]
  | x :: xs, h => by
    have h1 := h x (by simp)
    have h2 := depthAll_le (ds := xs) fun d hd => h d (by simp [hd])
    simp only [PyData.depthAll]
    omega
theorem depth_tuple {n : Nat} {ds : List PyData} (h : ∀ d ∈ ds, d.depth ≤ n) : PyData.depth (.tuple ds) ≤ n + 1 := by
  have := depthAll_le h
  simp only [PyData.depth]
  omega
theorem depth_list {n : Nat} {ds : List PyData} (h : ∀ d ∈ ds, d.depth ≤ n) : PyData.depth (.list ds) ≤ n + 1 := by
  have := depthAll_le h
  simp only [PyData.depth]
  omega
theorem depth_int (i : Int) : PyData.depth (.int i) = 0 := by simp [PyData.depth]
theorem depth_map {α : Type} {n : Nat} {f : α → PyData} (h : ∀ a, (f a).depth ≤ n) (l : List α) : ∀ d ∈ l.map f, d.depth ≤ n := fun d hd => by
  obtain ⟨a, _, rfl⟩ := List.mem_map.mp hd
  exact h a
theorem shaped_of {d : PyData} (h : nb d = true) (k : d.depth ≤ 64) : SeqAt.shaped d = true := by
  show (d.canLay0 && decide (d.depth ≤ 64)) = true
  rw [Bool.and_eq_true]
  exact ⟨nb_lay d h, decide_eq_true k⟩
theorem nb_lock (l : Option Int) : nb (lockD l) = true := by cases l <;> simp [lockD, nb]
theorem nb_door (d : Door) : nb (doorD d) = true := by simp [doorD, nb, nbAll, nb_lock]
theorem nb_key (k : Key2) : nb (keyD k) = true := by simp [keyD, nb, nbAll]
theorem nb_intD (i : Int) : nb (.int i) = true := by simp [nb]
theorem nb_ints (ns : List Int) : nb (intsD ns) = true := by simp only [intsD, nb]; exact nbAll_map nb_intD ns
theorem dep_lock (l : Option Int) : (lockD l).depth = 0 := by cases l <;> simp [lockD, PyData.depth]
theorem dep_door (d : Door) : (doorD d).depth ≤ 1 := by simp [doorD, PyData.depth, PyData.depthAll, dep_lock]
theorem dep_key (k : Key2) : (keyD k).depth ≤ 1 := by simp [keyD, PyData.depth, PyData.depthAll]
theorem dep_ints (ns : List Int) : (intsD ns).depth ≤ 1 := depth_tuple (depth_map (fun i => by simp [PyData.depth]) ns)
theorem sh_key (k : Key2) : SeqAt.shaped (keyD k) = true := shaped_of (nb_key k) (by have := dep_key k; omega)
theorem sh_ints (ns : List Int) : SeqAt.shaped (intsD ns) = true := shaped_of (nb_ints ns) (by have := dep_ints ns; omega)
theorem nb_keys (ks : List Key2) : nb (.list (ks.map keyD)) = true := by simp only [nb]; exact nbAll_map nb_key ks
theorem sh_keys (ks : List Key2) : SeqAt.shaped (.list (ks.map keyD)) = true := shaped_of (nb_keys ks) (by have := depth_list (depth_map dep_key ks); omega)
theorem nb_doors (ks : List Door) : nb (.list (ks.map doorD)) = true := by simp only [nb]; exact nbAll_map nb_door ks
theorem sh_doors (ks : List Door) : SeqAt.shaped (.list (ks.map doorD)) = true := shaped_of (nb_doors ks) (by have := depth_list (depth_map dep_door ks); omega)
theorem keyD_inj {a b : Key2} : keyD a = keyD b ↔ a = b := by
  obtain ⟨a1, a2⟩ := a
  obtain ⟨b1, b2⟩ := b
  simp [keyD]
theorem eqv_key (a b : Key2) : PyData.eqv (keyD a) (keyD b) = decide (a = b) := eqv_dec (nb_key a) (nb_key b) keyD_inj
theorem any_key (k : Key2) : ∀ ks : List Key2, ((ks.map keyD).any fun z => PyData.eqv z (keyD k)) = decide (k ∈ ks)
  | [] => by simp
  | a :: r => by
    have h := any_key k r
    rw [List.map_cons, List.any_cons, h, eqv_key]
    by_cases e : a = k
    · subst e; simp
    · have e2 : ¬ k = a := fun z => e z.symm
      simp [e, e2]
theorem map_inj {α β : Type} {f : α → β} (h : ∀ a b, f a = f b → a = b) : ∀ {l m : List α}, l.map f = m.map f → l = m
  | [], [], _ => rfl
  | [], _ :: _, e => by simp at e
  | _ :: _, [], e => by simp at e
  | a :: l, b :: m, e => by
    simp only [List.map_cons, List.cons.injEq] at e
    rw [h a b e.1, map_inj h e.2]
theorem intsD_inj {a b : List Int} : intsD a = intsD b ↔ a = b := by
  refine ⟨fun e => ?_, fun e => by rw [e]⟩
  simp only [intsD, PyData.tuple.injEq] at e
  exact map_inj (fun a b z => by simpa using z) e
theorem eqv_ints (a b : List Int) : PyData.eqv (intsD a) (intsD b) = decide (a = b) := eqv_dec (nb_ints a) (nb_ints b) intsD_inj
/-- the kinds of which p tells True, ascending -/
def kindsOf (p : Nat → Bool) : List Int := ((List.range 5).filter p).map fun (i : Nat) => (i : Int)
theorem kindsOf_data (p : Nat → Bool) : ((List.range 5).filter p).map (fun (i : Nat) => PyData.int (i : Int)) = (kindsOf p).map PyData.int := by
  unfold kindsOf
  rw [List.map_map]
  rfl
def keysIn (ks : List Key2) (room : Int) : List Int := kindsOf fun i => decide ((room, (i : Int)) ∈ ks)
def takenF (ks : List Key2) (room : Int) (held : List Int) : List Int := kindsOf fun i => decide ((i : Int) ∈ held) || decide ((room, (i : Int)) ∈ ks)
def mazeD (n : Int) (dd : List PyData) (ks : List Key2) : PyData := .tuple [.int n, .list dd, .list (ks.map keyD)]
/-- the room is there -/
abbrev Here (n room : Int) : Prop := 0 ≤ room ∧ room < n
/-- a cell of the script -/
def cellAt (ns : List Int) (k : Int) : Int := if k < ns.length then ns.getD k.toNat 0 else 0

section
variable {P : Program} {w : World} {K : PySem.W.Frag} {mg : Str → Option Value} {base : Heap}
/-! ### isinstance -/
theorem rc_isi {H : Hp} {x c : V} {t u : Value} {b : Bool} (kc : ClsV c u) (ty : ∀ H1, Ex H H1 → TyX K H1 x t) (hk : PySem.W.kitOne K t u = some b) : RC (rIsi K) [x, c] H (.bl b) := fun H1 e Q q => ⟨x, c, t, u, b, rfl, kc, ty H1 e, hk, q H1 (Ex.refl H1)⟩
theorem ty_tup {H : Hp} {v : V} {ds : List PyData} (h : Dp K H v (.tuple ds)) : TyX K H v (.type "tuple") := by
  cases h with
  | tup h _ =>
    rcases h with (h | ⟨o, h⟩) | ⟨o, its, n, h, hc, _⟩
    · exact .base (.tup h)
    · exact .fTuple h
    · exact .kTuple h hc
theorem ty_lst {H : Hp} {v : V} {ds : List PyData} (h : Dp K H v (.list ds)) : TyX K H v (.type "list") := by
  cases h with
  | lst h _ =>
    rcases h with (h | ⟨o, h⟩) | ⟨o, its, n, h, hc, _⟩
    · exact .base (.lst h)
    · exact .base (.frz h)
    · exact .kList h hc
theorem ev_isi {σ : L2.St} {H : Hp} {ta : TE} {v : V} {n m : String} {b : Bool} (h : Ev ta σ H v) (ty : ∀ H1, Ex H H1 → TyX K H1 v (.type n)) (hk : kitB n m = some b) : Ev (tCB (rIsi K) (tCons ta (tCons (tC (.ty m)) tNil))) σ H (.bl b) :=
  ev_cb (ea_cons h (ea_cons ev_c ea_nil)) (rc_isi (.ty m) ty (kit_ty hk))
theorem ev_isiD {σ : L2.St} {H : Hp} {ta : TE} {d : PyData} {n m : String} {b : Bool} (h : EvD K ta σ H d) (ty : ∀ v H1, Ex H H1 → Dp K H1 v d → TyX K H1 v (.type n)) (hk : kitB n m = some b) : Ev (tCB (rIsi K) (tCons ta (tCons (tC (.ty m)) tNil))) σ H (.bl b) := fun H1 e Q q =>
  h H1 e _ fun v H2 e2 p => ⟨v, .ty m, .type n, .type m, b, rfl, .ty m, ty v H2 (e.trans e2) p, kit_ty hk, q H2 e2⟩
theorem ev_isE {st : L2.St} {H : Hp} {ta : TE} {a D : Addr} {c : V} {cv : Value} {b : Bool} (h : Ev ta st H (.ref a)) (hc : ∀ u, L2.RelV c u → u = cv) (hk : PySem.W.kitOne K (.ref D) cv = some b) : Ev (tCB (rIsE K D a) (tCons ta (tCons (tC c) tNil))) st H (.bl b) :=
  ev_cb (ea_cons h (ea_cons ev_c ea_nil)) fun H1 _ Q q => ⟨c, cv, b, rfl, hc, hk, q H1 (Ex.refl H1)⟩
end

def mix (c k : Int) : Int := (c + 7919 * k + 1) * 48271 % 1000003 * ((c + 7919 * k + 1) * 48271 % 1000003) % 999983
theorem mix_pos (c k : Int) : 0 ≤ mix c k := Int.emod_nonneg _ (by decide)
theorem mix_lt (c k : Int) : mix c k < 999983 := Int.emod_lt_of_pos _ (by decide)
def sp_l_mix (K : PySem.W.Frag) : Sp := fun vs H Q _ => ∃ c k : Int, vs = [.int c, .int k] ∧ ∀ H2, Ex H H2 → Q (.int (mix c k)) H2
section
variable {P : Program} {w : World} {K : PySem.W.Frag} {mg : Str → Option Value} {base : Heap}
theorem ok_l_mix (T : Txt K mg) : Kept P w K mg base 1 "_law_mix" ["_law_cell", "_law_k"] (sp_l_mix K) := by
  refine T.d_l_mix.kept sc_l_mix (fun vs H Q E h => ?_) (fun cdv A outer s H vs Q E hr h => ?_)
  · obtain ⟨c, k, rfl, _⟩ := h
    rfl
  · obtain ⟨c, k, rfl, q⟩ := h
    refine ⟨_, (pss_cons (ps_set (i := 2) sc_l_mix.nd rfl (Or.inl rfl) (pe_op op_mod (pe_op op_mul (pe_op op_add (pe_op op_add (pv 0) (pe_op op_mul pe_int (pv 1))) pe_int) pe_int) pe_int))
      (pss_one (ps_ret (pe_op op_mod (pe_op op_mul (pv 2) (pv 2)) pe_int)))), ?_⟩
    refine q_asg (v := .int ((c + 7919 * k + 1) * 48271 % 1000003)) ?_ fun H1 e1 => ?_
    · walk_at "mz ev"
    refine s_ret (v := .int (mix c k)) ?_ fun H2 e2 => q _ (e1.trans e2)
    unfold mix
    walk_at "mz ev"
theorem sv_l_mix {H : Hp} {c k : Int} : SpV (sp_l_mix K) [.int c, .int k] H (.int (mix c k)) := fun H1 e Q q E => ⟨c, k, rfl, q⟩
end

section
variable {P : Program} {w : World} {K : PySem.W.Frag} {mg : Str → Option Value} {base : Heap}
/-! ### a cell of the script -/
def sp_l_cell_at (K : PySem.W.Frag) : Sp := fun vs H Q _ => ∃ (a : Addr) (ns : List Int) (k : Int), vs = [.ref a, .int k] ∧ SqL K H a (ns.map V.int) ∧ 0 ≤ k ∧ ∀ H2, Ex H H2 → Q (.int (cellAt ns k)) H2
theorem ok_l_cell_at (T : Txt K mg) : Kept P w K mg base 1 "_law_cell_at" ["_law_script", "_law_k"] (sp_l_cell_at K) := by
  refine T.d_l_cell_at.kept sc_l_cell_at (fun vs H Q E h => ?_) (fun cdv A outer s H vs Q E hr h => ?_)
  · obtain ⟨a, ns, k, rfl, _⟩ := h
    rfl
  · obtain ⟨a, ns, k, rfl, hS, h0, q⟩ := h
    refine ⟨_, (pss_cons (ps_if (pt_cmpR op_lt (pv 1) (pe_callB (call_len_seq_K (K := K) rfl) (by rfl) T.n_len (by decide +kernel) (pa_cons (pv 0) pa_nil)) (nomark _))
        (pss_one (ps_ret (pe_ix (ix_list_K (K := K) rfl) (pv 0) (pv 1) (fun _ _ => rfl))))
        pss_nil)
      (pss_one (ps_ret pe_int))), ?_⟩
    refine q_when (et_test (ev_op (ev_var rfl) (ev_lenS (ev_var rfl) hS) rv_I0)) (fun hb H1 e1 => ?_) (fun hb H1 e1 => ?_)
    · have hb' : k < (ns.map V.int).length := of_decide_eq_true hb
      rw [List.length_map] at hb'
      have e : (ns.map V.int)[k.toNat]? = some (.int (cellAt ns k)) := by
        have hl : k.toNat < ns.length := by omega
        rw [List.getElem?_map, List.getElem?_eq_getElem hl]
        simp [cellAt, hb', List.getD, List.getElem?_eq_getElem hl]
      refine s_ret (v := .int (cellAt ns k)) (ev_op (ev_var rfl) (ev_var rfl) (rv_ixL (ex_l e1 hS) ?_)) fun H2 e2 => q _ (e1.trans e2)
      exact at_of (by omega) e
    · have hb' : ¬ k < (ns.map V.int).length := of_decide_eq_false hb
      rw [List.length_map] at hb'
      have e : cellAt ns k = 0 := by simp [cellAt, hb']
      refine s_ret (v := .int 0) ev_c fun H2 e2 => ?_
      have := q _ (e1.trans e2)
      rw [e] at this
      exact this
theorem sv_l_cell_at {H : Hp} {a : Addr} {ns : List Int} {k : Int} (hS : SqL K H a (ns.map V.int)) (h0 : 0 ≤ k) : SpV (sp_l_cell_at K) [.ref a, .int k] H (.int (cellAt ns k)) := fun H1 e Q q E => ⟨a, ns, k, rfl, ex_l e hS, h0, q⟩
end

section
variable {P : Program} {w : World} {K : PySem.W.Frag} {mg : Str → Option Value} {base : Heap}
/-! ### a whole number -/
def sp_l_whole (K : PySem.W.Frag) : Sp := fun vs H Q _ => ∃ i : Int, vs = [.int i] ∧ ∀ H2, Ex H H2 → Q (.bl true) H2
theorem ok_l_whole (T : Txt K mg) : Kept P w K mg base 1 "_law_whole" ["_law_found"] (sp_l_whole K) := by
  refine T.d_l_whole.kept sc_l_whole (fun vs H Q E h => ?_) (fun cdv A outer s H vs Q E hr h => ?_)
  · obtain ⟨i, rfl, _⟩ := h
    rfl
  · obtain ⟨i, rfl, q⟩ := h
    refine ⟨_, (pss_one (ps_ret (pe_and (pe_callB (call_isi_K (K := K) rfl) (by rfl) T.n_isinstance (by decide +kernel) (pa_cons (pv 0) (pa_cons (pe_bltn (v := .ty "int") (u := .type "int") (by rfl) T.n_int (by decide +kernel) rfl) pa_nil))) (pe_one (pe_not (pe_callB (call_isi_K (K := K) rfl) (by rfl) T.n_isinstance (by decide +kernel) (pa_cons (pv 0) (pa_cons (pe_bltn (v := .ty "bool") (u := .type "bool") (by rfl) T.n_bool (by decide +kernel) rfl) pa_nil)))))))), ?_⟩
    refine s_ret (v := .bl (true && !false)) (ev_andV (ev_isi (n := "int") (ev_var rfl) (fun _ _ => .base (.int i)) (by decide +kernel)) fun _ => ev_notV (ev_isi (n := "int") (ev_var rfl) (fun _ _ => .base (.int i)) (by decide +kernel))) fun H1 e1 => q _ e1
theorem sv_l_whole {H : Hp} {i : Int} : SpV (sp_l_whole K) [.int i] H (.bl true) := fun H1 e Q q E => ⟨i, rfl, q⟩
end

/-! ### of laws -/
section
variable {K : PySem.W.Frag}
theorem cut_ints (ns : List Int) (lo hi : Option Int) : ∃ ms : List Int, cutV (ns.map V.int) lo hi = ms.map V.int ∧ ms.length ≤ ns.length := by
  refine ⟨(ns.drop (HT.sIx ns.length 0 lo)).take (HT.sIx ns.length ns.length hi - HT.sIx ns.length 0 lo), ?_, ?_⟩
  · unfold cutV
    simp [List.map_take, List.map_drop]
  · rw [List.length_take, List.length_drop]
    omega
theorem mod_here {n : Int} (h : 0 < n) (x : Int) : Here n (x % n) := ⟨Int.emod_nonneg _ (by omega), Int.emod_lt_of_pos _ h⟩
def sp_law (K : PySem.W.Frag) : Sp := fun vs H Q _ => ∃ (a : Addr) (ns : List Int), vs = [.ref a] ∧ SqL K H a (ns.map V.int) ∧ ns.length ≤ 63 ∧ ∀ H', Q (.bl true) H'
end

def mazeF (n : Int) (ds : List Door) (ks : List Key2) : PyData := mazeD n (ds.map doorD) ks
theorem nb_maze (n : Int) (ds : List Door) (ks : List Key2) : nb (mazeF n ds ks) = true := by
  have h1 := nb_doors ds
  have h2 := nb_keys ks
  simp only [mazeF, mazeD, nb, nbAll, Bool.and_eq_true, Bool.and_true, Bool.true_and]
  simp only [nb] at h1 h2
  exact ⟨h1, h2⟩
theorem sh_maze (n : Int) (ds : List Door) (ks : List Key2) : SeqAt.shaped (mazeF n ds ks) = true := shaped_of (nb_maze n ds ks) (by
  have h1 := depth_list (depth_map dep_door ds)
  have h2 := depth_list (depth_map dep_key ks)
  have := depth_tuple (n := 2) (ds := [.int n, .list (ds.map doorD), .list (ks.map keyD)]) (by
    intro d hd
    simp at hd
    rcases hd with rfl | rfl | rfl
    · simp [PyData.depth]
    · omega
    · omega)
  exact Nat.le_trans this (by decide))

section
variable {P : Program} {w : World} {K : PySem.W.Frag} {mg : Str → Option Value} {base : Heap}
/-! ### need_room -/
abbrev cNoRoom (K : PySem.W.Frag) : Value := .ref (He.ga K "NoRoom")
def sp_need_room (K : PySem.W.Frag) : Sp := fun vs H Q E => ∃ (v : V) (n room : Int) (rest : List PyData), vs = [v, .int room] ∧ Dp K H v (.tuple (.int n :: rest)) ∧ (Here n room → ∀ H2, Ex H H2 → Q .non H2) ∧ (¬ Here n room → ∀ H2, Ex H H2 → E (cNoRoom K) none H2)
theorem ok_need_room (T : Txt K mg) : Kept P w K mg base 1 "need_room" ["maze", "room"] (sp_need_room K) := by
  refine T.d_need_room.kept sc_need_room (fun vs H Q E h => ?_) (fun cdv A outer s H vs Q E hr h => ?_)
  · obtain ⟨v, n, room, rest, rfl, _⟩ := h
    rfl
  · obtain ⟨v, n, room, rest, rfl, hv, q, qe⟩ := h
    refine ⟨_, (pss_one (ps_if (PW.pt (pw_or (pt_cmpR op_lt (pv 1) pe_int (nomark _)) (pw_or1 (pt_cmpR op_ge (pv 1) (pe_ix (ix_tup_K (K := K) rfl) (pv 0) pe_int (fun _ _ => rfl)) (nomark _)))))
        (pss_one (ps_raise rfl (takes_of rfl rfl rfl rfl) (pmk_own PySem.F.excBase_ValueError T.e_NoRoom.xC T.e_NoRoom.gC T.e_NoRoom.kC (raises_own T.e_NoRoom.bC T.e_NoRoom.tC) rfl)))
        pss_nil)), ?_⟩
    refine s_when (b := decide (room < 0) || decide (n ≤ room)) (et_or (et_test (ev_op (ev_var rfl) ev_c rv_I0)) fun _ => et_test (ev_op (ev_var rfl) (ev_of_ed (ed_ixT (ed_any (ev_var rfl) hv) ev_c atI0)) rv_I0)) (fun hb H1 e1 => ?_) (fun hb H1 e1 => ?_)
    · refine qe (fun z => ?_) H1 e1
      obtain ⟨z1, z2⟩ := z
      simp at hb
      omega
    · refine q ?_ H1 e1
      simp at hb
      exact ⟨by omega, by omega⟩
end

section
variable {P : Program} {w : World} {K : PySem.W.Frag} {mg : Str → Option Value} {base : Heap}
/-! ### taken -/
def sp_taken (K : PySem.W.Frag) : Sp := fun vs H Q E => ∃ (v hv : V) (n room : Int) (dd : List PyData) (ks : List Key2) (held : List Int), vs = [v, .int room, hv] ∧ Dp K H v (mazeD n dd ks) ∧ Dp K H hv (intsD held) ∧ (Here n room → ∀ v H2, Ex H H2 → Td H2 v (intsD (takenF ks room held)) → Q v H2) ∧ (¬ Here n room → ∀ H2, Ex H H2 → E (cNoRoom K) none H2)
theorem taken_data (ks : List Key2) (room : Int) (held : List Int) : ((List.range (5 : Int).toNat).filter fun (i : Nat) => decide ((i : Int) ∈ held) || ((ks.map keyD).any fun z => PyData.eqv z (keyD (room, (i : Int))))).map (fun (i : Nat) => PyData.int (i : Int)) = (takenF ks room held).map PyData.int := by
  rw [show (5 : Int).toNat = 5 from rfl, kindsOf_data]
  unfold takenF
  congr 2
  funext i
  rw [any_key]
theorem ok_taken (T : Txt K mg) : Kept P w K mg base 2 "taken" ["maze", "room", "held"] (sp_taken K) := by
  refine T.d_taken.kept sc_taken (fun vs H Q E h => ?_) (fun cdv A outer s H vs Q E hr h => ?_)
  · obtain ⟨v, hv, n, room, dd, ks, held, rfl, _⟩ := h
    rfl
  · obtain ⟨v, hv, n, room, dd, ks, held, rfl, hm, hh, q, qe⟩ := h
    refine ⟨_, (pss_cons (ps_expr (pe_fn (ok_need_room (K := K) T) (hr.mono (by decide)) (passR (takes_of rfl rfl rfl rfl)) (by rfl) (pa_cons (pv 0) (pa_cons (pv 1) pa_nil))))
      (pss_one (ps_ret (pe_callTy (call_tuple_of_K (K := K) rfl) (by rfl) T.n_tuple (by decide +kernel) (pa_cons (pe_lc (own := [("kind", 3)]) (g := gName 3) rfl sc_taken.nd (pi_range1 (by rfl) T.n_range (pa_cons (pe_gint T.i_KINDS (by rfl)) pa_nil)) (blkOk_by (own := [("kind", 3)]) (N := ["maze", "room", "held", "kind"]) (sc := defScope s_taken) (by decide +kernel)) (fun _ _ _ _ _ => (pg_name (i := 3) sc_taken.nd rfl (Or.inl rfl))) (fun _ _ _ _ _ => pts_one (PW.pt (pw_or (pt_cmpR (op_in_seq_K (K := K) rfl) (pv 3) (pv 2) (by rfl)) (pw_or1 (pt_cmpR (op_inD_K (K := K) rfl (u65 hr)) (pe_tup (pa_cons (pv 1) (pa_cons (pv 3) pa_nil))) (pe_ix (ix_tup_K (K := K) rfl) (pv 0) pe_int (fun _ _ => rfl)) (by rfl)))))) (fun _ _ _ _ _ => (pv 3))) pa_nil))))), ?_⟩
    refine ⟨_, rfl, _, rfl, v, n, room, _, rfl, hm, fun hr1 H1 e1 => ?_, qe⟩
    have hm1 := dp_ex e1 hm
    have hh1 := dp_ex e1 hh
    dsimp only
    refine s_retP (P := fun v H' => Td H' v (intsD (takenF ks room held))) ?_ ?_
    rotate_left
    · exact fun v H2 e2 p => q hr1 v H2 (e1.trans e2) p
    unfold intsD
    rw [← taken_data]
    refine td_tupleL (lt_lcR1 (n := 5) (fun (i : Nat) => decide ((i : Int) ∈ held) || ((ks.map keyD).any fun z => PyData.eqv z (keyD (room, (i : Int))))) (fun (i : Nat) => PyData.int (i : Int)) (ea_cons ev_c ea_nil) (by decide) (fun x => rfl) (fun i H2 e2 hi => ?_) (fun i H2 e2 hi _ => td_int (ev_var rfl)))
    refine et_or (et_test (ev_inI (ev_var rfl) (.inl (ed_any (ev_var rfl) (dp_ex e2 hh1))))) fun _ => ?_
    exact et_test (ev_inD (ed_td (td_tup (ea_tc (td_int (ev_var rfl)) (ea_tc (td_int (ev_var rfl)) ea_tn)) (by simp))) (ed_ixT (ed_any (ev_var rfl) (dp_ex e2 hm1)) ev_c rfl) (sh_key _) (sh_keys ks))
end

/-! ### doors that open -/
def opensF (d : Door) (held : List Int) : Bool := match d.2.2 with
  | none => true
  | some k => decide (k ∈ held)
section
variable {P : Program} {w : World} {K : PySem.W.Frag} {mg : Str → Option Value} {base : Heap}
def sp_opens (K : PySem.W.Frag) : Sp := fun vs H Q _ => ∃ (v hv : V) (d : Door) (held : List Int), vs = [v, hv] ∧ Dp K H v (doorD d) ∧ Dp K H hv (intsD held) ∧ ∀ H2, Ex H H2 → Q (.bl (opensF d held)) H2
/-- l is None or l in held -/
theorem ev_open {σ : L2.St} {H : Hp} {t1 t2 t3 : TE} {l : Option Int} {d1 d2 : Int} {held : List Int} (h1 : EvD K t1 σ H (lockD l)) (h2 : EvD K t2 σ H (lockD l)) (h3 : EvD K t3 σ H (intsD held)) : Ev (tOrV (tOp (fun x y H Q => y = .non ∧ Q (.bl (decide (x = .non))) H) t1 (tC .non)) (tOp (rIn K false) t2 t3)) σ H (.bl (opensF (d1, d2, l) held)) := by
  cases l with
  | none => exact ev_is (ev_orV (b := true) (ev_isN (ev_of_edN h1)) (fun z => by simp at z)) (by simp [opensF])
  | some k => exact ev_is (ev_orV (ev_isN (ev_of_ed h1)) (fun _ => ev_inI (ev_of_ed h2) (.inl h3))) (by simp [opensF])
theorem et_open {σ : L2.St} {H : Hp} {t1 t2 t3 : TE} {l : Option Int} {d1 d2 : Int} {held : List Int} (h1 : EvD K t1 σ H (lockD l)) (h2 : EvD K t2 σ H (lockD l)) (h3 : EvD K t3 σ H (intsD held)) : EvT (tOr (tTest (tOp (fun x y H Q => y = .non ∧ Q (.bl (decide (x = .non))) H) t1 (tC .non))) (tTest (tOp (rIn K false) t2 t3))) σ H (opensF (d1, d2, l) held) := by
  cases l with
  | none =>
    have h := et_or (b := true) (u := tTest (tOp (rIn K false) t2 t3)) (et_test (ev_isN (ev_of_edN h1))) (fun z => by simp at z)
    simpa [opensF] using h
  | some k =>
    have h := et_or (et_test (ev_isN (ev_of_ed h1))) (fun _ => et_test (ev_inI (ev_of_ed h2) (.inl h3)))
    simpa [opensF] using h
theorem ok_opens (T : Txt K mg) : Kept P w K mg base 1 "opens" ["door", "held"] (sp_opens K) := by
  refine T.d_opens.kept sc_opens (fun vs H Q E h => ?_) (fun cdv A outer s H vs Q E hr h => ?_)
  · obtain ⟨v, hv, d, held, rfl, _⟩ := h
    rfl
  · obtain ⟨v, hv, ⟨d1, d2, l⟩, held, rfl, hd, hh, q⟩ := h
    refine ⟨_, (pss_one (ps_ret (pe_or (pe_cmpR op_isN (pe_ix (ix_tup_K (K := K) rfl) (pv 0) pe_int (fun _ _ => rfl)) pe_non (nomark _)) (pe_one (pe_cmpR (op_in_seq_K (K := K) rfl) (pe_ix (ix_tup_K (K := K) rfl) (pv 0) pe_int (fun _ _ => rfl)) (pv 1) (by rfl)))))), ?_⟩
    exact s_ret (ev_open (d1 := d1) (d2 := d2) (ed_ixT (ed_any (ev_var rfl) hd) ev_c atI2) (ed_ixT (ed_any (ev_var rfl) hd) ev_c atI2) (ed_any (ev_var rfl) hh)) fun H2 e2 => q H2 e2
theorem sv_opens {H : Hp} {v hv : V} {d : Door} {held : List Int} (h1 : Dp K H v (doorD d)) (h2 : Dp K H hv (intsD held)) : SpV (sp_opens K) [v, hv] H (.bl (opensF d held)) := fun H1 e Q q E => ⟨v, hv, d, held, rfl, dp_ex e h1, dp_ex e h2, q⟩
theorem td_takenC {σ : L2.St} {H : Hp} {tr : TA} {E : XK} {v hv : V} {n room : Int} {dd : List PyData} {ks : List Key2} {held : List Int} (h : EvA tr σ H [v, .int room, hv]) (hm : Dp K H v (mazeD n dd ks)) (hh : Dp K H hv (intsD held)) (hr : Here n room) : EvTd (tCall (sp_taken K) [] E tr) σ H (intsD (takenF ks room held)) := fun H1 e Q q => h H1 e _ fun H2 e2 => ⟨v, hv, n, room, dd, ks, held, rfl, dp_ex (e.trans e2) hm, dp_ex (e.trans e2) hh, fun _ v H3 e3 p => q v H3 (e2.trans e3) p, fun z => absurd hr z⟩
end

/-! ### kinds, in plain -/
theorem kindsOf_lt (p : Nat → Bool) : (kindsOf p).Pairwise (· < ·) := by
  unfold kindsOf
  exact List.Pairwise.map _ (fun a b h => Int.ofNat_lt.mpr h) (List.Pairwise.filter _ List.pairwise_lt_range)
theorem mem_kindsOf {p : Nat → Bool} {x : Int} : x ∈ kindsOf p ↔ ∃ i : Nat, i < 5 ∧ p i = true ∧ x = (i : Int) := by
  unfold kindsOf
  simp only [List.mem_map, List.mem_filter, List.mem_range]
  constructor
  · rintro ⟨i, ⟨h1, h2⟩, rfl⟩
    exact ⟨i, h1, h2, rfl⟩
  · rintro ⟨i, h1, h2, rfl⟩
    exact ⟨i, ⟨h1, h2⟩, rfl⟩
theorem mem_kinds {p : Nat → Bool} {i : Nat} (h : i < 5) : (i : Int) ∈ kindsOf p ↔ p i = true := by
  rw [mem_kindsOf]
  constructor
  · rintro ⟨j, h1, h2, h3⟩
    have : i = j := by omega
    subst this
    exact h2
  · intro z
    exact ⟨i, h, z, rfl⟩
theorem kindsOf_congr {p q : Nat → Bool} (h : ∀ i, i < 5 → p i = q i) : kindsOf p = kindsOf q := by
  unfold kindsOf
  congr 1
  exact List.filter_congr fun i hi => h i (List.mem_range.mp hi)
theorem nodup_of_lt {l : List Int} (h : l.Pairwise (· < ·)) : l.Nodup := h.imp fun h => by omega
theorem le_of_lt_ {l : List Int} (h : l.Pairwise (· < ·)) : l.Pairwise (· ≤ ·) := h.imp fun h => by omega
/-- no more of them than there are -/
theorem nodup_sub_len {α : Type} [DecidableEq α] : ∀ {l m : List α}, l.Nodup → (∀ x ∈ l, x ∈ m) → l.length ≤ m.length
  | [], m, _, _ => by simp
  | a :: r, m, h, s => by
    have h1 := List.nodup_cons.mp h
    have ha : a ∈ m := s a (by simp)
    have h2 := nodup_sub_len (m := m.erase a) h1.2 fun x hx => by
      have hne : x ≠ a := fun z => h1.1 (by rw [← z]; exact hx)
      exact (List.mem_erase_of_ne hne).mpr (s x (by simp [hx]))
    rw [List.length_erase_of_mem ha] at h2
    have h3 : 0 < m.length := List.length_pos_of_mem ha
    simp only [List.length_cons]
    omega
def upTo (n : Int) : List Int := (List.range n.toNat).map fun (i : Nat) => (i : Int)
theorem mem_upTo {n x : Int} : x ∈ upTo n ↔ Here n x := by
  unfold upTo
  simp only [List.mem_map, List.mem_range]
  constructor
  · rintro ⟨i, h, rfl⟩
    exact ⟨by omega, by omega⟩
  · rintro ⟨h1, h2⟩
    exact ⟨x.toNat, by omega, by omega⟩
theorem upTo_len (n : Int) : (upTo n).length = n.toNat := by simp [upTo]
theorem here_len {n : Int} {l : List Int} (hd : l.Nodup) (h : ∀ x ∈ l, Here n x) : l.length ≤ n.toNat := by
  have := nodup_sub_len (m := upTo n) hd fun x hx => mem_upTo.mpr (h x hx)
  rw [upTo_len] at this
  exact this
theorem takenF_mem {ks : List Key2} {room : Int} {held : List Int} {i : Nat} (h : i < 5) : (i : Int) ∈ takenF ks room held ↔ (i : Int) ∈ held ∨ (room, (i : Int)) ∈ ks := by
  unfold takenF
  rw [mem_kinds h]
  simp

section
variable {K : PySem.W.Frag} {σ : L2.St} {H H' H0 : Hp} {ta tb te tl : TE} {v z : V} {tr : TA} {ds : List PyData}
/-! ### calls within a suite; slices of lists; lists of ints -/
theorem ev_callS {sp : Sp} {vs : List V} {E : L2.St → XK} (h : EvA tr σ H vs) (hs : SpV sp vs H z) : Ev (tCallS sp E tr) σ H z := fun H1 e Q q => h H1 e _ fun H2 e2 => hs H2 (e.trans e2) Q (fun H3 e3 => q H3 (e2.trans e3)) (E σ)
theorem lt_slL {a : Addr} {lo hi : Option Int} {t1 t2 : TO} (h : Ev te σ H (.ref a)) (hl : LstT H a ds) (h1 : EvO t1 σ H lo) (h2 : EvO t2 σ H hi) : EvLT (tSl (rSlL K) te t1 t2) σ H (cutD ds lo hi) := fun H1 e Q q => h H1 e _ fun H2 e2 => h1 H2 (e.trans e2) _ fun H3 e3 => h2 H3 ((e.trans e2).trans e3) _ fun H4 e4 => by
  obtain ⟨xs, hx, hd⟩ := hl.ex (((e.trans e2).trans e3).trans e4)
  have e24 := (e2.trans e3).trans e4
  refine ⟨a, xs, rfl, SqL.of hx, fun p np => q p _ (fresh_back e24 np) (e24.trans (Ex.new np)) ⟨_, upd_same, ?_⟩⟩
  unfold cutD cutV
  rw [hd.len]
  have td_drop : ∀ {ds : List PyData} {vs : List V} (n : Nat), TdAll H4 vs ds → TdAll H4 (vs.drop n) (ds.drop n) := by
    intro ds vs n h
    induction n generalizing ds vs with
    | zero => exact h
    | succ n ih => cases h with
      | nil => exact .nil
      | cons a b => exact ih b
  have td_take : ∀ {ds : List PyData} {vs : List V} (n : Nat), TdAll H4 vs ds → TdAll H4 (vs.take n) (ds.take n) := by
    intro ds vs n h
    induction n generalizing ds vs with
    | zero => simp only [List.take_zero]; exact .nil
    | succ n ih => cases h with
      | nil => exact .nil
      | cons a b => exact .cons a (ih b)
  exact (td_take _ (td_drop _ hd)).ex (Ex.new np)
theorem cutD_take (ds : List PyData) (k : Nat) : cutD ds none (some (k : Int)) = ds.take k := by
  unfold cutD
  rw [HT.sIx_none, HT.sIx_nat, List.drop_zero, Nat.sub_zero]
  by_cases h : k ≤ ds.length
  · rw [Nat.min_eq_left h]
  · rw [Nat.min_eq_right (by omega), List.take_length, List.take_of_length_le (by omega)]
end
def intlD (ns : List Int) : PyData := .list (ns.map PyData.int)
theorem nb_intl (ns : List Int) : nb (intlD ns) = true := by simp only [intlD, nb]; exact nbAll_map nb_intD ns
theorem sh_intl (ns : List Int) : SeqAt.shaped (intlD ns) = true := shaped_of (nb_intl ns) (by
  have := depth_list (n := 0) (depth_map (f := PyData.int) (fun i => by simp [PyData.depth]) ns)
  simp only [intlD]
  omega)
theorem intlD_inj {a b : List Int} : intlD a = intlD b ↔ a = b := by
  refine ⟨fun e => ?_, fun e => by rw [e]⟩
  simp only [intlD, PyData.list.injEq] at e
  exact map_inj (fun a b z => by simpa using z) e
theorem eqv_intl (a b : List Int) : PyData.eqv (intlD a) (intlD b) = decide (a = b) := eqv_dec (nb_intl a) (nb_intl b) intlD_inj

/-! ### how the mazes are built -/
def SizeOk (f n : Int) : Prop := 1 ≤ n ∧ n ≤ 60 ∧ (f % 12 = 4 → 40 ≤ n) ∧ (f % 12 = 10 → 20 ≤ n ∧ n ≤ 40) ∧ (f % 12 = 7 → 12 ≤ n) ∧ (f % 12 = 5 → 8 ≤ n) ∧ (f % 12 = 9 → 15 ≤ n) ∧ (f % 12 = 6 ∨ f % 12 = 8 → 11 ≤ n ∧ n ≤ 23) ∧ (f % 6 = 2 → 2 ≤ n) ∧ (f % 6 = 3 → 2 ≤ n ∧ (f % 12 = 9 ∨ n ≤ 6))
def lockOk : Option Int → Bool
  | none => true
  | some k => decide (0 ≤ k) && decide (k < 5)
def WfD (n : Int) (d : Door) : Prop := Here n d.1 ∧ Here n d.2.1 ∧ lockOk d.2.2 = true
def DoorsOk (n : Int) (ds : List Door) : Prop := (∀ d ∈ ds, WfD n d) ∧ ds.length ≤ 1000
def KeysOk (n : Int) (ks : List Key2) : Prop := (∀ k ∈ ks, Here n k.1 ∧ Here 5 k.2) ∧ ks.length ≤ 100
theorem lockOk_getD {ls : List (Option Int)} (h : ls.all lockOk = true) (i : Nat) : lockOk (ls.getD i none) = true := by
  rw [List.getD_eq_getElem?_getD]
  cases e : ls[i]? with
  | none => rfl
  | some l =>
    have := List.all_eq_true.mp h l (List.mem_of_getElem? e)
    exact this
theorem wfd_append {n : Int} {ds : List Door} {d : Door} (h : ∀ d ∈ ds, WfD n d) (hd : WfD n d) : ∀ x ∈ ds ++ [d], WfD n x := fun x hx => by
  rcases List.mem_append.mp hx with h1 | h1
  · exact h x h1
  · simp at h1
    subst h1
    exact hd
section
variable {P : Program} {w : World} {K : PySem.W.Frag} {mg : Str → Option Value} {base : Heap}
/-- an item of a written list of locks -/
theorem td_ixLocks {σ : L2.St} {H : Hp} {tr : TA} {tb : TE} {ls : List (Option Int)} {i : Int} (h : EaTd tr σ H (ls.map lockD)) (hb : Ev tb σ H (.int i)) (h0 : 0 ≤ i) (h1 : i < (ls.length : Int)) (hl : ls.length ≤ 100000 := by first | decide | simp) : EvTd (tOp (rIxL K) (tLst tr) tb) σ H (lockD (ls.getD i.toNat none)) := by
  refine td_ixL (lt_lst h (by rw [List.length_map]; exact hl)) hb ?_
  have hl2 : i.toNat < ls.length := by omega
  have := at0 (ds := ls.map lockD) (j := i.toNat) (d := lockD (ls.getD i.toNat none)) (by rw [List.getElem?_map, List.getD_eq_getElem?_getD, List.getElem?_eq_getElem hl2]; rfl)
  rw [show ((i.toNat : Nat) : Int) = i by omega] at this
  exact this
theorem td_ixLocksV {σ : L2.St} {H : Hp} {ta tb : TE} {l : Addr} {ls : List (Option Int)} {i : Int} (ha : Ev ta σ H (.ref l)) (hl : LstT H l (ls.map lockD)) (hb : Ev tb σ H (.int i)) (h0 : 0 ≤ i) (h1 : i < (ls.length : Int)) : EvTd (tOp (rIxL K) ta tb) σ H (lockD (ls.getD i.toNat none)) := by
  refine td_ixLV ha hl hb ?_
  have hl2 : i.toNat < ls.length := by omega
  have := at0 (ds := ls.map lockD) (j := i.toNat) (d := lockD (ls.getD i.toNat none)) (by rw [List.getElem?_map, List.getD_eq_getElem?_getD, List.getElem?_eq_getElem hl2]; rfl)
  rw [show ((i.toNat : Nat) : Int) = i by omega] at this
  exact this
theorem td_door {σ : L2.St} {H : Hp} {t1 t2 t3 : TE} {a b : Int} {l : Option Int} (h1 : Ev t1 σ H (.int a)) (h2 : Ev t2 σ H (.int b)) (h3 : EvTd t3 σ H (lockD l)) : EvTd (tTup (tCons t1 (tCons t2 (tCons t3 tNil)))) σ H (doorD (a, b, l)) := td_tup (ea_tc (td_int h1) (ea_tc (td_int h2) (ea_tc h3 ea_tn))) (by simp)
theorem td_key {σ : L2.St} {H : Hp} {t1 t2 : TE} {a b : Int} (h1 : Ev t1 σ H (.int a)) (h2 : Ev t2 σ H (.int b)) : EvTd (tTup (tCons t1 (tCons t2 tNil))) σ H (keyD (a, b)) := td_tup (ea_tc (td_int h1) (ea_tc (td_int h2) ea_tn)) (by simp)
theorem td_lock0 {σ : L2.St} {H : Hp} {te : TE} (h : Ev te σ H .non) : EvTd te σ H (lockD none) := td_non h
theorem td_lock1 {σ : L2.St} {H : Hp} {te : TE} {i : Int} (h : Ev te σ H (.int i)) : EvTd te σ H (lockD (some i)) := td_int h
theorem ev_intB {σ : L2.St} {H : Hp} {ta : TE} {b : Bool} (h : Ev ta σ H (.bl b)) : Ev (tCB (fun xs H Q => (∃ i, xs = [.int i] ∧ Q (.int i) H) ∨ ∃ k, xs = [.bl k] ∧ Q (.int (if k then 1 else 0)) H) (tCons ta tNil)) σ H (.int (if b then 1 else 0)) := fun H1 e Q q => h H1 e _ fun H2 e2 => .inr ⟨b, rfl, q H2 e2⟩
theorem ev_min2 {σ : L2.St} {H : Hp} {ta tb : TE} {i j : Int} (ha : Ev ta σ H (.int i)) (hb : Ev tb σ H (.int j)) : Ev (tCB (fun xs H Q => ∃ i j, xs = [.int i, .int j] ∧ Q (.int (if j < i then j else i)) H) (tCons ta (tCons tb tNil))) σ H (.int (if j < i then j else i)) := fun H1 e Q q => ha H1 e _ fun H2 e2 => hb H2 (e.trans e2) _ fun H3 e3 => ⟨i, j, rfl, q H3 (e2.trans e3)⟩
theorem ev_in2 {σ : L2.St} {H : Hp} {ta : TE} {i a b : Int} (h : Ev ta σ H (.int i)) : Ev (tOp (rIn K false) ta (tTup (tCons (tC (.int a)) (tCons (tC (.int b)) tNil)))) σ H (.bl (decide (i ∈ [a, b]))) := ev_inW h (td_tup (ds := [.int a, .int b]) (ea_tc (td_int ev_c) (ea_tc (td_int ev_c) ea_tn)) (by simp))
theorem ev_ni2 {σ : L2.St} {H : Hp} {ta : TE} {i a b : Int} (h : Ev ta σ H (.int i)) : Ev (tOp (rIn K true) ta (tTup (tCons (tC (.int a)) (tCons (tC (.int b)) tNil)))) σ H (.bl (!decide (i ∈ [a, b]))) := ev_niW h (td_tup (ds := [.int a, .int b]) (ea_tc (td_int ev_c) (ea_tc (td_int ev_c) ea_tn)) (by simp))
/-! ### the size -/
def sp_l_size (K : PySem.W.Frag) : Sp := fun vs H Q _ => ∃ (a : Addr) (ns : List Int), vs = [.ref a] ∧ SqL K H a (ns.map V.int) ∧ ∀ n, SizeOk (cellAt ns 0) n → ∀ H2, Ex H H2 → Q (.int n) H2
theorem ok_l_size (T : Txt K mg) : Kept P w K mg base 2 "_law_size" ["_law_script"] (sp_l_size K) := by
  refine T.d_l_size.kept sc_l_size (fun vs H Q E h => ?_) (fun cdv A outer s H vs Q E hr h => ?_)
  · obtain ⟨a, ns, rfl, _⟩ := h
    rfl
  · obtain ⟨a, ns, rfl, hS, q⟩ := h
    refine ⟨_, (pss_cons (ps_set (i := 1) sc_l_size.nd rfl (Or.inl rfl) (pe_fn (ok_l_cell_at (K := K) T) (hr.mono (by decide)) passL (by rfl) (pa_cons (pv 0) (pa_cons pe_int pa_nil))))
      (pss_cons (ps_set (i := 2) sc_l_size.nd rfl (Or.inl rfl) (pe_fn (ok_l_mix (K := K) T) (hr.mono (by decide)) passL (by rfl) (pa_cons (pv 1) (pa_cons pe_int pa_nil))))
      (pss_cons (ps_if (pt_cmpR op_eq (pe_op op_mod (pv 1) pe_int) pe_int (nomark _))
        (pss_one (ps_ret (pe_op op_add pe_int (pe_op op_mod (pv 2) pe_int))))
        pss_nil)
      (pss_cons (ps_if (pt_cmpR op_eq (pe_op op_mod (pv 1) pe_int) pe_int (nomark _))
        (pss_one (ps_ret (pe_op op_add pe_int (pe_op op_mod (pv 2) pe_int))))
        pss_nil)
      (pss_cons (ps_if (pt_cmpR op_eq (pe_op op_mod (pv 1) pe_int) pe_int (nomark _))
        (pss_one (ps_ret (pe_op op_add pe_int (pe_op op_mod (pv 2) pe_int))))
        pss_nil)
      (pss_cons (ps_if (pt_cmpR op_eq (pe_op op_mod (pv 1) pe_int) pe_int (nomark _))
        (pss_one (ps_ret (pe_op op_add pe_int (pe_op op_mod (pv 2) pe_int))))
        pss_nil)
      (pss_cons (ps_if (pt_cmpR op_eq (pe_op op_mod (pv 1) pe_int) pe_int (nomark _))
        (pss_one (ps_ret (pe_op op_add pe_int (pe_op op_mod (pv 2) pe_int))))
        pss_nil)
      (pss_cons (ps_if (pt_cmpR (op_in_seq_K (K := K) rfl) (pe_op op_mod (pv 1) pe_int) (pe_tup (pa_cons pe_int (pa_cons pe_int pa_nil))) (by rfl))
        (pss_one (ps_ret (pe_ix (ix_list_K (K := K) rfl) (pe_lst (pa_cons pe_int (pa_cons pe_int (pa_cons pe_int pa_nil)))) (pe_op op_mod (pv 2) pe_int) (fun _ _ => rfl))))
        pss_nil)
      (pss_cons (ps_set (i := 3) sc_l_size.nd rfl (Or.inl rfl) (pe_lst (pa_cons pe_int (pa_cons pe_int (pa_cons pe_int (pa_cons pe_int (pa_cons pe_int (pa_cons pe_int pa_nil))))))))
      (pss_one (ps_ret (pe_op op_add (pe_op op_add pe_int (pe_op op_mod (pv 2) (pe_ix (ix_list_K (K := K) rfl) (pv 3) (pe_op op_mod (pv 1) pe_int) (fun _ _ => rfl)))) (pe_callTy call_int1 (by rfl) T.n_int (by decide +kernel) (pa_cons (pe_cmpR (op_in_seq_K (K := K) rfl) (pe_op op_mod (pv 1) pe_int) (pe_tup (pa_cons pe_int (pa_cons pe_int pa_nil))) (by rfl)) pa_nil)))))))))))))), ?_⟩
    obtain ⟨f, ef⟩ : ∃ f, cellAt ns 0 = f := ⟨_, rfl⟩
    rw [ef] at q
    refine q_asg (v := .int f) ?_ fun H1 e1 => ?_
    · rw [← ef]
      exact ev_call0 (ea_cons (ev_var rfl) (ea_cons ev_c ea_nil)) (sv_l_cell_at hS (by decide))
    obtain ⟨m, em⟩ : ∃ m, mix f 0 = m := ⟨_, rfl⟩
    have hm0 : 0 ≤ m := by rw [← em]; exact mix_pos _ _
    refine q_asg (v := .int m) ?_ fun H2 e2 => ?_
    · rw [← em]
      exact ev_call0 (ea_cons (ev_var rfl) (ea_cons ev_c ea_nil)) sv_l_mix
    have e12 := e1.trans e2
    refine q_when (b := decide (f % 12 = 4)) (by walk_at "mz ev") (fun hb H3 e3 => s_ret (v := .int (40 + m % 21)) (by walk_at "mz ev") fun H4 e4 => q _ ?_ H4 ((e12.trans e3).trans e4)) (fun hb H3 e3 => ?_)
    · have := of_decide_eq_true hb
      unfold SizeOk
      omega
    refine q_when (b := decide (f % 12 = 10)) (by walk_at "mz ev") (fun hb2 H4 e4 => s_ret (v := .int (20 + m % 21)) (by walk_at "mz ev") fun H5 e5 => q _ ?_ H5 (((e12.trans e3).trans e4).trans e5)) (fun hb2 H4 e4 => ?_)
    · have := of_decide_eq_true hb2
      unfold SizeOk
      omega
    refine q_when (b := decide (f % 12 = 7)) (by walk_at "mz ev") (fun hb3 H5 e5 => s_ret (v := .int (12 + m % 9)) (by walk_at "mz ev") fun H6 e6 => q _ ?_ H6 ((((e12.trans e3).trans e4).trans e5).trans e6)) (fun hb3 H5 e5 => ?_)
    · have := of_decide_eq_true hb3
      unfold SizeOk
      omega
    have e15 := ((e12.trans e3).trans e4).trans e5
    refine q_when (b := decide (f % 12 = 5)) (by walk_at "mz ev") (fun hb4 H6 e6 => s_ret (v := .int (8 + m % 7)) (by walk_at "mz ev") fun H7 e7 => q _ ?_ H7 ((e15.trans e6).trans e7)) (fun hb4 H6 e6 => ?_)
    · have := of_decide_eq_true hb4
      unfold SizeOk
      omega
    refine q_when (b := decide (f % 12 = 9)) (by walk_at "mz ev") (fun hb5 H7 e7 => s_ret (v := .int (15 + m % 16)) (by walk_at "mz ev") fun H8 e8 => q _ ?_ H8 (((e15.trans e6).trans e7).trans e8)) (fun hb5 H7 e7 => ?_)
    · have := of_decide_eq_true hb5
      unfold SizeOk
      omega
    have e17 := (e15.trans e6).trans e7
    simp only [decide_eq_false_iff_not] at hb hb2 hb3 hb4 hb5
    refine q_when (b := decide (f % 12 ∈ [6, 8])) (et_test (ev_in2 (by walk_at "mz ev"))) (fun hb6 H8 e8 => s_ret (v := .int (([11, 17, 23] : List Int).getD (m % 3).toNat 0)) (ev_ixInts (ea_tc (td_int ev_c) (ea_tc (td_int ev_c) (ea_tc (td_int ev_c) ea_tn))) (by walk_at "mz ev") (by omega) (by simp; omega)) fun H9 e9 => q _ ?_ H9 ((e17.trans e8).trans e9)) (fun hb6 H8 e8 => ?_)
    · simp only [decide_eq_true_eq, List.mem_cons, List.not_mem_nil, or_false] at hb6
      rcases (show m % 3 = 0 ∨ m % 3 = 1 ∨ m % 3 = 2 by omega) with h | h | h <;> rw [h] <;> unfold SizeOk <;> simp <;> omega
    simp only [decide_eq_false_iff_not, List.mem_cons, List.not_mem_nil, or_false] at hb6
    refine q_asgLT (ds := ([7, 60, 30, 5, 1, 7] : List Int).map PyData.int) (lt_lst (ea_tc (td_int ev_c) (ea_tc (td_int ev_c) (ea_tc (td_int ev_c) (ea_tc (td_int ev_c) (ea_tc (td_int ev_c) (ea_tc (td_int ev_c) ea_tn)))))) (by simp)) fun p H9 np e9 hp => ?_
    obtain ⟨g, hg, hg2⟩ : ∃ g : Int, ([7, 60, 30, 5, 1, 7] : List Int).getD (f % 6).toNat 0 = g ∧ (0 < g ∧ (f % 6 = 0 → g = 7) ∧ (f % 6 = 1 → g = 60) ∧ (f % 6 = 2 → g = 30) ∧ (f % 6 = 3 → g = 5) ∧ (f % 6 = 4 → g = 1) ∧ (f % 6 = 5 → g = 7)) := by
      refine ⟨_, rfl, ?_⟩
      rcases (show f % 6 = 0 ∨ f % 6 = 1 ∨ f % 6 = 2 ∨ f % 6 = 3 ∨ f % 6 = 4 ∨ f % 6 = 5 by omega) with h | h | h | h | h | h <;> rw [h] <;> simp
    have hix : Ev (tOp (rIxL K) (tVar 3) (tOp (rI (fun x j => 0 < j) fun i j => V.int (i % j)) (tVar 1) (tC (.int 6)))) [some (.ref a), some (.int f), some (.int m), some (.ref p)] H9 (.int g) := by
      have h := td_ixLV (K := K) (σ := [some (.ref a), some (.int f), some (.int m), some (.ref p)]) (ta := tVar 3) (tb := tOp (rI (fun x j => 0 < j) fun i j => V.int (i % j)) (tVar 1) (tC (.int 6))) (d := .int g) (i := f % 6) (ev_var rfl) hp (by walk_at "mz ev") (by
        have h6 : (f % 6).toNat < 6 := by omega
        have h := at0 (ds := ([7, 60, 30, 5, 1, 7] : List Int).map PyData.int) (j := (f % 6).toNat) (d := .int g) (by
          rw [List.getElem?_map, ← hg, List.getD_eq_getElem?_getD, List.getElem?_eq_getElem (by simpa using h6)]
          rfl)
        rw [show (((f % 6).toNat : Nat) : Int) = f % 6 by omega] at h
        exact h)
      exact ev_of_td h
    refine s_ret (v := .int (1 + m % g + if decide (f % 6 ∈ [2, 3]) then 1 else 0)) (ev_op (ev_op ev_c (ev_op (ev_var rfl) hix (rv_I (by omega))) rv_I0) (ev_intB (ev_in2 (by walk_at "mz ev"))) rv_I0) fun H10 e10 => q _ ?_ H10 (((e17.trans e8).trans e9).trans e10)
    have h1 : 0 ≤ m % g := Int.emod_nonneg _ (by omega)
    have h2 : m % g < g := Int.emod_lt_of_pos _ (by omega)
    unfold SizeOk
    by_cases h : f % 6 = 2 ∨ f % 6 = 3
    · have : decide (f % 6 ∈ ([2, 3] : List Int)) = true := by simp [h]
      rw [this, if_pos rfl]
      omega
    · have : decide (f % 6 ∈ ([2, 3] : List Int)) = false := by simp; omega
      rw [this, if_neg (by simp)]
      omega
/-! ### locks -/
def lockF (x : Int) : Option Int := ([none, none, none, some 0, some 1, some 2, some 3, some 4] : List (Option Int)).getD (x % 8).toNat none
theorem lockF_ok (x : Int) : lockOk (lockF x) = true := lockOk_getD (by decide) _
def sp_l_lock (K : PySem.W.Frag) : Sp := fun vs H Q _ => ∃ x : Int, vs = [.int x] ∧ ∀ v H2, Ex H H2 → Td H2 v (lockD (lockF x)) → Q v H2
theorem ok_l_lock (T : Txt K mg) : Kept P w K mg base 1 "_law_lock" ["_law_number"] (sp_l_lock K) := by
  refine T.d_l_lock.kept sc_l_lock (fun vs H Q E h => ?_) (fun cdv A outer s H vs Q E hr h => ?_)
  · obtain ⟨x, rfl, _⟩ := h
    rfl
  · obtain ⟨x, rfl, q⟩ := h
    refine ⟨_, (pss_one (ps_ret (pe_ix (ix_list_K (K := K) rfl) (pe_lst (pa_cons pe_non (pa_cons pe_non (pa_cons pe_non (pa_cons pe_int (pa_cons pe_int (pa_cons pe_int (pa_cons pe_int (pa_cons pe_int pa_nil))))))))) (pe_op op_mod (pv 0) pe_int) (fun _ _ => rfl)))), ?_⟩
    exact s_retP (td_ixLocks (K := K) (ls := [none, none, none, some 0, some 1, some 2, some 3, some 4]) (i := x % 8) (ea_tc (td_lock0 ev_c) (ea_tc (td_lock0 ev_c) (ea_tc (td_lock0 ev_c) (ea_tc (td_lock1 ev_c) (ea_tc (td_lock1 ev_c) (ea_tc (td_lock1 ev_c) (ea_tc (td_lock1 ev_c) (ea_tc (td_lock1 ev_c) ea_tn)))))))) (by walk_at "mz ev") (by omega) (by simp; omega)) fun v H2 e2 p => q v H2 e2 p
theorem td_l_lock {σ : L2.St} {H : Hp} {ta : TE} {x : Int} {E : XK} (h : Ev ta σ H (.int x)) : EvTd (tCall (sp_l_lock K) [] E (tCons ta tNil)) σ H (lockD (lockF x)) := fun H1 e Q q => h H1 e _ fun H2 e2 => ⟨x, rfl, fun v H3 e3 p => q v H3 (e2.trans e3) p⟩
/-! ### ranks -/
def rankF (i n : Int) : Int := if i = n - 1 then (n - 2) / 3 + 1 else (i + 2) / 3
def sp_l_rank (K : PySem.W.Frag) : Sp := fun vs H Q _ => ∃ i n : Int, vs = [.int i, .int n] ∧ ∀ H2, Ex H H2 → Q (.int (rankF i n)) H2
theorem ok_l_rank (T : Txt K mg) : Kept P w K mg base 1 "_law_rank" ["_law_place", "_law_size_here"] (sp_l_rank K) := by
  refine T.d_l_rank.kept sc_l_rank (fun vs H Q E h => ?_) (fun cdv A outer s H vs Q E hr h => ?_)
  · obtain ⟨i, n, rfl, _⟩ := h
    rfl
  · obtain ⟨i, n, rfl, q⟩ := h
    refine ⟨_, (pss_cons (ps_if (pt_cmpR op_eq (pv 0) (pe_op op_sub (pv 1) pe_int) (nomark _))
        (pss_one (ps_ret (pe_op op_add (pe_op op_fdiv (pe_op op_sub (pv 1) pe_int) pe_int) pe_int)))
        pss_nil)
      (pss_one (ps_ret (pe_op op_fdiv (pe_op op_add (pv 0) pe_int) pe_int)))), ?_⟩
    unfold rankF at q
    refine q_when (b := decide (i = n - 1)) (by walk_at "mz ev") (fun hb H1 e1 => ?_) (fun hb H1 e1 => ?_)
    · rw [if_pos (of_decide_eq_true hb)] at q
      exact s_ret (v := .int ((n - 2) / 3 + 1)) (by walk_at "mz ev") fun H2 e2 => q _ (e1.trans e2)
    · rw [if_neg (of_decide_eq_false hb)] at q
      exact s_ret (v := .int ((i + 2) / 3)) (by walk_at "mz ev") fun H2 e2 => q _ (e1.trans e2)
theorem sv_l_rank {H : Hp} {i n : Int} : SpV (sp_l_rank K) [.int i, .int n] H (.int (rankF i n)) := fun H1 e Q q E => ⟨i, n, rfl, q⟩
/-- doors made -/
def spDoors (K : PySem.W.Frag) : Sp := fun vs H Q _ => ∃ f n : Int, vs = [.int f, .int n] ∧ 2 ≤ n ∧ n ≤ 60 ∧ ∀ ds, DoorsOk n ds → ds.length ≤ 900 → ∀ p H2, H p = none → Ex H H2 → LstT H2 p (ds.map doorD) → Q (.ref p) H2
abbrev sp_l_ranks (K : PySem.W.Frag) : Sp := fun vs H Q _ => ∃ f n : Int, vs = [.int f, .int n] ∧ 2 ≤ n ∧ n ≤ 23 ∧ ∀ ds, DoorsOk n ds → ds.length ≤ 900 → ∀ p H2, H p = none → Ex H H2 → LstT H2 p (ds.map doorD) → Q (.ref p) H2
theorem ok_l_ranks (T : Txt K mg) : Kept P w K mg base 2 "_law_ranks" ["_law_first", "_law_size_here"] (sp_l_ranks K) := by
  refine T.d_l_ranks.kept sc_l_ranks (fun vs H Q E h => ?_) (fun cdv A outer s H vs Q E hr h => ?_)
  · obtain ⟨f, n, rfl, _⟩ := h
    rfl
  · obtain ⟨f, n, rfl, hn2, hn23, q⟩ := h
    refine ⟨_, (pss_cons (ps_set (i := 2) sc_l_ranks.nd rfl (Or.inl rfl) (pe_fn (ok_l_mix (K := K) T) (hr.mono (by decide)) passL (by rfl) (pa_cons (pv 0) (pa_cons pe_int pa_nil))))
      (pss_cons (ps_set (i := 3) sc_l_ranks.nd rfl (Or.inl rfl) (pe_op op_add pe_int (pe_op op_mod (pv 2) (pe_op op_sub (pv 1) pe_int))))
      (pss_cons (ps_set (i := 4) sc_l_ranks.nd rfl (Or.inl rfl) (pe_lst pa_nil))
      (pss_cons (ps_for (passes_of rfl) rfl (pi_range1 (by rfl) T.n_range (pa_cons (pv 1) pa_nil)) (pg_name (i := 5) sc_l_ranks.nd rfl (Or.inl rfl))
        (pss_one (ps_for (passes_of rfl) rfl (pi_range1 (by rfl) T.n_range (pa_cons (pv 1) pa_nil)) (pg_name (i := 6) sc_l_ranks.nd rfl (Or.inl rfl))
        (pss_cons (ps_set (i := 7) sc_l_ranks.nd rfl (Or.inl rfl) (pe_fn (ok_l_rank (K := K) T) (hr.mono (by decide)) passL (by rfl) (pa_cons (pv 5) (pa_cons (pv 1) pa_nil))))
      (pss_one (ps_if (pt_cmpR op_eq (pe_fn (ok_l_rank (K := K) T) (hr.mono (by decide)) passL (by rfl) (pa_cons (pv 6) (pa_cons (pv 1) pa_nil))) (pe_op op_add (pv 7) pe_int) (nomark _))
        (pss_cons (ps_set (i := 8) sc_l_ranks.nd rfl (Or.inl rfl) (pe_tup (pa_cons (pe_op op_mod (pe_op op_mul (pv 5) (pv 3)) (pv 1)) (pa_cons (pe_op op_mod (pe_op op_mul (pv 6) (pv 3)) (pv 1)) (pa_cons pe_int pa_nil)))))
      (pss_one (ps_if (PW.pt (pw_or (pt_cmpR op_eq (pv 5) pe_int (nomark _)) (pw_or (pt_cmpR op_eq (pv 6) (pe_op op_sub (pv 1) pe_int) (nomark _)) (pw_or1 (pt_cmpR op_eq (pe_op op_mod (pe_op op_add (pe_op op_add (pe_op op_sub (pv 6) (pv 5)) (pe_op op_fdiv (pv 2) pe_int)) (pe_op op_mul (pv 7) (pv 7))) pe_int) pe_int (nomark _))))))
        (pss_one (ps_expr (pe_bm_K (K := K) rfl PySem.F.plainAttrs_list PySem.F.slot_list_append PySem.F.type_list_append mt_append (pv 4) (pa_cons (pe_tup (pa_cons (pe_ix (ix_tup_K (K := K) rfl) (pv 8) pe_int (fun _ _ => rfl)) (pa_cons (pe_ix (ix_tup_K (K := K) rfl) (pv 8) pe_int (fun _ _ => rfl)) (pa_cons pe_non pa_nil)))) pa_nil))))
        (pss_one (ps_if (pt_cmpR op_eq (pe_op op_mod (pe_op op_add (pe_op op_mul (pv 5) (pv 6)) (pv 2)) pe_int) pe_int (nomark _))
        (pss_one (ps_expr (pe_bm_K (K := K) rfl PySem.F.plainAttrs_list PySem.F.slot_list_append PySem.F.type_list_append mt_append (pv 4) (pa_cons (pv 8) pa_nil))))
        pss_nil)))))
        pss_nil))))))
      (pss_one (ps_ret (pv 4))))))), ?_⟩
    obtain ⟨m, em⟩ : ∃ m, mix f 0 = m := ⟨_, rfl⟩
    have hm0 : 0 ≤ m := by rw [← em]; exact mix_pos _ _
    refine q_asg (v := .int m) ?_ fun H1 e1 => ?_
    · rw [← em]
      exact ev_call0 (ea_cons (ev_var rfl) (ea_cons ev_c ea_nil)) sv_l_mix
    obtain ⟨nm, enm⟩ : ∃ nm, 1 + m % (n - 1) = nm := ⟨_, rfl⟩
    have hnm : 1 ≤ nm ∧ nm ≤ n := by
      have h1 : 0 ≤ m % (n - 1) := Int.emod_nonneg _ (by omega)
      have h2 : m % (n - 1) < n - 1 := Int.emod_lt_of_pos _ (by omega)
      omega
    refine q_asg (v := .int nm) (by rw [← enm]; walk_at "mz ev") fun H2 e2 => ?_
    refine q_asgLT (ds := []) (lt_lst ea_tn (by simp)) fun l H3 nl e3 hl => ?_
    have e12 := e1.trans e2
    have nlH : H l = none := fresh_back e12 nl
    refine q_forR1 (n := n) (ea_cons (ev_var rfl) ea_nil) ⟨by omega, by omega⟩ (fun i σ' H' => Ex H H' ∧ ∃ (y5 y6 y7 y8 : Option V) (ds : List Door), σ' = [some (.int f), some (.int n), some (.int m), some (.int nm), some (.ref l), y5, y6, y7, y8] ∧ LstT H' l (ds.map doorD) ∧ (∀ d ∈ ds, WfD n d) ∧ ds.length ≤ i * 23) (fun H4 e4 => ⟨(e12.trans e3).trans e4, none, none, none, none, [], rfl, hl.ex e4, (fun d hd => by cases hd), by simp⟩) (fun i σ' H' hi hP => ?_) (fun σ' H' hP => ?_)
    · obtain ⟨eH, y5, y6, y7, y8, ds, rfl, hL, hwf, hlen⟩ := hP
      refine s_forR1 (n := n) (ea_cons (ev_var rfl) ea_nil) ⟨by omega, by omega⟩ (fun j σ' H' => Ex H H' ∧ ∃ (y6 y7 y8 : Option V) (ds : List Door), σ' = [some (.int f), some (.int n), some (.int m), some (.int nm), some (.ref l), some (.int i), y6, y7, y8] ∧ LstT H' l (ds.map doorD) ∧ (∀ d ∈ ds, WfD n d) ∧ ds.length ≤ i * 23 + j) (fun H4 e4 => ⟨eH.trans e4, y6, y7, y8, ds, rfl, hL.ex e4, hwf, by omega⟩) (fun j σ' H' hj hP => ?_) (fun σ' H' hP => ?_)
      · obtain ⟨eH, y6, y7, y8, ds, rfl, hL, hwf, hlen⟩ := hP
        have hi23 : i < 23 := by omega
        have hlen2 : ds.length < 900 := by omega
        obtain ⟨rk, erk⟩ : ∃ rk, rankF i n = rk := ⟨_, rfl⟩
        have hrk : 0 ≤ rk ∧ rk ≤ 100 := by
          rw [← erk]
          unfold rankF
          split <;> omega
        refine q_asg (v := .int rk) ?_ fun H4 e4 => ?_
        · rw [← erk]
          exact ev_call0 (ea_cons (ev_var rfl) (ea_cons (ev_var rfl) ea_nil)) sv_l_rank
        refine s_when (b := decide (rankF j n = rk + 1)) (et_test (ev_op (ev_call0 (ea_cons (ev_var rfl) (ea_cons (ev_var rfl) ea_nil)) sv_l_rank) (ev_op (ev_var rfl) ev_c rv_I0) rv_eqI)) (fun hb H5 e5 => ?_) (fun hb H5 e5 => ⟨(eH.trans e4).trans e5, _, _, y8, ds, rfl, hL.ex (e4.trans e5), hwf, by omega⟩)
        have eH5 := (eH.trans e4).trans e5
        have hL5 := hL.ex (e4.trans e5)
        have hd : ∀ l : Option Int, lockOk l = true → WfD n ((i : Int) * nm % n, (j : Int) * nm % n, l) := fun l hl => ⟨mod_here (n := n) (by omega) _, mod_here (n := n) (by omega) _, hl⟩
        refine q_asgP (P := fun v H' => Td H' v (doorD ((i : Int) * nm % n, (j : Int) * nm % n, some 0))) (td_door (by walk_at "mz ev") (by walk_at "mz ev") (td_lock1 ev_c)) fun dv H6 e6 hdv => ?_
        have eH6 := eH5.trans e6
        have hL6 := hL5.ex e6
        refine tif_cases (b := decide ((i : Int) = 0) || (decide ((j : Int) = n - 1) || decide (((j : Int) - (i : Int) + m / 3 + rk * rk) % 3 = 0))) ?_ (fun _ H7 e7 => ?_) (fun _ H7 e7 => ?_)
        · walk_at "mz ev"
        · have hdv7 := hdv.ex e7
          refine s_appT (d := doorD ((i : Int) * nm % n, (j : Int) * nm % n, none)) (hL6.ex e7) (ev_var rfl) (td_door (ev_of_td (td_ixT (td_any (ev_var rfl) hdv7) ev_c atI0)) (ev_of_td (td_ixT (td_any (ev_var rfl) hdv7) ev_c atI1)) (td_lock0 ev_c)) (by rw [List.length_map]; omega) fun H8 xs v e8 hx8 hp8 => ⟨Ex.mut ((eH6.trans e7).trans e8) nlH, _, _, _, ds ++ [((i : Int) * nm % n, (j : Int) * nm % n, none)], rfl, by rw [List.map_append]; exact hp8, wfd_append hwf (hd none rfl), by simp; omega⟩
        · refine s_when (b := decide (((i : Int) * (j : Int) + m) % 4 = 0)) (by walk_at "mz ev") (fun _ H8 e8 => ?_) (fun _ H8 e8 => ⟨(eH6.trans e7).trans e8, _, _, _, ds, rfl, hL6.ex (e7.trans e8), hwf, by omega⟩)
          refine s_appT (d := doorD ((i : Int) * nm % n, (j : Int) * nm % n, some 0)) (hL6.ex (e7.trans e8)) (ev_var rfl) (td_any (ev_var rfl) (hdv.ex (e7.trans e8))) (by rw [List.length_map]; omega) fun H9 xs v e9 hx9 hp9 => ⟨Ex.mut (((eH6.trans e7).trans e8).trans e9) nlH, _, _, _, ds ++ [((i : Int) * nm % n, (j : Int) * nm % n, some 0)], rfl, by rw [List.map_append]; exact hp9, wfd_append hwf (hd (some 0) rfl), by simp; omega⟩
      · obtain ⟨eH, y6, y7, y8, ds, rfl, hL, hwf, hlen⟩ := hP
        exact ⟨eH, _, y6, y7, y8, ds, rfl, hL, hwf, by omega⟩
    · obtain ⟨eH, y5, y6, y7, y8, ds, rfl, hL, hwf, hlen⟩ := hP
      exact s_ret (ev_var rfl) fun H5 e5 => q ds ⟨hwf, by omega⟩ (by omega) l H5 nlH (eH.trans e5) (hL.ex e5)
abbrev sp_l_many (K : PySem.W.Frag) : Sp := spDoors K
theorem ok_l_many (T : Txt K mg) : Kept P w K mg base 2 "_law_many" ["_law_first", "_law_size_here"] (sp_l_many K) := by
  refine T.d_l_many.kept sc_l_many (fun vs H Q E h => ?_) (fun cdv A outer s H vs Q E hr h => ?_)
  · obtain ⟨f, n, rfl, _⟩ := h
    rfl
  · obtain ⟨f, n, rfl, hn2, hn60, q⟩ := h
    refine ⟨_, (pss_cons (ps_set (i := 2) sc_l_many.nd rfl (Or.inl rfl) (pe_fn (ok_l_mix (K := K) T) (hr.mono (by decide)) passL (by rfl) (pa_cons (pv 0) (pa_cons pe_int pa_nil))))
      (pss_cons (ps_set (i := 3) sc_l_many.nd rfl (Or.inl rfl) (pe_lst pa_nil))
      (pss_cons (ps_for (passes_of rfl) rfl (pi_range1 (by rfl) T.n_range (pa_cons (pe_op op_add pe_int (pe_op op_mod (pe_op op_fdiv (pv 2) pe_int) pe_int)) pa_nil)) (pg_name (i := 4) sc_l_many.nd rfl (Or.inl rfl))
        (pss_cons (ps_set (i := 5) sc_l_many.nd rfl (Or.inl rfl) (pe_op op_mod (pv 4) (pe_op op_sub (pv 1) pe_int)))
      (pss_cons (ps_set (i := 6) sc_l_many.nd rfl (Or.inl rfl) (pe_op op_add (pe_op op_mul (pv 5) (pe_op op_add pe_int (pe_op op_mod (pe_op op_fdiv (pv 2) pe_int) pe_int))) (pe_op op_fdiv (pv 2) pe_int)))
      (pss_cut (ps_if (pt_cmpR op_eq (pe_op op_mod (pe_op op_fdiv (pv 4) (pe_op op_sub (pv 1) pe_int)) pe_int) pe_int (nomark _))
        (pss_one (ps_set (i := 6) sc_l_many.nd rfl (Or.inl rfl) (pe_op op_add (pv 6) (pe_op op_mod (pv 2) pe_int))))
        pss_nil)
      (pss_cons (ps_set (i := 6) sc_l_many.nd rfl (Or.inl rfl) (pe_op op_mod (pv 6) pe_int))
      (pss_one (ps_if (pt_cmpR op_eq (pe_op op_mod (pv 4) pe_int) pe_int (nomark _))
        (pss_one (ps_expr (pe_bm_K (K := K) rfl PySem.F.plainAttrs_list PySem.F.slot_list_append PySem.F.type_list_append mt_append (pv 3) (pa_cons (pe_tup (pa_cons (pe_op op_mod (pe_op op_mul (pv 4) (pv 4)) (pv 1)) (pa_cons (pe_op op_mod (pe_op op_mul (pv 4) pe_int) (pv 1)) (pa_cons (pe_ix (ix_list_K (K := K) rfl) (pe_lst (pa_cons pe_int (pa_cons pe_int (pa_cons pe_int (pa_cons pe_int (pa_cons pe_int (pa_cons pe_non pa_nil))))))) (pe_op op_mod (pv 4) pe_int) (fun _ _ => rfl)) pa_nil)))) pa_nil))))
        (pss_one (ps_expr (pe_bm_K (K := K) rfl PySem.F.plainAttrs_list PySem.F.slot_list_append PySem.F.type_list_append mt_append (pv 3) (pa_cons (pe_tup (pa_cons (pv 5) (pa_cons (pe_op op_add (pv 5) pe_int) (pa_cons (pe_ix (ix_list_K (K := K) rfl) (pe_lst (pa_cons pe_int (pa_cons pe_int (pa_cons pe_int (pa_cons pe_int (pa_cons pe_int (pa_cons pe_non pa_nil))))))) (pv 6) (fun _ _ => rfl)) pa_nil)))) pa_nil)))))))))))
      (pss_one (ps_ret (pv 3)))))), ?_⟩
    obtain ⟨m, em⟩ : ∃ m, mix f 0 = m := ⟨_, rfl⟩
    have hm0 : 0 ≤ m ∧ m < 999983 := by rw [← em]; exact ⟨mix_pos _ _, mix_lt _ _⟩
    refine q_asg (v := .int m) ?_ fun H1 e1 => ?_
    · rw [← em]
      exact ev_call0 (ea_cons (ev_var rfl) (ea_cons ev_c ea_nil)) sv_l_mix
    refine q_asgLT (ds := []) (lt_lst ea_tn (by simp)) fun l H3 nl e3 hl => ?_
    have nlH : H l = none := fresh_back e1 nl
    refine q_forR1 (n := 65 + m / 7 % 26) (by walk_at "mz ev") ⟨by omega, by omega⟩ (fun i σ' H' => Ex H H' ∧ ∃ (y4 y5 y6 : Option V) (ds : List Door), σ' = [some (.int f), some (.int n), some (.int m), some (.ref l), y4, y5, y6] ∧ LstT H' l (ds.map doorD) ∧ (∀ d ∈ ds, WfD n d) ∧ ds.length = i) (fun H4 e4 => ⟨(e1.trans e3).trans e4, none, none, none, [], rfl, hl.ex e4, (fun d hd => by cases hd), by simp⟩) (fun i σ' H' hi hP => ?_) (fun σ' H' hP => ?_)
    · obtain ⟨eH, y4, y5, y6, ds, rfl, hL, hwf, hlen⟩ := hP
      obtain ⟨nr, enr⟩ : ∃ nr, (i : Int) % (n - 1) = nr := ⟨_, rfl⟩
      have hnr : 0 ≤ nr ∧ nr < n - 1 := by
        have h1 : 0 ≤ (i : Int) % (n - 1) := Int.emod_nonneg _ (by omega)
        have h2 : (i : Int) % (n - 1) < n - 1 := Int.emod_lt_of_pos _ (by omega)
        omega
      refine q_asg (v := .int nr) (by rw [← enr]; walk_at "mz ev") fun H4 e4 => ?_
      refine q_asg (v := .int (nr * (1 + m / 182 % 5) + m / 910)) (by walk_at "mz ev") fun H5 e5 => ?_
      have eH5 := (eH.trans e4).trans e5
      have hL5 := hL.ex (e4.trans e5)
      refine q_cut (M := fun σ' H' => Ex H H' ∧ ∃ x : Int, σ' = [some (.int f), some (.int n), some (.int m), some (.ref l), some (.int i), some (.int nr), some (.int x)] ∧ LstT H' l (ds.map doorD)) ?_ ?_
      · refine s_when (b := decide ((i : Int) / (n - 1) % 2 = 1)) (by walk_at "mz ev") (fun _ H6 e6 => ?_) (fun _ H6 e6 => ⟨eH5.trans e6, _, rfl, hL5.ex e6⟩)
        exact s_asg (v := .int (nr * (1 + m / 182 % 5) + m / 910 + m % 3)) (by walk_at "mz ev") fun H7 e7 => ⟨(eH5.trans e6).trans e7, _, rfl, hL5.ex (e6.trans e7)⟩
      · rintro σ' H6 ⟨eH6, x, rfl, hL6⟩
        refine q_asg (v := .int (x % 6)) (by walk_at "mz ev") fun H7 e7 => ?_
        have eH7 := eH6.trans e7
        have hL7 := hL6.ex e7
        have hlk : ∀ k : Nat, lockOk (([some 0, some 1, some 2, some 3, some 4, none] : List (Option Int)).getD k none) = true := fun k => lockOk_getD (by decide) k
        have ea : ∀ {σ' : L2.St} {H' : Hp}, EaTd (tCons (tC (.int 0)) (tCons (tC (.int 1)) (tCons (tC (.int 2)) (tCons (tC (.int 3)) (tCons (tC (.int 4)) (tCons (tC .non) tNil)))))) σ' H' (([some 0, some 1, some 2, some 3, some 4, none] : List (Option Int)).map lockD) :=
          ea_tc (td_lock1 ev_c) (ea_tc (td_lock1 ev_c) (ea_tc (td_lock1 ev_c) (ea_tc (td_lock1 ev_c) (ea_tc (td_lock1 ev_c) (ea_tc (td_lock0 ev_c) ea_tn)))))
        refine tif_cases (b := decide ((i : Int) % 13 = 12)) (by walk_at "mz ev") (fun _ H8 e8 => ?_) (fun _ H8 e8 => ?_)
        · refine s_appT (hL7.ex e8) (ev_var rfl) (td_door (a := (i : Int) * i % n) (b := (i : Int) * 3 % n) (by walk_at "mz ev") (by walk_at "mz ev") (td_ixLocks (K := K) (i := (i : Int) % 6) ea (by walk_at "mz ev") (by omega) (by simp; omega))) (by rw [List.length_map]; omega) fun H9 xs v e9 hx9 hp9 => ⟨Ex.mut ((eH7.trans e8).trans e9) nlH, _, _, _, ds ++ [_], rfl, by rw [List.map_append]; exact hp9, wfd_append hwf ⟨mod_here (n := n) (by omega) _, mod_here (n := n) (by omega) _, hlk _⟩, by simp [hlen]⟩
        · refine s_appT (hL7.ex e8) (ev_var rfl) (td_door (a := nr) (b := nr + 1) (by walk_at "mz ev") (by walk_at "mz ev") (td_ixLocks (K := K) (i := x % 6) ea (by walk_at "mz ev") (by omega) (by simp; omega))) (by rw [List.length_map]; omega) fun H9 xs v e9 hx9 hp9 => ⟨Ex.mut ((eH7.trans e8).trans e9) nlH, _, _, _, ds ++ [_], rfl, by rw [List.map_append]; exact hp9, wfd_append hwf ⟨⟨by omega, by omega⟩, ⟨by show 0 ≤ nr + 1; omega, by show nr + 1 < n; omega⟩, hlk _⟩, by simp [hlen]⟩
    · obtain ⟨eH, y4, y5, y6, ds, rfl, hL, hwf, hlen⟩ := hP
      exact s_ret (ev_var rfl) fun H5 e5 => q ds ⟨hwf, by omega⟩ (by omega) l H5 nlH (eH.trans e5) (hL.ex e5)
abbrev sp_l_mixed (K : PySem.W.Frag) : Sp := spDoors K
theorem ok_l_mixed (T : Txt K mg) : Kept P w K mg base 2 "_law_mixed" ["_law_first", "_law_size_here"] (sp_l_mixed K) := by
  refine T.d_l_mixed.kept sc_l_mixed (fun vs H Q E h => ?_) (fun cdv A outer s H vs Q E hr h => ?_)
  · obtain ⟨f, n, rfl, _⟩ := h
    rfl
  · obtain ⟨f, n, rfl, hn2, hn60, q⟩ := h
    refine ⟨_, (pss_cons (ps_set (i := 2) sc_l_mixed.nd rfl (Or.inl rfl) (pe_fn (ok_l_mix (K := K) T) (hr.mono (by decide)) passL (by rfl) (pa_cons (pv 0) (pa_cons pe_int pa_nil))))
      (pss_cons (ps_set (i := 3) sc_l_mixed.nd rfl (Or.inl rfl) (pe_lst pa_nil))
      (pss_cons (ps_for (passes_of rfl) rfl (pi_range1 (by rfl) T.n_range (pa_cons (pe_op op_add pe_int (pe_op op_mod (pe_op op_fdiv (pv 2) pe_int) pe_int)) pa_nil)) (pg_name (i := 4) sc_l_mixed.nd rfl (Or.inl rfl))
        (pss_cons (ps_set (i := 5) sc_l_mixed.nd rfl (Or.inl rfl) (pe_ix (ix_list_K (K := K) rfl) (pe_lst (pa_cons pe_non (pa_cons pe_int (pa_cons pe_non (pa_cons pe_int (pa_cons pe_int (pa_cons pe_non (pa_cons pe_int (pa_cons pe_int pa_nil))))))))) (pe_op op_mod (pe_op op_add (pv 4) (pe_op op_fdiv (pv 2) pe_int)) pe_int) (fun _ _ => rfl)))
      (pss_cons (ps_set (i := 6) sc_l_mixed.nd rfl (Or.inl rfl) (pe_op op_mod (pe_op op_add (pe_op op_mul (pv 4) (pe_op op_add pe_int (pe_op op_mod (pe_op op_fdiv (pv 2) pe_int) pe_int))) (pv 2)) (pv 1)))
      (pss_one (ps_expr (pe_bm_K (K := K) rfl PySem.F.plainAttrs_list PySem.F.slot_list_append PySem.F.type_list_append mt_append (pv 3) (pa_cons (pe_tup (pa_cons (pv 6) (pa_cons (pe_op op_mod (pe_op op_add (pe_op op_mul (pv 4) (pv 4)) (pe_op op_fdiv (pv 2) pe_int)) (pv 1)) (pa_cons (pv 5) pa_nil)))) pa_nil)))))))
      (pss_one (ps_ret (pv 3)))))), ?_⟩
    obtain ⟨m, em⟩ : ∃ m, mix f 0 = m := ⟨_, rfl⟩
    have hm0 : 0 ≤ m ∧ m < 999983 := by rw [← em]; exact ⟨mix_pos _ _, mix_lt _ _⟩
    refine q_asg (v := .int m) ?_ fun H1 e1 => ?_
    · rw [← em]
      exact ev_call0 (ea_cons (ev_var rfl) (ea_cons ev_c ea_nil)) sv_l_mix
    refine q_asgLT (ds := []) (lt_lst ea_tn (by simp)) fun l H3 nl e3 hl => ?_
    have nlH : H l = none := fresh_back e1 nl
    refine q_forR1 (n := 41 + m / 16 % 50) (by walk_at "mz ev") ⟨by omega, by omega⟩ (fun i σ' H' => Ex H H' ∧ ∃ (y4 y5 y6 : Option V) (ds : List Door), σ' = [some (.int f), some (.int n), some (.int m), some (.ref l), y4, y5, y6] ∧ LstT H' l (ds.map doorD) ∧ (∀ d ∈ ds, WfD n d) ∧ ds.length = i) (fun H4 e4 => ⟨(e1.trans e3).trans e4, none, none, none, [], rfl, hl.ex e4, (fun d hd => by cases hd), by simp⟩) (fun i σ' H' hi hP => ?_) (fun σ' H' hP => ?_)
    · obtain ⟨eH, y4, y5, y6, ds, rfl, hL, hwf, hlen⟩ := hP
      refine q_asgP (td_ixLocks (K := K) (ls := [none, some 0, none, some 1, some 2, none, some 3, some 4]) (i := ((i : Int) + m / 800) % 8) (ea_tc (td_lock0 ev_c) (ea_tc (td_lock1 ev_c) (ea_tc (td_lock0 ev_c) (ea_tc (td_lock1 ev_c) (ea_tc (td_lock1 ev_c) (ea_tc (td_lock0 ev_c) (ea_tc (td_lock1 ev_c) (ea_tc (td_lock1 ev_c) ea_tn)))))))) (by walk_at "mz ev") (by omega) (by simp; omega)) fun lv H4 e4 hlv => ?_
      refine q_asg (v := .int (((i : Int) * (1 + m / 6400 % 7) + m) % n)) (by walk_at "mz ev") fun H5 e5 => ?_
      refine s_appT (hL.ex (e4.trans e5)) (ev_var rfl) (td_door (a := ((i : Int) * (1 + m / 6400 % 7) + m) % n) (b := ((i : Int) * i + m / 50) % n) (by walk_at "mz ev") (by walk_at "mz ev") (td_any (ev_var rfl) (hlv.ex e5))) (by rw [List.length_map]; omega) fun H9 xs v e9 hx9 hp9 => ⟨Ex.mut (((eH.trans e4).trans e5).trans e9) nlH, _, _, _, ds ++ [_], rfl, by rw [List.map_append]; exact hp9, wfd_append hwf ⟨mod_here (n := n) (by omega) _, mod_here (n := n) (by omega) _, lockOk_getD (ls := [none, some 0, none, some 1, some 2, none, some 3, some 4]) (by decide) _⟩, by simp [hlen]⟩
    · obtain ⟨eH, y4, y5, y6, ds, rfl, hL, hwf, hlen⟩ := hP
      exact s_ret (ev_var rfl) fun H5 e5 => q ds ⟨hwf, by omega⟩ (by omega) l H5 nlH (eH.trans e5) (hL.ex e5)
end

section
variable {P : Program} {w : World} {K : PySem.W.Frag} {mg : Str → Option Value} {base : Heap}
theorem TdAll.rep {H : Hp} {ds : List PyData} {vs : List V} (h : TdAll H vs ds) : ∀ k : Nat, TdAll H (List.replicate k vs).flatten (List.replicate k ds).flatten
  | 0 => .nil
  | k + 1 => by
    rw [List.replicate_succ, List.replicate_succ, List.flatten_cons, List.flatten_cons]
    exact TdAll.append h (TdAll.rep h k)
theorem lt_rep {σ : L2.St} {H : Hp} {ta tb : TE} {ds : List PyData} {k : Int} (ha : EvLT ta σ H ds) (hb : Ev tb σ H (.int k)) (h1 : -100000 ≤ k ∧ k ≤ 100000) (h2 : ds.length * k.toNat ≤ 100000) : EvLT (tOp rRep ta tb) σ H (List.replicate k.toNat ds).flatten := fun H1 e Q q => ha H1 e _ fun l H2 nl e2 hl => hb H2 (e.trans e2) _ fun H3 e3 => by
  obtain ⟨xs, hx, hd⟩ := hl.ex e3
  exact ⟨l, k, xs, rfl, rfl, hx, by omega, by omega, sz_of (by rw [hd.len]; exact h2), fun p np => q p _ (fresh_back (e2.trans e3) np) ((e2.trans e3).trans (Ex.new np)) ⟨_, upd_same, (hd.rep _).ex (Ex.new np)⟩⟩
theorem doors_map {m : Nat} {g : Nat → Door} : (List.range m).map (fun i => doorD (g i)) = ((List.range m).map g).map doorD := by
  rw [List.map_map]
  rfl
theorem doors_ok {m : Nat} {g : Nat → Door} {n : Int} (h : ∀ i, i < m → WfD n (g i)) (hm : m ≤ 900) : DoorsOk n ((List.range m).map g) ∧ ((List.range m).map g).length ≤ 900 := by
  have hl : ((List.range m).map g).length = m := by simp
  refine ⟨⟨fun d hd => ?_, by omega⟩, by omega⟩
  obtain ⟨i, hi, rfl⟩ := List.mem_map.mp hd
  exact h i (List.mem_range.mp hi)
theorem s_retA {σ : L2.St} {H : Hp} {D : Ends} {tr : TA} {sp : Sp} {E : XK} {vs : List V} (h : EvA tr σ H vs) (k : ∀ H1, Ex H H1 → sp vs H1 D.rt E) : tRet (tCall sp [] E tr) D σ H := h H (Ex.refl H) _ fun H1 e1 => by
  show sp (vs ++ []) H1 _ E
  rw [List.append_nil]
  exact k H1 e1
theorem q_asgA {σ : L2.St} {H : Hp} {D : Ends} {tz : TS} {tr : TA} {sp : Sp} {E : XK} {vs : List V} {i : Nat} (h : EvA tr σ H vs) (k : ∀ H1, Ex H H1 → sp vs H1 (fun v H2 => tz D (σ.set i (some v)) H2) E) : tSeq (tAsg (tCall sp [] E tr) (gName i)) tz D σ H := h H (Ex.refl H) _ fun H1 e1 => by
  show sp (vs ++ []) H1 _ E
  rw [List.append_nil]
  exact k H1 e1
abbrev sp_l_built (K : PySem.W.Frag) : Sp := fun vs H Q _ => ∃ f n : Int, vs = [.int f, .int n] ∧ SizeOk f n ∧ ∀ ds, DoorsOk n ds → ds.length ≤ 900 → ∀ p H2, H p = none → Ex H H2 → LstT H2 p (ds.map doorD) → Q (.ref p) H2
theorem ok_l_built (T : Txt K mg) : Kept P w K mg base 3 "_law_built" ["_law_first", "_law_size_here"] (sp_l_built K) := by
  refine T.d_l_built.kept sc_l_built (fun vs H Q E h => ?_) (fun cdv A outer s H vs Q E hr h => ?_)
  · obtain ⟨f, n, rfl, _⟩ := h
    rfl
  · obtain ⟨f, n, rfl, hz, q⟩ := h
    obtain ⟨hz0, hz60, hz4, hz10, hz7, hz5, hz9, hz68, hz2, hz3⟩ := hz
    refine ⟨_, (pss_cons (ps_if (pt_cmpR op_eq (pe_op op_mod (pv 0) pe_int) pe_int (nomark _))
        (pss_cons (ps_set (i := 2) sc_l_built.nd rfl (Or.inl rfl) (pe_lst pa_nil))
      (pss_cons (ps_for (passes_of rfl) rfl (pi_range1 (by rfl) T.n_range (pa_cons (pe_op op_sub pe_int (pe_op op_mod (pe_op op_fdiv (pv 0) pe_int) pe_int)) pa_nil)) (pg_name (i := 3) sc_l_built.nd rfl (Or.inl rfl))
        (pss_cons (ps_set (i := 4) sc_l_built.nd rfl (Or.inl rfl) (pe_op op_mod (pe_ix (ix_list_K (K := K) rfl) (pe_lst (pa_cons (pv 3) (pa_cons (pe_op op_mul (pv 3) (pv 3)) pa_nil))) (pe_callTy call_int1 (by rfl) T.n_int (by decide +kernel) (pa_cons (pe_cmpR op_ge (pv 3) (pv 1) (nomark _)) pa_nil)) (fun _ _ => rfl)) (pv 1)))
      (pss_cons (ps_set (i := 5) sc_l_built.nd rfl (Or.inl rfl) (pe_op op_mod (pe_ix (ix_list_K (K := K) rfl) (pe_lst (pa_cons (pe_op op_add (pv 3) pe_int) (pa_cons (pe_op op_mul (pv 3) pe_int) pa_nil))) (pe_callTy call_int1 (by rfl) T.n_int (by decide +kernel) (pa_cons (pe_cmpR op_ge (pv 3) (pv 1) (nomark _)) pa_nil)) (fun _ _ => rfl)) (pv 1)))
      (pss_one (ps_expr (pe_bm_K (K := K) rfl PySem.F.plainAttrs_list PySem.F.slot_list_append PySem.F.type_list_append mt_append (pv 2) (pa_cons (pe_tup (pa_cons (pv 4) (pa_cons (pv 5) (pa_cons (pe_ix (ix_list_K (K := K) rfl) (pe_lst (pa_cons pe_non (pa_cons pe_int (pa_cons pe_non (pa_cons (pe_op op_mod (pe_op op_fdiv (pv 3) pe_int) pe_int) (pa_cons (pe_op op_mod (pe_op op_add (pe_op op_fdiv (pv 0) pe_int) (pv 3)) pe_int) pa_nil)))))) (pe_op op_mod (pv 3) pe_int) (fun _ _ => rfl)) pa_nil)))) pa_nil)))))))
      (pss_one (ps_ret (pv 2)))))
        pss_nil)
      (pss_cons (ps_if (pt_cmpR op_eq (pe_op op_mod (pv 0) pe_int) pe_int (nomark _))
        (pss_cons (ps_set (i := 6) sc_l_built.nd rfl (Or.inr rfl) (pe_op op_cat (pe_op op_cat (pe_lst (pa_cons pe_int (pa_cons pe_int pa_nil))) (pe_op op_rep (pe_lst (pa_cons pe_non pa_nil)) (pe_op op_sub (pv 1) pe_int))) (pe_lst (pa_cons pe_int (pa_cons pe_int (pa_cons pe_int pa_nil))))))
      (pss_one (ps_ret (pe_lc (own := [("_law_k", 3)]) (g := gName 3) rfl sc_l_built.nd (pi_range1 (by rfl) T.n_range (pa_cons (pe_op op_sub (pv 1) pe_int) pa_nil)) (blkOk_by (own := [("_law_k", 3)]) (N := ["_law_first", "_law_size_here", "_law_made", "_law_k", "_law_one", "_law_other", "_law_locks", "_law_turn"]) (sc := defScope s_l_built) (by decide +kernel)) (fun _ _ _ _ _ => (pg_name (i := 3) sc_l_built.nd rfl (Or.inl rfl))) (fun _ _ _ _ _ => pts_nil) (fun _ _ _ _ _ => (pe_tup (pa_cons (pv 3) (pa_cons (pe_op op_add (pv 3) pe_int) (pa_cons (pe_ix (ix_list_K (K := K) rfl) (pv 6) (pv 3) (fun _ _ => rfl)) pa_nil)))))))))
        pss_nil)
      (pss_cons (ps_if (pt_cmpR op_eq (pe_op op_mod (pv 0) pe_int) pe_int (nomark _))
        (pss_one (ps_ret (pe_lc (own := [("_law_k", 3)]) (g := gName 3) rfl sc_l_built.nd (pi_range2 (by rfl) T.n_range (pa_cons pe_int (pa_cons (pv 1) pa_nil))) (blkOk_by (own := [("_law_k", 3)]) (N := ["_law_first", "_law_size_here", "_law_made", "_law_k", "_law_one", "_law_other", "_law_locks", "_law_turn"]) (sc := defScope s_l_built) (by decide +kernel)) (fun _ _ _ _ _ => (pg_name (i := 3) sc_l_built.nd rfl (Or.inl rfl))) (fun _ _ _ _ _ => pts_nil) (fun _ _ _ _ _ => (pe_tup (pa_cons pe_int (pa_cons (pv 3) (pa_cons pe_non pa_nil))))))))
        pss_nil)
      (pss_cons (ps_if (pt_cmpR (op_in_seq_K (K := K) rfl) (pe_op op_mod (pv 0) pe_int) (pe_tup (pa_cons pe_int (pa_cons pe_int pa_nil))) (by rfl))
        (pss_one (ps_ret (pe_fn (ok_l_ranks (K := K) T) (hr.mono (by decide)) passL (by rfl) (pa_cons (pv 0) (pa_cons (pv 1) pa_nil)))))
        pss_nil)
      (pss_cons (ps_if (pt_cmpR op_eq (pe_op op_mod (pv 0) pe_int) pe_int (nomark _))
        (pss_one (ps_ret (pe_fn (ok_l_many (K := K) T) (hr.mono (by decide)) passL (by rfl) (pa_cons (pv 0) (pa_cons (pv 1) pa_nil)))))
        pss_nil)
      (pss_cons (ps_if (pt_cmpR op_eq (pe_op op_mod (pv 0) pe_int) pe_int (nomark _))
        (pss_one (ps_ret (pe_fn (ok_l_mixed (K := K) T) (hr.mono (by decide)) passL (by rfl) (pa_cons (pv 0) (pa_cons (pv 1) pa_nil)))))
        pss_nil)
      (pss_cons (ps_if (pt_cmpR op_eq (pe_op op_mod (pv 0) pe_int) pe_int (nomark _))
        (pss_cons (ps_set (i := 7) sc_l_built.nd rfl (Or.inr rfl) (pe_op op_mod (pe_op op_fdiv (pe_fn (ok_l_mix (K := K) T) (hr.mono (by decide)) passL (by rfl) (pa_cons (pv 0) (pa_cons pe_int pa_nil))) pe_int) pe_int))
      (pss_one (ps_ret (pe_lc (own := [("_law_k", 3)]) (g := gName 3) rfl sc_l_built.nd (pi_range1 (by rfl) T.n_range (pa_cons (pe_op op_sub (pv 1) pe_int) pa_nil)) (blkOk_by (own := [("_law_k", 3)]) (N := ["_law_first", "_law_size_here", "_law_made", "_law_k", "_law_one", "_law_other", "_law_locks", "_law_turn"]) (sc := defScope s_l_built) (by decide +kernel)) (fun _ _ _ _ _ => (pg_name (i := 3) sc_l_built.nd rfl (Or.inl rfl))) (fun _ _ _ _ _ => pts_nil) (fun _ _ _ _ _ => (pe_tup (pa_cons (pv 3) (pa_cons (pe_op op_add (pv 3) pe_int) (pa_cons (pe_fn (ok_l_lock (K := K) T) (hr.mono (by decide)) passL (by rfl) (pa_cons (pe_op op_mul (pe_op op_add (pv 3) pe_int) (pv 7)) pa_nil)) pa_nil)))))))))
        pss_nil)
      (pss_cons (ps_if (pt_cmpR op_eq (pe_op op_mod (pv 0) pe_int) pe_int (nomark _))
        (pss_one (ps_ret (pe_lc (own := [("_law_k", 3)]) (g := gName 3) rfl sc_l_built.nd (pi_range2 (by rfl) T.n_range (pa_cons pe_int (pa_cons (pv 1) pa_nil))) (blkOk_by (own := [("_law_k", 3)]) (N := ["_law_first", "_law_size_here", "_law_made", "_law_k", "_law_one", "_law_other", "_law_locks", "_law_turn"]) (sc := defScope s_l_built) (by decide +kernel)) (fun _ _ _ _ _ => (pg_name (i := 3) sc_l_built.nd rfl (Or.inl rfl))) (fun _ _ _ _ _ => pts_nil) (fun _ _ _ _ _ => (pe_tup (pa_cons (pv 3) (pa_cons pe_int (pa_cons (pe_ix (ix_list_K (K := K) rfl) (pe_lst (pa_cons pe_non (pa_cons pe_int (pa_cons pe_int (pa_cons pe_int (pa_cons pe_int pa_nil)))))) (pe_op op_sub (pv 3) pe_int) (fun _ _ => rfl)) pa_nil))))))))
        pss_nil)
      (pss_one (ps_ret (pe_lst pa_nil))))))))))), ?_⟩
    refine q_when (b := decide (f % 12 = 4)) (by walk_at "mz ev") (fun hb H1 e1 => ?_) (fun hb H1 e1 => ?_)
    · refine q_asgLT (ds := []) (lt_lst ea_tn (by simp)) fun l H2 nl e2 hl => ?_
      have nlH : H l = none := fresh_back e1 nl
      refine q_forR1 (n := 90 - f / 12 % 3) (by walk_at "mz ev") ⟨by omega, by omega⟩ (fun i σ' H' => Ex H H' ∧ ∃ (y3 y4 y5 : Option V) (ds : List Door), σ' = [some (.int f), some (.int n), some (.ref l), y3, y4, y5, none, none] ∧ LstT H' l (ds.map doorD) ∧ (∀ d ∈ ds, WfD n d) ∧ ds.length = i) (fun H4 e4 => ⟨(e1.trans e2).trans e4, none, none, none, [], rfl, hl.ex e4, (fun d hd => by cases hd), by simp⟩) (fun i σ' H' hi hP => ?_) (fun σ' H' hP => ?_)
      · obtain ⟨eH, y3, y4, y5, ds, rfl, hL, hwf, hlen⟩ := hP
        have hc : ∀ a b : Int, 0 ≤ (if decide (n ≤ (i : Int)) = true then (1 : Int) else 0) ∧ (if decide (n ≤ (i : Int)) = true then (1 : Int) else 0) < (([a, b] : List Int).length : Int) := by
          intro a b
          simp
          split <;> omega
        refine q_asg (v := .int ((([(i : Int), (i : Int) * (i : Int)] : List Int).getD (if decide (n ≤ (i : Int)) = true then (1 : Int) else 0).toNat 0) % n)) (ev_op (ev_ixInts (ea_tc (td_int (by walk_at "mz ev")) (ea_tc (td_int (by walk_at "mz ev")) ea_tn)) (ev_intB (ev_op (ev_var rfl) (ev_var rfl) rv_I0)) (hc 0 0).1 (hc _ _).2) (ev_var rfl) (rv_I (by omega))) fun H4 e4 => ?_
        refine q_asg (v := .int ((([(i : Int) + 1, (i : Int) * 7] : List Int).getD (if decide (n ≤ (i : Int)) = true then (1 : Int) else 0).toNat 0) % n)) (ev_op (ev_ixInts (ea_tc (td_int (by walk_at "mz ev")) (ea_tc (td_int (by walk_at "mz ev")) ea_tn)) (ev_intB (ev_op (ev_var rfl) (ev_var rfl) rv_I0)) (hc 0 0).1 (hc _ _).2) (ev_var rfl) (rv_I (by omega))) fun H5 e5 => ?_
        have eH5 := (eH.trans e4).trans e5
        refine s_appT (hL.ex (e4.trans e5)) (ev_var rfl) (td_door (ev_var rfl) (ev_var rfl) (td_ixLocks (K := K) (ls := [none, some 4, none, some ((i : Int) / 5 % 4), some ((f / 36 + (i : Int)) % 5)]) (i := (i : Int) % 5) (ea_tc (td_lock0 ev_c) (ea_tc (td_lock1 ev_c) (ea_tc (td_lock0 ev_c) (ea_tc (td_lock1 (by walk_at "mz ev")) (ea_tc (td_lock1 (by walk_at "mz ev")) ea_tn))))) (by walk_at "mz ev") (by omega) (by simp; omega))) (by rw [List.length_map]; omega) fun H9 xs v e9 hx9 hp9 => ⟨Ex.mut (eH5.trans e9) nlH, _, _, _, ds ++ [_], rfl, by rw [List.map_append]; exact hp9, wfd_append hwf ⟨mod_here (n := n) (by omega) _, mod_here (n := n) (by omega) _, lockOk_getD (ls := [none, some 4, none, some ((i : Int) / 5 % 4), some ((f / 36 + (i : Int)) % 5)]) ?_ _⟩, by simp [hlen]⟩
        simp [lockOk]
        omega
      · obtain ⟨eH, y3, y4, y5, ds, rfl, hL, hwf, hlen⟩ := hP
        exact s_ret (ev_var rfl) fun H5 e5 => q ds ⟨hwf, by omega⟩ (by omega) l H5 nlH (eH.trans e5) (hL.ex e5)
    simp only [decide_eq_false_iff_not] at hb
    refine q_when (b := decide (f % 12 = 10)) (by walk_at "mz ev") (fun hb2 H2 e2 => ?_) (fun hb2 H2 e2 => ?_)
    · have hb2 := of_decide_eq_true hb2
      obtain ⟨hn20, hn40⟩ := hz10 hb2
      have e12 := e1.trans e2
      let L : List (Option Int) := [some 3, some 1] ++ List.replicate (n - 6).toNat none ++ [some 0, some 2, some 4]
      have hL : L.map lockD = [.int 3, .int 1] ++ (List.replicate (n - 6).toNat [PyData.none]).flatten ++ [.int 0, .int 2, .int 4] := by
        simp only [L, List.map_append, List.map_replicate, List.map_cons, List.map_nil, lockD]
        congr 2
        generalize (n - 6).toNat = m
        induction m with
        | zero => rfl
        | succ m ih => rw [List.replicate_succ, List.replicate_succ, List.flatten_cons, ← ih]; rfl
      have hll : L.length = (n - 6).toNat + 5 := by simp [L]
      have hlo : L.all lockOk = true := by
        rw [List.all_eq_true]
        intro x hx
        simp only [L, List.mem_append, List.mem_cons, List.mem_replicate, List.not_mem_nil, or_false] at hx
        rcases hx with ((h | h) | h) | h | h | h
        · subst h; rfl
        · subst h; rfl
        · rw [h.2]; rfl
        · subst h; rfl
        · subst h; rfl
        · subst h; rfl
      refine q_asgLT (ds := L.map lockD) ?_ fun l H3 nl e3 hl => ?_
      · rw [hL]
        refine lt_cat2 (lt_cat2 (lt_lst (ea_tc (td_int ev_c) (ea_tc (td_int ev_c) ea_tn)) (by simp)) (lt_rep (lt_lst (ea_tc (td_non ev_c) ea_tn) (by simp)) (by walk_at "mz ev") (by omega) (by simp; omega)) ?_) (lt_lst (ea_tc (td_int ev_c) (ea_tc (td_int ev_c) (ea_tc (td_int ev_c) ea_tn))) (by simp)) ?_
        · simp; omega
        · simp; omega
      · refine s_retLT (lt_mapR1 (n := n - 1) (fun i => doorD ((i : Int), (i : Int) + 1, L.getD (i : Int).toNat none)) (by walk_at "mz ev") (by omega) (fun x => rfl) fun i H4 e4 hi => td_door (by walk_at "mz ev") (by walk_at "mz ev") (td_ixLocksV (K := K) (ev_var rfl) (hl.ex e4) (by walk_at "mz ev") (by omega) (by rw [hll]; omega))) fun p H4 np e4 hp => ?_
        rw [doors_map] at hp
        have hh := doors_ok (n := n) (m := (n - 1).toNat) (g := fun i => ((i : Int), (i : Int) + 1, L.getD (i : Int).toNat none)) (fun i hi => ⟨⟨by show 0 ≤ (i : Int); omega, by show (i : Int) < n; omega⟩, ⟨by show 0 ≤ (i : Int) + 1; omega, by show (i : Int) + 1 < n; omega⟩, lockOk_getD hlo _⟩) (by omega)
        exact q _ hh.1 hh.2 p H4 (fresh_back (e12.trans e3) np) ((e12.trans e3).trans e4) hp
    simp only [decide_eq_false_iff_not] at hb2
    have e12 := e1.trans e2
    refine q_when (b := decide (f % 12 = 7)) (by walk_at "mz ev") (fun hb3 H3 e3 => ?_) (fun hb3 H3 e3 => ?_)
    · refine s_retLT (lt_mapR2 (lo := 1) (n := n) (fun i => doorD (0, 1 + (i : Int), none)) (by walk_at "mz ev") ⟨by omega, by omega, by omega, by omega⟩ (fun x => rfl) fun i H4 e4 hi => td_door ev_c (by walk_at "mz ev") (td_lock0 ev_c)) fun p H4 np e4 hp => ?_
      rw [doors_map] at hp
      have hh := doors_ok (n := n) (m := (n - 1).toNat) (g := fun i => (0, 1 + (i : Int), none)) (fun i hi => ⟨⟨by show (0 : Int) ≤ 0; omega, by show (0 : Int) < n; omega⟩, ⟨by show 0 ≤ 1 + (i : Int); omega, by show 1 + (i : Int) < n; omega⟩, rfl⟩) (by omega)
      exact q _ hh.1 hh.2 p H4 (fresh_back (e12.trans e3) np) ((e12.trans e3).trans e4) hp
    simp only [decide_eq_false_iff_not] at hb3
    have e13 := e12.trans e3
    refine q_when (b := decide (f % 12 ∈ [6, 8])) (et_test (ev_in2 (by walk_at "mz ev"))) (fun hb6 H4 e4 => ?_) (fun hb6 H4 e4 => ?_)
    · simp only [decide_eq_true_eq, List.mem_cons, List.not_mem_nil, or_false] at hb6
      obtain ⟨hn1, hn2⟩ := hz68 hb6
      exact s_retA (vs := [.int f, .int n]) (ea_cons (ev_var rfl) (ea_cons (ev_var rfl) ea_nil)) fun H5 e5 => ⟨f, n, rfl, by omega, hn2, fun ds h1 h2 p H6 np e6 hp => q ds h1 h2 p H6 (fresh_back ((e13.trans e4).trans e5) np) (((e13.trans e4).trans e5).trans e6) hp⟩
    simp only [decide_eq_false_iff_not, List.mem_cons, List.not_mem_nil, or_false] at hb6
    have e14 := e13.trans e4
    refine q_when (b := decide (f % 12 = 5)) (by walk_at "mz ev") (fun hb5 H5 e5 => ?_) (fun hb5 H5 e5 => ?_)
    · have hb5 := of_decide_eq_true hb5
      have := hz5 hb5
      exact s_retA (vs := [.int f, .int n]) (ea_cons (ev_var rfl) (ea_cons (ev_var rfl) ea_nil)) fun H6 e6 => ⟨f, n, rfl, by omega, by omega, fun ds h1 h2 p H7 np e7 hp => q ds h1 h2 p H7 (fresh_back ((e14.trans e5).trans e6) np) (((e14.trans e5).trans e6).trans e7) hp⟩
    simp only [decide_eq_false_iff_not] at hb5
    have e15 := e14.trans e5
    refine q_when (b := decide (f % 12 = 9)) (by walk_at "mz ev") (fun hb9 H6 e6 => ?_) (fun hb9 H6 e6 => ?_)
    · have hb9 := of_decide_eq_true hb9
      have := hz9 hb9
      exact s_retA (vs := [.int f, .int n]) (ea_cons (ev_var rfl) (ea_cons (ev_var rfl) ea_nil)) fun H7 e7 => ⟨f, n, rfl, by omega, by omega, fun ds h1 h2 p H8 np e8 hp => q ds h1 h2 p H8 (fresh_back ((e15.trans e6).trans e7) np) (((e15.trans e6).trans e7).trans e8) hp⟩
    simp only [decide_eq_false_iff_not] at hb9
    have e16 := e15.trans e6
    refine q_when (b := decide (f % 6 = 2)) (by walk_at "mz ev") (fun hbb H7 e7 => ?_) (fun hbb H7 e7 => ?_)
    · refine q_asg (v := .int (mix f 0 / 30 % 8)) (ev_op (ev_op (ev_call0 (ea_cons (ev_var rfl) (ea_cons ev_c ea_nil)) sv_l_mix) ev_c (rv_I (by walk_at "mz side"))) ev_c (rv_I (by walk_at "mz side"))) fun H8 e8 => ?_
      have e18 := (e16.trans e7).trans e8
      refine s_retLT (lt_mapR1 (n := n - 1) (fun i => doorD ((i : Int), (i : Int) + 1, lockF (((i : Int) + 1) * (mix f 0 / 30 % 8)))) (by walk_at "mz ev") (by omega) (fun x => rfl) fun i H9 e9 hi => td_door (by walk_at "mz ev") (by walk_at "mz ev") (td_l_lock (by walk_at "mz ev"))) fun p H9 np e9 hp => ?_
      rw [doors_map] at hp
      have hh := doors_ok (n := n) (m := (n - 1).toNat) (g := fun i => ((i : Int), (i : Int) + 1, lockF (((i : Int) + 1) * (mix f 0 / 30 % 8)))) (fun i hi => ⟨⟨by show 0 ≤ (i : Int); omega, by show (i : Int) < n; omega⟩, ⟨by show 0 ≤ (i : Int) + 1; omega, by show (i : Int) + 1 < n; omega⟩, lockF_ok _⟩) (by omega)
      exact q _ hh.1 hh.2 p H9 (fresh_back e18 np) (e18.trans e9) hp
    simp only [decide_eq_false_iff_not] at hbb
    have e17 := e16.trans e7
    refine q_when (b := decide (f % 6 = 3)) (by walk_at "mz ev") (fun hb8 H8 e8 => ?_) (fun hb8 H8 e8 => ?_)
    · have hb8 := of_decide_eq_true hb8
      obtain ⟨hn2, hn6⟩ := hz3 hb8
      have hn6 : n ≤ 6 := by omega
      refine s_retLT (lt_mapR2 (lo := 1) (n := n) (fun i => doorD (1 + (i : Int), 0, ([none, some 0, some 1, some 2, some 3] : List (Option Int)).getD (1 + (i : Int) - 1).toNat none)) (by walk_at "mz ev") ⟨by omega, by omega, by omega, by omega⟩ (fun x => rfl) fun i H9 e9 hi => td_door (by walk_at "mz ev") ev_c (td_ixLocks (K := K) (ea_tc (td_lock0 ev_c) (ea_tc (td_lock1 ev_c) (ea_tc (td_lock1 ev_c) (ea_tc (td_lock1 ev_c) (ea_tc (td_lock1 ev_c) ea_tn))))) (by walk_at "mz ev") (by omega) (by simp; omega))) fun p H9 np e9 hp => ?_
      rw [doors_map] at hp
      have hh := doors_ok (n := n) (m := (n - 1).toNat) (g := fun i => (1 + (i : Int), 0, ([none, some 0, some 1, some 2, some 3] : List (Option Int)).getD (1 + (i : Int) - 1).toNat none)) (fun i hi => ⟨⟨by show 0 ≤ 1 + (i : Int); omega, by show 1 + (i : Int) < n; omega⟩, ⟨by show (0 : Int) ≤ 0; omega, by show (0 : Int) < n; omega⟩, lockOk_getD (by decide) _⟩) (by omega)
      exact q _ hh.1 hh.2 p H9 (fresh_back (e17.trans e8) np) ((e17.trans e8).trans e9) hp
    refine s_retLT (ds := ([] : List Door).map doorD) (lt_lst ea_tn (by simp)) fun p H9 np e9 hp => q [] ⟨(fun d hd => absurd hd (by simp)), by simp⟩ (by simp) p H9 (fresh_back (e17.trans e8) np) ((e17.trans e8).trans e9) hp
end

section
variable {P : Program} {w : World} {K : PySem.W.Frag} {mg : Str → Option Value} {base : Heap}
theorem ev_scr {σ : L2.St} {H : Hp} {ta tb : TE} {a : Addr} {ns : List Int} {k : Int} (ha : Ev ta σ H (.ref a)) (hS : SqL K H a (ns.map V.int)) (hb : Ev tb σ H (.int k)) (h0 : 0 ≤ k) (h1 : k < (ns.length : Int)) : Ev (tOp (rIxL K) ta tb) σ H (.int (ns.getD k.toNat 0)) := by
  have hl : k.toNat < ns.length := by omega
  have e : (ns.map V.int)[k.toNat]? = some (.int (ns.getD k.toNat 0)) := by
    rw [List.getElem?_map, List.getElem?_eq_getElem hl, List.getD_eq_getElem?_getD, List.getElem?_eq_getElem hl]
    rfl
  exact ev_op ha hb (rv_ixL hS (at_of (by omega) e))
theorem min_len {ns : List Int} : ∃ j : Nat, (if (27 : Int) < ((ns.map V.int).length : Int) then (27 : Int) else ((ns.map V.int).length : Int)) = (j : Int) ∧ j ≤ 27 ∧ j ≤ ns.length := by
  rw [List.length_map]
  by_cases h : (27 : Int) < (ns.length : Int)
  · exact ⟨27, by rw [if_pos h]; rfl, by omega, by omega⟩
  · exact ⟨ns.length, by rw [if_neg h], by omega, by omega⟩
theorem step3 : ∀ j : Fin 28, Builtin.Range.small 5 ((j.val : Nat) : Int) 3 = true ∧ Builtin.Range.rangeSize 5 ((j.val : Nat) : Int) 3 = (((j.val - 3) / 3 : Nat) : Int) := by decide +kernel
/-- a range by steps -/
theorem q_forR3 {σ : L2.St} {H : Hp} {ta : TA} {tu tz : TS} {D : Ends} {jj : Nat} {lo hi c : Int} {n : Nat} (h : EvA ta σ H [.int lo, .int hi, .int c]) (hn : RgC lo hi c n) (Pv : Nat → L2.St → Hp → Prop) (h0 : ∀ H1, Ex H H1 → Pv 0 σ H1)
    (hs : ∀ (i : Nat) σ' H', i < n → Pv i σ' H' → tu { D with nx := Pv (i + 1), ct := Pv (i + 1), bk := tz D } (σ'.set jj (some (.int (lo + (i : Int) * c)))) H') (hd : ∀ σ' H', Pv n σ' H' → tz D σ' H') : tSeq (tFor (iRng3 ta) (gName jj) tu) tz D σ H :=
  h H (Ex.refl H) _ fun H1 e => ⟨lo, hi, c, n, rfl, hn, for_rangeC (D := { D with nx := tz D }) Pv (h0 H1 e) (fun i σ' H' hi p => hs i σ' H' hi p) hd⟩
/-! ### the doors -/
abbrev sp_l_doors (K : PySem.W.Frag) : Sp := fun vs H Q _ => ∃ (a : Addr) (ns : List Int) (n : Int), vs = [.ref a, .int n] ∧ SqL K H a (ns.map V.int) ∧ SizeOk (cellAt ns 0) n ∧ ns.length ≤ 63 ∧ ∀ ds, DoorsOk n ds → ∀ p H2, H p = none → Ex H H2 → LstT H2 p (ds.map doorD) → Q (.ref p) H2
theorem ok_l_doors (T : Txt K mg) : Kept P w K mg base 4 "_law_doors" ["_law_script", "_law_size_here"] (sp_l_doors K) := by
  refine T.d_l_doors.kept sc_l_doors (fun vs H Q E h => ?_) (fun cdv A outer s H vs Q E hr h => ?_)
  · obtain ⟨a, ns, n, rfl, _⟩ := h
    rfl
  · obtain ⟨a, ns, n, rfl, hS, hz, hl63, q⟩ := h
    have hz1 : 1 ≤ n ∧ n ≤ 60 := ⟨hz.1, hz.2.1⟩
    refine ⟨_, (pss_cons (ps_set (i := 2) sc_l_doors.nd rfl (Or.inl rfl) (pe_fn (ok_l_cell_at (K := K) T) (hr.mono (by decide)) passL (by rfl) (pa_cons (pv 0) (pa_cons pe_int pa_nil))))
      (pss_cons (ps_set (i := 3) sc_l_doors.nd rfl (Or.inl rfl) (pe_fn (ok_l_built (K := K) T) (hr.mono (by decide)) passL (by rfl) (pa_cons (pv 2) (pa_cons (pv 1) pa_nil))))
      (pss_cons (ps_if (pt_cmpR (op_in_seq_K (K := K) rfl) (pe_op op_mod (pv 2) pe_int) (pe_tup (pa_cons pe_int (pa_cons pe_int (pa_cons pe_int (pa_cons pe_int (pa_cons pe_int (pa_cons pe_int (pa_cons pe_int pa_nil)))))))) (by rfl))
        (pss_one (ps_ret (pv 3)))
        pss_nil)
      (pss_cons (ps_for (passes_of rfl) rfl (pi_range2 (by rfl) T.n_range (pa_cons pe_int (pa_cons (pe_callB (call_min2 rfl) (by rfl) T.n_min (by decide +kernel) (pa_cons (pe_callB (call_len_seq_K (K := K) rfl) (by rfl) T.n_len (by decide +kernel) (pa_cons (pv 0) pa_nil)) (pa_cons pe_int pa_nil))) pa_nil))) (pg_name (i := 4) sc_l_doors.nd rfl (Or.inl rfl))
        (pss_cons (ps_set (i := 5) sc_l_doors.nd rfl (Or.inl rfl) (pe_ix (ix_list_K (K := K) rfl) (pv 0) (pv 4) (fun _ _ => rfl)))
      (pss_one (ps_if (PW.pt (pw_and (pt_cmpR op_ne (pe_op op_mod (pv 4) pe_int) pe_int (nomark _)) (pw_and1 (PW.pt (pw_or (pt_cmpR (op_notIn_seq_K (K := K) rfl) (pe_op op_mod (pv 2) pe_int) (pe_tup (pa_cons pe_int (pa_cons pe_int pa_nil))) (by rfl)) (pw_or1 (pt_cmpR op_gt (pv 4) pe_int (nomark _))))))))
        (pss_cons (ps_set (i := 6) sc_l_doors.nd rfl (Or.inl rfl) (pe_op op_mod (pe_fn (ok_l_mix (K := K) T) (hr.mono (by decide)) passL (by rfl) (pa_cons (pv 5) (pa_cons pe_int pa_nil))) (pv 1)))
      (pss_one (ps_expr (pe_bm_K (K := K) rfl PySem.F.plainAttrs_list PySem.F.slot_list_append PySem.F.type_list_append mt_append (pv 3) (pa_cons (pe_tup (pa_cons (pv 6) (pa_cons (pe_op op_mod (pe_fn (ok_l_mix (K := K) T) (hr.mono (by decide)) passL (by rfl) (pa_cons (pv 5) (pa_cons pe_int pa_nil))) (pv 1)) (pa_cons (pe_fn (ok_l_lock (K := K) T) (hr.mono (by decide)) passL (by rfl) (pa_cons (pe_fn (ok_l_mix (K := K) T) (hr.mono (by decide)) passL (by rfl) (pa_cons (pv 5) (pa_cons pe_int pa_nil))) pa_nil)) pa_nil)))) pa_nil)))))
        pss_nil))))
      (pss_one (ps_ret (pv 3))))))), ?_⟩
    obtain ⟨f, ef⟩ : ∃ f, cellAt ns 0 = f := ⟨_, rfl⟩
    rw [ef] at hz
    refine q_asg (v := .int f) ?_ fun H1 e1 => ?_
    · rw [← ef]
      exact ev_call0 (ea_cons (ev_var rfl) (ea_cons ev_c ea_nil)) (sv_l_cell_at hS (by decide))
    refine q_asgA (vs := [.int f, .int n]) (ea_cons (ev_var rfl) (ea_cons (ev_var rfl) ea_nil)) fun H2 e2 => ⟨f, n, rfl, hz, fun ds0 hd0 hd00 l H3 nl e3 hl => ?_⟩
    have e12 := e1.trans e2
    have nlH : H l = none := fresh_back e12 nl
    have e13 := e12.trans e3
    refine q_when (b := decide (f % 12 ∈ [4, 5, 6, 7, 8, 9, 10])) (et_test (ev_inW (ns := [4, 5, 6, 7, 8, 9, 10]) (by walk_at "mz ev") (td_tup (ds := [.int 4, .int 5, .int 6, .int 7, .int 8, .int 9, .int 10]) (ea_tc (td_int ev_c) (ea_tc (td_int ev_c) (ea_tc (td_int ev_c) (ea_tc (td_int ev_c) (ea_tc (td_int ev_c) (ea_tc (td_int ev_c) (ea_tc (td_int ev_c) ea_tn))))))) (by simp)))) (fun hb H4 e4 => s_ret (ev_var rfl) fun H5 e5 => q ds0 hd0 l H5 nlH ((e13.trans e4).trans e5) (hl.ex (e4.trans e5))) (fun hb H4 e4 => ?_)
    obtain ⟨j, ej, hj27, hjl⟩ := min_len (ns := ns)
    refine q_forR2 (lo := 3) (n := (j : Int)) (ea_cons ev_c (ea_cons (ev_is (ev_min2 (ev_lenS (ev_var rfl) (ex_l (e13.trans e4) hS)) ev_c) (by rw [ej])) ea_nil)) ⟨by omega, by omega, by omega, by omega⟩ (fun i σ' H' => Ex H H' ∧ ∃ (y4 y5 y6 : Option V) (ds : List Door), σ' = [some (.ref a), some (.int n), some (.int f), some (.ref l), y4, y5, y6] ∧ LstT H' l (ds.map doorD) ∧ (∀ d ∈ ds, WfD n d) ∧ ds.length ≤ 900 + i) (fun H5 e5 => ⟨(e13.trans e4).trans e5, none, none, none, ds0, rfl, hl.ex (e4.trans e5), hd0.1, by omega⟩) (fun i σ' H' hi hP => ?_) (fun σ' H' hP => ?_)
    · obtain ⟨eH, y4, y5, y6, ds, rfl, hL, hwf, hlen⟩ := hP
      obtain ⟨c, ec⟩ : ∃ c, ns.getD (3 + (i : Int)).toNat 0 = c := ⟨_, rfl⟩
      refine q_asg (v := .int c) (by rw [← ec]; exact ev_scr (ev_var rfl) (ex_l eH hS) (by walk_at "mz ev") (by omega) (by omega)) fun H5 e5 => ?_
      refine s_when (b := !decide ((3 + (i : Int)) % 3 = 2) && ((!decide (f % 6 ∈ [2, 3])) || decide ((20 : Int) < 3 + (i : Int)))) (et_and (by walk_at "mz ev") fun _ => et_or (et_test (ev_ni2 (by walk_at "mz ev"))) fun _ => by walk_at "mz ev") (fun _ H6 e6 => ?_) (fun _ H6 e6 => ⟨(eH.trans e5).trans e6, _, _, _, ds, rfl, hL.ex (e5.trans e6), hwf, by omega⟩)
      have eH6 := (eH.trans e5).trans e6
      have hL6 := hL.ex (e5.trans e6)
      have evm : ∀ {σ : L2.St} {H' : Hp} {ta tb : TE} {x y : Int} {E : XK}, Ev ta σ H' (.int x) → Ev tb σ H' (.int y) → Ev (tCall (sp_l_mix K) [] E (tCons ta (tCons tb tNil))) σ H' (.int (mix x y)) := fun h1 h2 => ev_call0 (ea_cons h1 (ea_cons h2 ea_nil)) sv_l_mix
      refine q_asg (v := .int (mix c 0 % n)) (ev_op (evm (ev_var rfl) ev_c) (ev_var rfl) (rv_I (by omega))) fun H7 e7 => ?_
      refine s_appT (hL6.ex e7) (ev_var rfl) (td_door (a := mix c 0 % n) (b := mix c 1 % n) (ev_var rfl) (ev_op (evm (ev_var rfl) ev_c) (ev_var rfl) (rv_I (by omega))) (td_l_lock (evm (ev_var rfl) ev_c))) (by rw [List.length_map]; omega) fun H9 xs v e9 hx9 hp9 => ⟨Ex.mut ((eH6.trans e7).trans e9) nlH, _, _, _, ds ++ [_], rfl, by rw [List.map_append]; exact hp9, wfd_append hwf ⟨mod_here (n := n) (by omega) _, mod_here (n := n) (by omega) _, lockF_ok _⟩, by simp; omega⟩
    · obtain ⟨eH, y4, y5, y6, ds, rfl, hL, hwf, hlen⟩ := hP
      exact s_ret (ev_var rfl) fun H5 e5 => q ds ⟨hwf, by omega⟩ l H5 nlH (eH.trans e5) (hL.ex e5)
/-! ### the keys that lie -/
theorem keys_map {m : Nat} {g : Nat → Key2} : (List.range m).map (fun i => keyD (g i)) = ((List.range m).map g).map keyD := by
  rw [List.map_map]
  rfl
theorem keys_mapF {m : Nat} {p : Nat → Bool} {g : Nat → Key2} : ((List.range m).filter p).map (fun i => keyD (g i)) = (((List.range m).filter p).map g).map keyD := by
  rw [List.map_map]
  rfl
abbrev KeyOk (n : Int) (k : Key2) : Prop := Here n k.1 ∧ Here 5 k.2
theorem keys_ok {m : Nat} {p : Nat → Bool} {g : Nat → Key2} {n : Int} (h : ∀ i, i < m → KeyOk n (g i)) : (∀ k ∈ ((List.range m).filter p).map g, KeyOk n k) ∧ (((List.range m).filter p).map g).length ≤ m := by
  refine ⟨fun d hd => ?_, ?_⟩
  · obtain ⟨i, hi, rfl⟩ := List.mem_map.mp hd
    exact h i (List.mem_range.mp (List.mem_filter.mp hi).1)
  · rw [List.length_map]
    exact Nat.le_trans (List.length_filter_le _ _) (by simp)
theorem keys_ok1 {m : Nat} {g : Nat → Key2} {n : Int} (h : ∀ i, i < m → KeyOk n (g i)) : (∀ k ∈ (List.range m).map g, KeyOk n k) ∧ ((List.range m).map g).length ≤ m := by
  refine ⟨fun d hd => ?_, by simp⟩
  obtain ⟨i, hi, rfl⟩ := List.mem_map.mp hd
  exact h i (List.mem_range.mp hi)
theorem keys_app {n : Int} {ks : List Key2} {k : Key2} (h : ∀ k ∈ ks, KeyOk n k) (hd : KeyOk n k) : ∀ x ∈ ks ++ [k], KeyOk n x := fun x hx => by
  rcases List.mem_append.mp hx with h1 | h1
  · exact h x h1
  · simp at h1
    subst h1
    exact hd
theorem keys_app2 {n : Int} {ks ls : List Key2} (h : ∀ k ∈ ks, KeyOk n k) (hd : ∀ k ∈ ls, KeyOk n k) : ∀ x ∈ ks ++ ls, KeyOk n x := fun x hx => by
  rcases List.mem_append.mp hx with h1 | h1
  · exact h x h1
  · exact hd x h1
theorem here5 {i : Int} (h1 : 0 ≤ i) (h2 : i < 5) : Here 5 i := ⟨h1, h2⟩
abbrev sp_l_lying (K : PySem.W.Frag) : Sp := fun vs H Q _ => ∃ (a : Addr) (ns : List Int) (n : Int), vs = [.ref a, .int n] ∧ SqL K H a (ns.map V.int) ∧ SizeOk (cellAt ns 0) n ∧ ns.length ≤ 63 ∧ ∀ ks, KeysOk n ks → ∀ p H2, H p = none → Ex H H2 → LstT H2 p (ks.map keyD) → Q (.ref p) H2
theorem ok_l_lying (T : Txt K mg) : Kept P w K mg base 2 "_law_lying" ["_law_script", "_law_size_here"] (sp_l_lying K) := by
  refine T.d_l_lying.kept sc_l_lying (fun vs H Q E h => ?_) (fun cdv A outer s H vs Q E hr h => ?_)
  · obtain ⟨a, ns, n, rfl, _⟩ := h
    rfl
  · obtain ⟨a, ns, n, rfl, hS, hz, hl63, q⟩ := h
    refine ⟨_, (pss_cons (ps_set (i := 2) sc_l_lying.nd rfl (Or.inl rfl) (pe_fn (ok_l_cell_at (K := K) T) (hr.mono (by decide)) passL (by rfl) (pa_cons (pv 0) (pa_cons pe_int pa_nil))))
      (pss_cons (ps_set (i := 3) sc_l_lying.nd rfl (Or.inr rfl) (pe_op op_fdiv (pe_fn (ok_l_cell_at (K := K) T) (hr.mono (by decide)) passL (by rfl) (pa_cons (pv 0) (pa_cons pe_int pa_nil))) pe_int))
      (pss_cons (ps_if (pt_cmpR op_eq (pe_op op_mod (pv 2) pe_int) pe_int (nomark _))
        (pss_cons (ps_setLc (i := 4) (own := [("_law_k", 5)]) (g := gName 5) rfl sc_l_lying.nd rfl rfl (sw_true rfl rfl rfl (by decide +kernel)) (pi_range1 (by rfl) T.n_range (pa_cons pe_int pa_nil)) (blkOk_by (own := [("_law_k", 5)]) (N := ["_law_script", "_law_size_here", "_law_first", "_law_turn", "_law_made", "_law_k"]) (sc := defScope s_l_lying) (by decide +kernel)) (fun _ _ _ _ _ => (pg_name (i := 5) sc_l_lying.nd rfl (Or.inl rfl))) (fun _ _ _ _ _ => pts_nil) (fun _ _ _ _ _ => (pe_tup (pa_cons (pe_op op_mod (pe_op op_add (pe_op op_mul (pv 3) (pe_op op_add (pe_op op_mul pe_int (pv 5)) pe_int)) (pv 5)) (pv 1)) (pa_cons (pv 5) pa_nil)))))
      (pss_one (ps_ret (pe_op op_cat (pv 4) (pe_lc (own := [("_law_k", 5)]) (g := gName 5) rfl sc_l_lying.nd (pi_range1 (by rfl) T.n_range (pa_cons pe_int pa_nil)) (blkOk_by (own := [("_law_k", 5)]) (N := ["_law_script", "_law_size_here", "_law_first", "_law_turn", "_law_made", "_law_k"]) (sc := defScope s_l_lying) (by decide +kernel)) (fun _ _ _ _ _ => (pg_name (i := 5) sc_l_lying.nd rfl (Or.inl rfl))) (fun _ _ _ _ _ => pts_one (pt_cmpR op_eq (pe_op op_mod (pv 5) pe_int) pe_int (nomark _))) (fun _ _ _ _ _ => (pe_tup (pa_cons (pe_op op_mod (pe_op op_add (pv 5) (pv 3)) (pv 1)) (pa_cons pe_int pa_nil)))))))))
        pss_nil)
      (pss_cons (ps_if (pt_cmpR op_eq (pe_op op_mod (pv 2) pe_int) pe_int (nomark _))
        (pss_one (ps_ret (pe_lst (pa_cons (pe_tup (pa_cons pe_int (pa_cons pe_int pa_nil))) (pa_cons (pe_tup (pa_cons (pe_op op_sub (pv 1) pe_int) (pa_cons pe_int pa_nil))) (pa_cons (pe_tup (pa_cons pe_int (pa_cons pe_int pa_nil))) (pa_cons (pe_tup (pa_cons (pe_op op_sub (pv 1) pe_int) (pa_cons pe_int pa_nil))) (pa_cons (pe_tup (pa_cons pe_int (pa_cons pe_int pa_nil))) pa_nil))))))))
        pss_nil)
      (pss_cons (ps_if (pt_cmpR op_eq (pe_op op_mod (pv 2) pe_int) pe_int (nomark _))
        (pss_one (ps_ret (pe_lc (own := [("_law_k", 5)]) (g := gName 5) rfl sc_l_lying.nd (pi_range2 (by rfl) T.n_range (pa_cons pe_int (pa_cons (pv 1) pa_nil))) (blkOk_by (own := [("_law_k", 5)]) (N := ["_law_script", "_law_size_here", "_law_first", "_law_turn", "_law_made", "_law_k"]) (sc := defScope s_l_lying) (by decide +kernel)) (fun _ _ _ _ _ => (pg_name (i := 5) sc_l_lying.nd rfl (Or.inl rfl))) (fun _ _ _ _ _ => pts_nil) (fun _ _ _ _ _ => (pe_tup (pa_cons (pv 5) (pa_cons (pe_op op_mod (pe_op op_add (pv 5) (pv 3)) pe_int) pa_nil)))))))
        pss_nil)
      (pss_cons (ps_if (pt_cmpR (op_in_seq_K (K := K) rfl) (pe_op op_mod (pv 2) pe_int) (pe_tup (pa_cons pe_int (pa_cons pe_int pa_nil))) (by rfl))
        (pss_one (ps_ret (pe_lst (pa_cons (pe_tup (pa_cons (pe_op op_mod (pv 3) (pv 1)) (pa_cons pe_int pa_nil))) (pa_cons (pe_tup (pa_cons (pe_op op_mod (pe_op op_add (pe_op op_mul (pv 3) pe_int) pe_int) (pv 1)) (pa_cons pe_int pa_nil))) pa_nil)))))
        pss_nil)
      (pss_cons (ps_if (PW.pt (pw_or (pt_cmpR op_eq (pe_op op_mod (pv 2) pe_int) pe_int (nomark _)) (pw_or1 (pt_cmpR op_eq (pe_op op_mod (pv 2) pe_int) pe_int (nomark _)))))
        (pss_one (ps_ret (pe_lc (own := [("_law_k", 5)]) (g := gName 5) rfl sc_l_lying.nd (pi_range1 (by rfl) T.n_range (pa_cons (pe_op op_add pe_int (pe_op op_mod (pv 3) pe_int)) pa_nil)) (blkOk_by (own := [("_law_k", 5)]) (N := ["_law_script", "_law_size_here", "_law_first", "_law_turn", "_law_made", "_law_k"]) (sc := defScope s_l_lying) (by decide +kernel)) (fun _ _ _ _ _ => (pg_name (i := 5) sc_l_lying.nd rfl (Or.inl rfl))) (fun _ _ _ _ _ => pts_nil) (fun _ _ _ _ _ => (pe_tup (pa_cons (pe_op op_mod (pe_op op_add (pe_op op_mul (pv 5) (pv 5)) (pv 3)) (pv 1)) (pa_cons (pe_op op_mod (pe_op op_mul (pv 5) pe_int) pe_int) pa_nil)))))))
        pss_nil)
      (pss_cons (ps_set (i := 4) sc_l_lying.nd rfl (Or.inl rfl) (pe_lst pa_nil))
      (pss_cut (ps_if (pt_cmpR op_eq (pe_op op_mod (pv 2) pe_int) pe_int (nomark _))
        (pss_one (ps_setLc (i := 4) (own := [("_law_k", 5)]) (g := gName 5) rfl sc_l_lying.nd rfl rfl (sw_true rfl rfl rfl (by decide +kernel)) (pi_range2 (by rfl) T.n_range (pa_cons pe_int (pa_cons (pv 1) pa_nil))) (blkOk_by (own := [("_law_k", 5)]) (N := ["_law_script", "_law_size_here", "_law_first", "_law_turn", "_law_made", "_law_k"]) (sc := defScope s_l_lying) (by decide +kernel)) (fun _ _ _ _ _ => (pg_name (i := 5) sc_l_lying.nd rfl (Or.inl rfl))) (fun _ _ _ _ _ => pts_nil) (fun _ _ _ _ _ => (pe_tup (pa_cons (pv 5) (pa_cons (pe_op op_sub (pv 5) pe_int) pa_nil))))))
        pss_nil)
      (pss_cons (ps_for (passes_of rfl) rfl (pi_range3 (by rfl) T.n_range (pa_cons pe_int (pa_cons (pe_callB (call_min2 rfl) (by rfl) T.n_min (by decide +kernel) (pa_cons (pe_callB (call_len_seq_K (K := K) rfl) (by rfl) T.n_len (by decide +kernel) (pa_cons (pv 0) pa_nil)) (pa_cons pe_int pa_nil))) (pa_cons pe_int pa_nil)))) (pg_name (i := 5) sc_l_lying.nd rfl (Or.inl rfl))
        (pss_one (ps_expr (pe_bm_K (K := K) rfl PySem.F.plainAttrs_list PySem.F.slot_list_append PySem.F.type_list_append mt_append (pv 4) (pa_cons (pe_tup (pa_cons (pe_op op_mod (pe_fn (ok_l_mix (K := K) T) (hr.mono (by decide)) passL (by rfl) (pa_cons (pe_ix (ix_list_K (K := K) rfl) (pv 0) (pv 5) (fun _ _ => rfl)) (pa_cons pe_int pa_nil))) (pv 1)) (pa_cons (pe_op op_mod (pe_fn (ok_l_mix (K := K) T) (hr.mono (by decide)) passL (by rfl) (pa_cons (pe_ix (ix_list_K (K := K) rfl) (pv 0) (pv 5) (fun _ _ => rfl)) (pa_cons pe_int pa_nil))) pe_int) pa_nil))) pa_nil)))))
      (pss_one (ps_ret (pv 4))))))))))))), ?_⟩
    obtain ⟨f, ef⟩ : ∃ f, cellAt ns 0 = f := ⟨_, rfl⟩
    rw [ef] at hz
    obtain ⟨hz0, hz60, hz4, hz10, hz7, hz5, hz9, hz68, hz2, hz3⟩ := hz
    refine q_asg (v := .int f) ?_ fun H1 e1 => ?_
    · rw [← ef]
      exact ev_call0 (ea_cons (ev_var rfl) (ea_cons ev_c ea_nil)) (sv_l_cell_at hS (by decide))
    obtain ⟨u, eu⟩ : ∃ u, cellAt ns 1 / 60 = u := ⟨_, rfl⟩
    refine q_asg (v := .int u) ?_ fun H2 e2 => ?_
    · rw [← eu]
      exact ev_op (ev_call0 (ea_cons (ev_var rfl) (ea_cons ev_c ea_nil)) (sv_l_cell_at (ex_l e1 hS) (by decide))) ev_c (rv_I (by walk_at "mz side"))
    have e12 := e1.trans e2
    refine q_when (b := decide (f % 12 = 4)) (by walk_at "mz ev") (fun hb H3 e3 => ?_) (fun hb H3 e3 => ?_)
    · refine q_asgLT (lt_mapR1 (n := 4) (fun i => keyD ((u * (2 * (i : Int) + 1) + (i : Int)) % n, (i : Int))) (by walk_at "mz ev") (by omega) (fun x => rfl) fun i H4 e4 hi => td_key (by walk_at "mz ev") (by walk_at "mz ev")) fun l H4 nl e4 hl => ?_
      rw [keys_map] at hl
      refine s_retLT (lt_cat (ev_var rfl) hl (lt_lcR1 (n := 60) (fun i => decide ((i : Int) % 2 = 1)) (fun i => keyD (((i : Int) + u) % n, 4)) (by walk_at "mz ev") (by omega) (fun x => rfl) (fun i H5 e5 hi => by walk_at "mz ev") (fun i H5 e5 hi _ => td_key (by walk_at "mz ev") ev_c)) ?_) fun p H5 np e5 hp => ?_
      · have := len_filt (fun i => decide ((i : Int) % 2 = 1)) (fun i => keyD (((i : Int) + u) % n, 4)) (60 : Int).toNat
        simp only [List.length_map, List.length_range] at this ⊢
        omega
      · rw [keys_mapF, ← List.map_append] at hp
        have h1 := keys_ok1 (n := n) (m := (4 : Int).toNat) (g := fun i => ((u * (2 * (i : Int) + 1) + (i : Int)) % n, (i : Int))) fun i hi => ⟨mod_here (n := n) (by omega) _, here5 (by show (0 : Int) ≤ (i : Int); omega) (by show (i : Int) < 5; omega)⟩
        have h2 := keys_ok (n := n) (m := (60 : Int).toNat) (p := fun i => decide ((i : Int) % 2 = 1)) (g := fun i => (((i : Int) + u) % n, 4)) fun i hi => ⟨mod_here (n := n) (by omega) _, here5 (by dsimp only; omega) (by dsimp only; omega)⟩
        exact q _ ⟨keys_app2 h1.1 h2.1, by rw [List.length_append]; have := h1.2; have := h2.2; omega⟩ p H5 (fresh_back ((e12.trans e3).trans e4) np) (((e12.trans e3).trans e4).trans e5) hp
    simp only [decide_eq_false_iff_not] at hb
    have e13 := e12.trans e3
    refine q_when (b := decide (f % 12 = 10)) (by walk_at "mz ev") (fun hb2 H4 e4 => ?_) (fun hb2 H4 e4 => ?_)
    · have hb2 := of_decide_eq_true hb2
      obtain ⟨hn20, hn40⟩ := hz10 hb2
      refine s_retLT (ds := ([(2, 0), (n - 3, 1), (1, 2), (n - 2, 3), (0, 4)] : List Key2).map keyD) (lt_lst (ea_tc (td_key ev_c ev_c) (ea_tc (td_key (by walk_at "mz ev") ev_c) (ea_tc (td_key ev_c ev_c) (ea_tc (td_key (by walk_at "mz ev") ev_c) (ea_tc (td_key ev_c ev_c) ea_tn))))) (by simp)) fun p H5 np e5 hp => q _ ⟨?_, by simp⟩ p H5 (fresh_back (e13.trans e4) np) ((e13.trans e4).trans e5) hp
      intro k hk
      simp only [List.mem_cons, List.not_mem_nil, or_false] at hk
      rcases hk with h | h | h | h | h <;> subst h <;> exact ⟨⟨by dsimp only; omega, by dsimp only; omega⟩, by dsimp only; omega, by dsimp only; omega⟩
    simp only [decide_eq_false_iff_not] at hb2
    have e14 := e13.trans e4
    refine q_when (b := decide (f % 12 = 7)) (by walk_at "mz ev") (fun hb3 H5 e5 => ?_) (fun hb3 H5 e5 => ?_)
    · refine s_retLT (lt_mapR2 (lo := 1) (n := n) (fun i => keyD (1 + (i : Int), (1 + (i : Int) + u) % 5)) (by walk_at "mz ev") ⟨by omega, by omega, by omega, by omega⟩ (fun x => rfl) fun i H6 e6 hi => td_key (by walk_at "mz ev") (by walk_at "mz ev")) fun p H6 np e6 hp => ?_
      rw [keys_map] at hp
      have h1 := keys_ok1 (n := n) (m := (n - 1).toNat) (g := fun i => (1 + (i : Int), (1 + (i : Int) + u) % 5)) fun i hi => ⟨⟨by show 0 ≤ 1 + (i : Int); omega, by show 1 + (i : Int) < n; omega⟩, mod_here (n := 5) (by decide) _⟩
      exact q _ ⟨h1.1, by have := h1.2; omega⟩ p H6 (fresh_back (e14.trans e5) np) ((e14.trans e5).trans e6) hp
    have e15 := e14.trans e5
    refine q_when (b := decide (f % 12 ∈ [6, 8])) (et_test (ev_in2 (by walk_at "mz ev"))) (fun hb6 H6 e6 => ?_) (fun hb6 H6 e6 => ?_)
    · refine s_retLT (ds := ([(u % n, 0), ((u * 7 + 5) % n, 0)] : List Key2).map keyD) (lt_lst (ea_tc (td_key (by walk_at "mz ev") ev_c) (ea_tc (td_key (by walk_at "mz ev") ev_c) ea_tn)) (by simp)) fun p H7 np e7 hp => q _ ⟨?_, by simp⟩ p H7 (fresh_back (e15.trans e6) np) ((e15.trans e6).trans e7) hp
      intro k hk
      simp only [List.mem_cons, List.not_mem_nil, or_false] at hk
      rcases hk with h | h <;> subst h <;> exact ⟨mod_here (n := n) (by omega) _, here5 (by dsimp only; omega) (by dsimp only; omega)⟩
    have e16 := e15.trans e6
    refine q_when (b := decide (f % 12 = 5) || decide (f % 12 = 9)) (by walk_at "mz ev") (fun hb5 H7 e7 => ?_) (fun hb5 H7 e7 => ?_)
    · refine s_retLT (lt_mapR1 (n := 5 + u % 56) (fun i => keyD (((i : Int) * (i : Int) + u) % n, (i : Int) * 3 % 5)) (by walk_at "mz ev") (by omega) (fun x => rfl) fun i H8 e8 hi => td_key (by walk_at "mz ev") (by walk_at "mz ev")) fun p H8 np e8 hp => ?_
      rw [keys_map] at hp
      have h1 := keys_ok1 (n := n) (m := (5 + u % 56).toNat) (g := fun i => (((i : Int) * (i : Int) + u) % n, (i : Int) * 3 % 5)) fun i hi => ⟨mod_here (n := n) (by omega) _, mod_here (n := 5) (by decide) _⟩
      exact q _ ⟨h1.1, by have := h1.2; omega⟩ p H8 (fresh_back (e16.trans e7) np) ((e16.trans e7).trans e8) hp
    simp only [Bool.or_eq_false_iff, decide_eq_false_iff_not] at hb5
    have e17 := e16.trans e7
    refine q_asgLT (ds := []) (lt_lst ea_tn (by simp)) fun l0 H8 nl0 e8 hl0 => ?_
    have e18 := e17.trans e8
    refine q_cut (M := fun σ' H' => Ex H H' ∧ ∃ (l : Addr) (ks : List Key2), H l = none ∧ σ' = [some (.ref a), some (.int n), some (.int f), some (.int u), some (.ref l), none] ∧ LstT H' l (ks.map keyD) ∧ (∀ k ∈ ks, KeyOk n k) ∧ ks.length ≤ 60) ?_ ?_
    · refine s_when (b := decide (f % 6 = 3)) (by walk_at "mz ev") (fun hb8 H9 e9 => ?_) (fun hb8 H9 e9 => ⟨e18.trans e9, l0, [], fresh_back e17 nl0, rfl, hl0.ex e9, (fun k hk => absurd hk (by simp)), by simp⟩)
      have hb8 := of_decide_eq_true hb8
      obtain ⟨hn2, hn6⟩ := hz3 hb8
      have hn6 : n ≤ 6 := by omega
      refine s_asgLT (lt_mapR2 (lo := 1) (n := n) (fun i => keyD (1 + (i : Int), 1 + (i : Int) - 1)) (by walk_at "mz ev") ⟨by omega, by omega, by omega, by omega⟩ (fun x => rfl) fun i H10 e10 hi => td_key (by walk_at "mz ev") (by walk_at "mz ev")) fun p H10 np e10 hp => ?_
      rw [keys_map] at hp
      have h1 := keys_ok1 (n := n) (m := (n - 1).toNat) (g := fun i => (1 + (i : Int), 1 + (i : Int) - 1)) fun i hi => ⟨⟨by show 0 ≤ 1 + (i : Int); omega, by show 1 + (i : Int) < n; omega⟩, here5 (by show (0 : Int) ≤ 1 + (i : Int) - 1; omega) (by show 1 + (i : Int) - 1 < 5; omega)⟩
      exact ⟨(e18.trans e9).trans e10, p, _, fresh_back (e18.trans e9) np, rfl, hp, h1.1, by have := h1.2; omega⟩
    · rintro σ' H9 ⟨e9, l, ks0, nlH, rfl, hl, hk0, hk60⟩
      obtain ⟨j, ej, hj27, hjl⟩ := min_len (ns := ns)
      obtain ⟨hs1, hs2⟩ := step3 ⟨j, by omega⟩
      refine q_forR3 (lo := 5) (hi := (j : Int)) (c := 3) (n := (j - 3) / 3) (ea_cons ev_c (ea_cons (ev_is (ev_min2 (ev_lenS (ev_var rfl) (ex_l e9 hS)) ev_c) (by rw [ej])) (ea_cons ev_c ea_nil))) ⟨by decide, by decide, hs1, hs2⟩ (fun i σ' H' => Ex H H' ∧ ∃ (y5 : Option V) (ks : List Key2), σ' = [some (.ref a), some (.int n), some (.int f), some (.int u), some (.ref l), y5] ∧ LstT H' l (ks.map keyD) ∧ (∀ k ∈ ks, KeyOk n k) ∧ ks.length ≤ 60 + i) (fun H10 e10 => ⟨e9.trans e10, none, ks0, rfl, hl.ex e10, hk0, by omega⟩) (fun i σ' H' hi hP => ?_) (fun σ' H' hP => ?_)
      · obtain ⟨eH, y5, ks, rfl, hL, hwf, hlen⟩ := hP
        have hcell : ∀ {ta : TE} {H' : Hp}, Ex H H' → Ev (tOp (rIxL K) (tVar 0) (tVar 5)) [some (.ref a), some (.int n), some (.int f), some (.int u), some (.ref l), some (.int (5 + (i : Int) * 3))] H' (.int (ns.getD (5 + (i : Int) * 3).toNat 0)) := fun e => ev_scr (ev_var rfl) (ex_l e hS) (ev_var rfl) (by omega) (by omega)
        refine s_appT hL (ev_var rfl) (td_key (a := mix (ns.getD (5 + (i : Int) * 3).toNat 0) 0 % n) (b := mix (ns.getD (5 + (i : Int) * 3).toNat 0) 2 % 5) (ev_op (ev_call0 (ea_cons (hcell (ta := tVar 0) eH) (ea_cons ev_c ea_nil)) sv_l_mix) (ev_var rfl) (rv_I (by omega))) (ev_op (ev_call0 (ea_cons (hcell (ta := tVar 0) eH) (ea_cons ev_c ea_nil)) sv_l_mix) ev_c (rv_I (by walk_at "mz side")))) (by rw [List.length_map]; omega) fun H11 xs v e11 hx11 hp11 => ⟨Ex.mut (eH.trans e11) nlH, _, ks ++ [_], rfl, by rw [List.map_append]; exact hp11, keys_app hwf ⟨mod_here (n := n) (by omega) _, mod_here (n := 5) (by decide) _⟩, by simp; omega⟩
      · obtain ⟨eH, y5, ks, rfl, hL, hwf, hlen⟩ := hP
        exact s_ret (ev_var rfl) fun H10 e10 => q ks ⟨hwf, by omega⟩ l H10 nlH (eH.trans e10) (hL.ex e10)
end

/-! ### a walk walked, in plain -/
inductive WOut where
  | held (h : List Int)
  | room
  | door
  | shut
def joinsF (one other : Int) (d : Door) : Bool := decide (d.1 = one) && decide (d.2.1 = other) || decide (d.1 = other) && decide (d.2.1 = one)
def passF (ds : List Door) (ks : List Key2) (one other : Int) (held : List Int) : WOut :=
  if ds.filter (joinsF one other) = [] then .door else if (ds.filter (joinsF one other)).any (fun d => opensF d held) = true then .held (takenF ks other held) else .shut
def goF (ds : List Door) (ks : List Key2) : Int → List Int → List Int → WOut
  | _, held, [] => .held held
  | prev, held, r :: rest => match passF ds ks prev r held with
    | .held h => goF ds ks r h rest
    | o => o
def walkedF (n : Int) (ds : List Door) (ks : List Key2) : List Int → WOut
  | [] => .room
  | r :: rest => if (∀ x ∈ r :: rest, Here n x) then goF ds ks r (takenF ks r []) rest else .room
def clsW (K : PySem.W.Frag) : WOut → Value
  | .held _ => .none
  | .room => .ref (He.ga K "NoRoom")
  | .door => .ref (He.ga K "NoDoor")
  | .shut => .ref (He.ga K "Shut")
def WOut.bad : WOut → Bool
  | .held _ => false
  | _ => true
def codeW : WOut → Str
  | .held _ => ""
  | .room => "room"
  | .door => "door"
  | .shut => "shut"
theorem go_bad {ds : List Door} {ks : List Key2} {prev r : Int} {held rest : List Int} {o : WOut} (h : passF ds ks prev r held = o) (hb : o.bad = true) : goF ds ks prev held (r :: rest) = o := by
  rw [goF, h]
  cases o with
  | held h => cases hb
  | room => rfl
  | door => rfl
  | shut => rfl
theorem go_held {ds : List Door} {ks : List Key2} {prev r : Int} {held rest h : List Int} (e : passF ds ks prev r held = .held h) : goF ds ks prev held (r :: rest) = goF ds ks r h rest := by
  rw [goF, e]
def sort2 (a b : Int) : List Int := if a ≤ b then [a, b] else [b, a]
theorem sort2_perm (a b : Int) : (sort2 a b).Perm [a, b] := by
  unfold sort2
  split
  · exact List.Perm.refl _
  · exact List.Perm.swap _ _ _
theorem sort2_sorted (a b : Int) : (sort2 a b).Pairwise (· ≤ ·) := by
  unfold sort2
  split <;> simp <;> omega
theorem sort2_joins (d : Door) (a b : Int) : decide (sort2 d.1 d.2.1 = sort2 a b) = joinsF a b d := by
  unfold sort2 joinsF
  rw [Bool.eq_iff_iff]
  simp only [decide_eq_true_eq, Bool.or_eq_true, Bool.and_eq_true]
  by_cases h1 : d.1 ≤ d.2.1 <;> by_cases h2 : a ≤ b <;> simp only [h1, h2, if_true, if_false, List.cons.injEq, and_true] <;> omega

section
variable {P : Program} {w : World} {K : PySem.W.Frag} {mg : Str → Option Value} {base : Heap}
/-! ### joins -/
def sp_joins (K : PySem.W.Frag) : Sp := fun vs H Q _ => ∃ (v : V) (one other : Int) (d : Door), vs = [v, .int one, .int other] ∧ Dp K H v (doorD d) ∧ ∀ H2, Ex H H2 → Q (.bl (joinsF one other d)) H2
theorem ok_joins (T : Txt K mg) : Kept P w K mg base 1 "joins" ["door", "one", "other"] (sp_joins K) := by
  refine T.d_joins.kept sc_joins (fun vs H Q E h => ?_) (fun cdv A outer s H vs Q E hr h => ?_)
  · obtain ⟨v, one, other, d, rfl, _⟩ := h
    rfl
  · obtain ⟨v, one, other, ⟨d1, d2, l⟩, rfl, hd, q⟩ := h
    refine ⟨_, (pss_one (ps_ret (pe_or (pe_and (pe_cmpR op_eq (pe_ix (ix_tup_K (K := K) rfl) (pv 0) pe_int (fun _ _ => rfl)) (pv 1) (nomark _)) (pe_one (pe_cmpR op_eq (pe_ix (ix_tup_K (K := K) rfl) (pv 0) pe_int (fun _ _ => rfl)) (pv 2) (nomark _)))) (pe_one (pe_and (pe_cmpR op_eq (pe_ix (ix_tup_K (K := K) rfl) (pv 0) pe_int (fun _ _ => rfl)) (pv 2) (nomark _)) (pe_one (pe_cmpR op_eq (pe_ix (ix_tup_K (K := K) rfl) (pv 0) pe_int (fun _ _ => rfl)) (pv 1) (nomark _)))))))), ?_⟩
    have x0 : Ev (tOp (rIxT K) (tVar 0) (tC (.int 0))) [some v, some (.int one), some (.int other)] H (.int d1) := ev_of_ed (ed_ixT (ed_any (ev_var rfl) hd) ev_c atI0)
    have x1 : Ev (tOp (rIxT K) (tVar 0) (tC (.int 1))) [some v, some (.int one), some (.int other)] H (.int d2) := ev_of_ed (ed_ixT (ed_any (ev_var rfl) hd) ev_c atI1)
    exact s_ret (v := .bl (joinsF one other (d1, d2, l))) (ev_orV (ev_andV (ev_op x0 (ev_var rfl) rv_eqI) fun _ => ev_op x1 (ev_var rfl) rv_eqI) fun _ => ev_andV (ev_op x0 (ev_var rfl) rv_eqI) fun _ => ev_op x1 (ev_var rfl) rv_eqI) fun H2 e2 => q H2 e2
theorem sv_joins {H : Hp} {v : V} {one other : Int} {d : Door} (h : Dp K H v (doorD d)) : SpV (sp_joins K) [v, .int one, .int other] H (.bl (joinsF one other d)) := fun H1 e Q q E => ⟨v, one, other, d, rfl, dp_ex e h, q⟩
/-! ### passed -/
/-- a new list of items that stand below -/
def LstB (K : PySem.W.Frag) (H0 H : Hp) (p : Addr) (ds : List PyData) : Prop := ∃ xs, H p = some (.lst xs) ∧ DpAll K H0 xs ds
theorem LstB.dp {H0 H : Hp} {p : Addr} {ds : List PyData} (e : Ex H0 H) (h : LstB K H0 H p ds) : Dp K H (.ref p) (.list ds) := by
  obtain ⟨xs, a, b⟩ := h
  exact .lst (SqL.of a) (dpAll_ex e b)
theorem LstB.ex {H0 H H' : Hp} {p : Addr} {ds : List PyData} (e : Ex H H') (h : LstB K H0 H p ds) : LstB K H0 H' p ds := by
  obtain ⟨xs, a, b⟩ := h
  exact ⟨xs, e _ _ a, b⟩
def EvLB (K : PySem.W.Frag) (H0 : Hp) (te : TE) (σ : L2.St) (H : Hp) (ds : List PyData) : Prop := ∀ H1, Ex H H1 → ∀ Q : VK, (∀ l H2, H1 l = none → Ex H1 H2 → LstB K H0 H2 l ds → Q (.ref l) H2) → te σ H1 Q
theorem q_asgLB {σ : L2.St} {H H0 : Hp} {te : TE} {tz : TS} {D : Ends} {ds : List PyData} {i : Nat} (h : EvLB K H0 te σ H ds) (k : ∀ p H1, H p = none → Ex H H1 → LstB K H0 H1 p ds → tz D (σ.set i (some (.ref p))) H1) : tSeq (tAsg te (gName i)) tz D σ H := h H (Ex.refl H) _ fun p H1 n e hp => k p H1 n e hp
theorem lb_lcV {σ : L2.St} {H H0 : Hp} {tl te : TE} {t : TT} {g : TG} {α : Type} {Dd : α → PyData} {xs : List α} {lv : V} {vs : List Nat} (p : α → Bool) (w : α → PyData) (h : Ev tl σ H lv) (e0 : Ex H0 H) (hl : Dp K H0 lv (.list (xs.map Dd))) (hn : xs.length ≤ 40000)
    (hg : ∀ a, a ∈ xs → ∀ x H1, Ex H H1 → Dp K H0 x (Dd a) → ∀ Q : L2.St → Hp → Prop, (∀ σ2, wipe σ2 vs = wipe σ vs → EvT t σ2 H1 (p a) → (p a = true → ∃ u, Ev te σ2 H1 u ∧ Dp K H0 u (w a)) → Q σ2 H1) → g x (wipe σ vs) H1 Q) :
    EvLB K H0 (tLc (iList K tl) g t te vs) σ H ((xs.filter p).map w) := fun H1 e Q q => h H1 e _ fun H2 e2 => by
  cases hl with
  | lst ho hda =>
    rename_i a ys
    have hlen := dpAll_len hda
    rw [List.length_map] at hlen
    have e02 := e.trans e2
    refine ⟨a, rfl, ⟨ys, ex_l (e0.trans e02) ho⟩, fun Dl hD => lc_list (K := K) (a := a) (xs := ys) (fun i H' => H2 Dl = none ∧ Ex H2 H' ∧ LstB K H0 H' Dl (((xs.take i).filter p).map w)) ⟨hD, Ex.new hD, ⟨[], upd_same, .nil⟩⟩ (fun i H' _ pp => ex_l ((e0.trans e02).trans pp.2.1) ho) (fun i x H' hx pp => ?_) (fun H' pp => ?_)⟩
    · obtain ⟨p1, p2, zs, p3, p4⟩ := pp
      obtain ⟨d, hd1, hd2⟩ := dpAll_getV hda hx
      rw [List.getElem?_map] at hd1
      obtain ⟨b, hb, rfl⟩ := Option.map_eq_some_iff.mp hd1
      have hil : i < xs.length := (List.getElem?_eq_some_iff.mp hb).1
      refine hg b (List.mem_of_getElem? hb) x H' (e02.trans p2) hd2 _ fun σ2 hw ht he => ⟨hw, ht H' (Ex.refl H') _ fun H3 e3 => ?_⟩
      cases hf : p b with
      | true =>
        show te σ2 H3 fun y H4 => ∃ acc, H4 Dl = some (.lst acc) ∧ acc.length < sizeLine ∧ (H2 Dl = none ∧ Ex H2 (upd H4 Dl (.lst (acc ++ [y]))) ∧ LstB K H0 (upd H4 Dl (.lst (acc ++ [y]))) Dl (((xs.take (i + 1)).filter p).map w))
        obtain ⟨u, hu1, hu2⟩ := he hf
        refine hu1 H3 e3 _ fun H4 e4 => ⟨zs, e4 Dl _ (e3 Dl _ p3), sz_lt ?_, p1, Ex.mut ((p2.trans e3).trans e4) p1, ?_⟩
        · rw [dpAll_len p4, List.length_map]
          have h1 := List.length_filter_le p (xs.take i)
          have h2 := List.length_take_le i xs
          omega
        · rw [filt_take hb, if_pos hf]
          exact ⟨_, upd_same, dpAll_append p4 (.cons hu2 .nil)⟩
      | false =>
        show H2 Dl = none ∧ Ex H2 H3 ∧ LstB K H0 H3 Dl (((xs.take (i + 1)).filter p).map w)
        refine ⟨p1, p2.trans e3, ?_⟩
        rw [filt_take hb, if_neg (by rw [hf]; simp), List.append_nil]
        exact ⟨zs, e3 Dl _ p3, p4⟩
    · obtain ⟨p1, p2, p3⟩ := pp
      rw [hlen, List.take_length] at p3
      exact q Dl H' (fresh_back e2 p1) (e2.trans p2) p3
def sp_passed (K : PySem.W.Frag) : Sp := fun vs H Q E => ∃ (v hv : V) (n one other : Int) (ds : List Door) (ks : List Key2) (held : List Int), vs = [v, .int one, .int other, hv] ∧ Dp K H v (mazeF n ds ks) ∧ Dp K H hv (intsD held) ∧ ds.length ≤ 1000 ∧ Here n other ∧
  (∀ h, passF ds ks one other held = .held h → ∀ v H2, Ex H H2 → Td H2 v (intsD h) → Q v H2) ∧ (∀ o, passF ds ks one other held = o → o.bad = true → ∀ H2, Ex H H2 → E (clsW K o) none H2)
theorem eqv_doors (ds es : List Door) : PyData.eqv (.list (ds.map doorD)) (.list (es.map doorD)) = decide (ds = es) := eqv_dec (nb_doors ds) (nb_doors es) ⟨fun e => map_inj (f := doorD) (fun a b z => by
  obtain ⟨a1, a2, a3⟩ := a
  obtain ⟨b1, b2, b3⟩ := b
  simp only [doorD, PyData.tuple.injEq, List.cons.injEq, PyData.int.injEq, and_true] at z
  obtain ⟨z1, z2, z3⟩ := z
  subst z1
  subst z2
  cases a3 <;> cases b3 <;> simp [lockD] at z3 <;> simp [z3]) (by simpa using e), fun e => by rw [e]⟩
theorem ok_passed (T : Txt K mg) : Kept P w K mg base 3 "passed" ["maze", "one", "other", "held"] (sp_passed K) := by
  refine T.d_passed.kept sc_passed (fun vs H Q E h => ?_) (fun cdv A outer s H vs Q E hr h => ?_)
  · obtain ⟨v, hv, n, one, other, ds, ks, held, rfl, _⟩ := h
    rfl
  · obtain ⟨v, hv, n, one, other, ds, ks, held, rfl, hm, hh, hl, hro, q, qe⟩ := h
    refine ⟨_, (pss_cons (ps_setLc (i := 4) (own := [("door", 5)]) (g := gName 5) rfl sc_passed.nd rfl rfl (sw_true rfl rfl rfl (by decide +kernel)) (pi_list_K (K := K) rfl (pe_ix (ix_tup_K (K := K) rfl) (pv 0) pe_int (fun _ _ => rfl))) (blkOk_by (own := [("door", 5)]) (N := ["maze", "one", "other", "held", "between", "door"]) (sc := defScope s_passed) (by decide +kernel)) (fun _ _ _ _ _ => (pg_name (i := 5) sc_passed.nd rfl (Or.inl rfl))) (fun _ _ _ _ _ => pts_one (pt_val (pe_fn (ok_joins (K := K) T) (hr.mono (by decide)) passL (by rfl) (pa_cons (pv 5) (pa_cons (pv 1) (pa_cons (pv 2) pa_nil)))))) (fun _ _ _ _ _ => (pv 5)))
      (pss_cons (ps_if (pt_cmpR (op_eqD_K (K := K) rfl hr.units) (pv 4) (pe_lst pa_nil) (nomark _))
        (pss_one (ps_raise rfl (takes_of rfl rfl rfl rfl) (pmk_own PySem.F.excBase_ValueError T.e_NoDoor.xC T.e_NoDoor.gC T.e_NoDoor.kC (raises_own T.e_NoDoor.bC T.e_NoDoor.tC) rfl)))
        pss_nil)
      (pss_cons (ps_for (passes_of rfl) rfl (pi_list_K (K := K) rfl (pv 4)) (pg_name (i := 5) sc_passed.nd rfl (Or.inl rfl))
        (pss_one (ps_if (pt_val (pe_fn (ok_opens (K := K) T) (hr.mono (by decide)) passL (by rfl) (pa_cons (pv 5) (pa_cons (pv 3) pa_nil))))
        (pss_one (ps_ret (pe_fn (ok_taken (K := K) T) (hr.mono (by decide)) (passR (takes_of rfl rfl rfl rfl)) (by rfl) (pa_cons (pv 0) (pa_cons (pv 2) (pa_cons (pv 3) pa_nil))))))
        pss_nil)))
      (pss_one (ps_raise rfl (takes_of rfl rfl rfl rfl) (pmk_own PySem.F.excBase_ValueError T.e_Shut.xC T.e_Shut.gC T.e_Shut.kC (raises_own T.e_Shut.bC T.e_Shut.tC) rfl)))))), ?_⟩
    obtain ⟨dv, hdv, edv⟩ := dp_item hm atI1
    obtain ⟨bs, ebs⟩ : ∃ bs, ds.filter (joinsF one other) = bs := ⟨_, rfl⟩
    have hbl : bs.length ≤ 1000 := by
      rw [← ebs]
      exact Nat.le_trans (List.length_filter_le _ _) hl
    refine q_asgLB (lb_lcV (K := K) (H0 := H) (Dd := doorD) (xs := ds) (joinsF one other) doorD (edv (Ex.refl H) (ev_var rfl) ev_c) (Ex.refl H) hdv (by omega) (fun d hd x H1 e1 hx Q2 q2 => ?_)) fun bp H1 nb e1 hb => ?_
    · exact q2 _ rfl (et_B (ev_call0 (ea_cons (ev_var rfl) (ea_cons (ev_var rfl) (ea_cons (ev_var rfl) ea_nil))) (sv_joins (dp_ex e1 hx)))) fun _ => ⟨x, ev_var rfl, hx⟩
    · rw [ebs] at hb
      have hpf : passF ds ks one other held = if bs = [] then .door else if bs.any (fun d => opensF d held) = true then .held (takenF ks other held) else .shut := by unfold passF; rw [ebs]
      refine q_when (b := decide (bs = [])) (et_test (ev_is (ev_eqD (d := .list (bs.map doorD)) (e := .list (([] : List Door).map doorD)) (ed_any (ev_var rfl) (hb.dp e1)) (ed_lt (lt_lst (ds := []) ea_tn (by simp))) (sh_doors _) (sh_doors _)) (by rw [eqv_doors]))) (fun hb2 H2 e2 => ?_) (fun hb2 H2 e2 => ?_)
      · rw [if_pos (of_decide_eq_true hb2)] at hpf
        exact qe .door hpf rfl H2 (e1.trans e2)
      rw [if_neg (of_decide_eq_false hb2)] at hpf
      have e12 := e1.trans e2
      obtain ⟨ys, hys, hyd⟩ := hb.ex e2
      refine q_forL (K := K) (a := bp) (xs := ys) (ev_var rfl) (SqL.of hys) (fun i σ' H' => Ex H2 H' ∧ ∃ y, σ' = [some v, some (.int one), some (.int other), some hv, some (.ref bp), y] ∧ (bs.take i).any (fun d => opensF d held) = false) (fun H3 e3 => ⟨e3, none, rfl, by simp⟩) (fun i σ' H' _ hP => SqL.of (hP.1 _ _ hys)) (fun i x σ' H' hx hP => ?_) (fun σ' H' hP => ?_)
      · obtain ⟨eH, y, rfl, hno⟩ := hP
        obtain ⟨d, hd1, hd2⟩ := dpAll_getV hyd hx
        rw [List.getElem?_map] at hd1
        obtain ⟨b, hb0, rfl⟩ := Option.map_eq_some_iff.mp hd1
        have e0H := e12.trans eH
        show tIfS _ _ _ _ _ _
        refine s_when (b := opensF b held) (et_B (ev_call0 (ea_cons (ev_var rfl) (ea_cons (ev_var rfl) ea_nil)) (sv_opens (dp_ex e0H hd2) (dp_ex e0H hh)))) (fun hb3 H3 e3 => ?_) (fun hb3 H3 e3 => ⟨eH.trans e3, _, rfl, ?_⟩)
        · have hany : bs.any (fun d => opensF d held) = true := List.any_eq_true.mpr ⟨b, List.mem_of_getElem? hb0, hb3⟩
          rw [if_pos hany] at hpf
          have e03 := e0H.trans e3
          exact s_retP (td_takenC (ea_cons (ev_var rfl) (ea_cons (ev_var rfl) (ea_cons (ev_var rfl) ea_nil))) (dp_ex e03 hm) (dp_ex e03 hh) hro) fun v H4 e4 p => q _ hpf v H4 (e03.trans e4) p
        · rw [List.take_succ, hb0]
          simp only [Option.toList_some, List.any_append, hno, List.any_cons, hb3, List.any_nil, Bool.or_false]
      · obtain ⟨eH, y, rfl, hno⟩ := hP
        have hyl : ys.length = bs.length := by rw [dpAll_len hyd, List.length_map]
        rw [hyl, List.take_length] at hno
        rw [if_neg (by rw [hno]; simp)] at hpf
        exact qe .shut hpf rfl H' (e12.trans eH)
end

section
variable {P : Program} {w : World} {K : PySem.W.Frag} {mg : Str → Option Value} {base : Heap}
theorem s_dropA {σ : L2.St} {H : Hp} {D : Ends} {tr : TA} {sp : Sp} {E : XK} {vs : List V} (h : EvA tr σ H vs) (k : ∀ H1, Ex H H1 → sp vs H1 (fun _ H2 => D.nx σ H2) E) : tDrop (tCall sp [] E tr) D σ H := h H (Ex.refl H) _ fun H1 e1 => by
  show sp (vs ++ []) H1 _ E
  rw [List.append_nil]
  exact k H1 e1
theorem s_asgA {σ : L2.St} {H : Hp} {D : Ends} {tr : TA} {sp : Sp} {E : XK} {vs : List V} {i : Nat} (h : EvA tr σ H vs) (k : ∀ H1, Ex H H1 → sp vs H1 (fun v H2 => D.nx (σ.set i (some v)) H2) E) : tAsg (tCall sp [] E tr) (gName i) D σ H := h H (Ex.refl H) _ fun H1 e1 => by
  show sp (vs ++ []) H1 _ E
  rw [List.append_nil]
  exact k H1 e1
theorem ev_intItem {σ : L2.St} {H : Hp} {ta tb : TE} {R : List Int} {k : Nat} {r : Int} {v : V} (ha : Ev ta σ H v) (hl : Dp K H v (intlD R)) (hb : Ev tb σ H (.int (k : Int))) (h : R[k]? = some r) : Ev (tOp (rIxL K) ta tb) σ H (.int r) := ev_of_ed (ed_ixL (ds := R.map PyData.int) (ed_any ha hl) hb (at0 (by rw [List.getElem?_map, h]; rfl)))
theorem td_unit0 {σ : L2.St} {H : Hp} : EvTd (tTup tNil) σ H (intsD []) := td_tup (ds := []) ea_tn (by simp)
theorem td_takenU {σ : L2.St} {H : Hp} {t1 t2 : TE} {E : XK} {v : V} {n room : Int} {dd : List PyData} {ks : List Key2} (h1 : Ev t1 σ H v) (h2 : Ev t2 σ H (.int room)) (hm : Dp K H v (mazeD n dd ks)) (hr : Here n room) : EvTd (tCall (sp_taken K) [] E (tCons t1 (tCons t2 (tCons (tTup tNil) tNil)))) σ H (intsD (takenF ks room [])) := by
  intro H3 e3 Q' q'
  refine ea_pv (R := fun vs H' => ∃ hv, vs = [v, .int room, hv] ∧ Td H' hv (intsD [])) h1 (fun H4 e4 => ea_pv (h2.mono e4) fun H5 e5 => ea_pc td_unit0 fun u H6 e6 hu => ea_pn fun H7 e7 => ⟨u, rfl, hu.ex e7⟩) H3 e3 _ fun vs H4 e4 hvs => ?_
  obtain ⟨hv, rfl, hhv⟩ := hvs
  exact ⟨v, hv, n, room, _, ks, [], rfl, dp_ex (e3.trans e4) hm, hhv.dp, fun _ v H5 e5 p => q' v H5 (e4.trans e5) p, fun z => absurd hr z⟩
def sp_walked (K : PySem.W.Frag) : Sp := fun vs H Q E => ∃ (v wv : V) (n : Int) (ds : List Door) (ks : List Key2) (walk : List Int), vs = [v, wv] ∧ Dp K H v (mazeF n ds ks) ∧ Dp K H wv (intlD walk) ∧ ds.length ≤ 1000 ∧ walk.length ≤ 10000 ∧
  (∀ h, walkedF n ds ks walk = .held h → ∀ v H2, Ex H H2 → Td H2 v (intsD h) → Q v H2) ∧ (∀ o, walkedF n ds ks walk = o → o.bad = true → ∀ H2, Ex H H2 → E (clsW K o) none H2)
theorem walked_far {n : Int} {ds : List Door} {ks : List Key2} {walk : List Int} {r : Int} (h : r ∈ walk) (hn : ¬ Here n r) : walkedF n ds ks walk = .room := by
  cases walk with
  | nil => rfl
  | cons a rest => rw [walkedF, if_neg (fun z => hn (z r h))]
theorem walked_go {n : Int} {ds : List Door} {ks : List Key2} {walk : List Int} {r : Int} (h0 : walk[0]? = some r) (h : ∀ x ∈ walk, Here n x) : walkedF n ds ks walk = goF ds ks r (takenF ks r []) (walk.drop 1) := by
  cases walk with
  | nil => simp at h0
  | cons a rest =>
    simp at h0
    subst h0
    rw [walkedF, if_pos h]
    rfl
theorem ok_walked (T : Txt K mg) : Kept P w K mg base 4 "walked" ["maze", "walk"] (sp_walked K) := by
  refine T.d_walked.kept sc_walked (fun vs H Q E h => ?_) (fun cdv A outer s H vs Q E hr h => ?_)
  · obtain ⟨v, wv, n, ds, ks, walk, rfl, _⟩ := h
    rfl
  · obtain ⟨v, wv, n, ds, ks, walk, rfl, hm, hw, hl, hwl, q, qe⟩ := h
    refine ⟨_, (pss_cons (ps_if (pt_cmpR (op_eqD_K (K := K) rfl hr.units) (pv 1) (pe_lst pa_nil) (nomark _))
        (pss_one (ps_raise rfl (takes_of rfl rfl rfl rfl) (pmk_own PySem.F.excBase_ValueError T.e_NoRoom.xC T.e_NoRoom.gC T.e_NoRoom.kC (raises_own T.e_NoRoom.bC T.e_NoRoom.tC) rfl)))
        pss_nil)
      (pss_cons (ps_for (passes_of rfl) rfl (pi_list_K (K := K) rfl (pv 1)) (pg_name (i := 2) sc_walked.nd rfl (Or.inl rfl))
        (pss_one (ps_expr (pe_fn (ok_need_room (K := K) T) (hr.mono (by decide)) (passR (takes_of rfl rfl rfl rfl)) (by rfl) (pa_cons (pv 0) (pa_cons (pv 2) pa_nil))))))
      (pss_cons (ps_set (i := 3) sc_walked.nd rfl (Or.inl rfl) (pe_fn (ok_taken (K := K) T) (hr.mono (by decide)) (passR (takes_of rfl rfl rfl rfl)) (by rfl) (pa_cons (pv 0) (pa_cons (pe_ix (ix_list_K (K := K) rfl) (pv 1) pe_int (fun _ _ => rfl)) (pa_cons (pe_tup pa_nil) pa_nil)))))
      (pss_cons (ps_for (passes_of rfl) rfl (pi_range2 (by rfl) T.n_range (pa_cons pe_int (pa_cons (pe_callB (call_len_seq_K (K := K) rfl) (by rfl) T.n_len (by decide +kernel) (pa_cons (pv 1) pa_nil)) pa_nil))) (pg_name (i := 4) sc_walked.nd rfl (Or.inl rfl))
        (pss_one (ps_set (i := 3) sc_walked.nd rfl (Or.inl rfl) (pe_fn (ok_passed (K := K) T) (hr.mono (by decide)) (passR (takes_of rfl rfl rfl rfl)) (by rfl) (pa_cons (pv 0) (pa_cons (pe_ix (ix_list_K (K := K) rfl) (pv 1) (pe_op op_sub (pv 4) pe_int) (fun _ _ => rfl)) (pa_cons (pe_ix (ix_list_K (K := K) rfl) (pv 1) (pv 4) (fun _ _ => rfl)) (pa_cons (pv 3) pa_nil))))))))
      (pss_one (ps_ret (pv 3))))))), ?_⟩
    refine q_when (b := decide (walk = [])) (et_test (ev_is (ev_eqD (d := intlD walk) (e := intlD []) (ed_any (ev_var rfl) hw) (ed_lt (lt_lst (ds := []) ea_tn (by simp))) (sh_intl _) (sh_intl _)) (by rw [eqv_intl]))) (fun hb H1 e1 => ?_) (fun hb H1 e1 => ?_)
    · have := of_decide_eq_true hb
      subst this
      exact qe .room rfl rfl H1 e1
    have hne := of_decide_eq_false hb
    refine q_forV (g := gName 2) (ev_var rfl) hw e1 (fun i σ' H' => Ex H H' ∧ ∃ y, σ' = [some v, some wv, y, none, none] ∧ ∀ x ∈ walk.take i, Here n x) (fun H3 e3 => ⟨e1.trans e3, none, rfl, by simp⟩) (fun i σ' H' hP => hP.1) (fun i d x σ' H' hdi hx hP => ?_) (fun σ' H' hP => ?_)
    · obtain ⟨eH, y, rfl, hall⟩ := hP
      rw [List.getElem?_map] at hdi
      obtain ⟨r, hr1, rfl⟩ := Option.map_eq_some_iff.mp hdi
      cases hx
      show tDrop _ _ _ _
      refine s_dropA (vs := [v, .int r]) (ea_cons (ev_var rfl) (ea_cons (ev_var rfl) ea_nil)) fun H2 e2 => ⟨v, n, r, _, rfl, dp_ex (eH.trans e2) hm, fun hh H3 e3 => ⟨(eH.trans e2).trans e3, _, rfl, ?_⟩, fun hh H3 e3 => qe .room (walked_far (List.mem_of_getElem? hr1) hh) rfl H3 ((eH.trans e2).trans e3)⟩
      rw [List.take_succ, hr1]
      intro x hx
      rcases List.mem_append.mp hx with h1 | h1
      · exact hall x h1
      · simp at h1
        subst h1
        exact hh
    obtain ⟨eH, y, rfl, hall⟩ := hP
    rw [List.length_map, List.take_length] at hall
    obtain ⟨r0, hr0⟩ : ∃ r0, walk[0]? = some r0 := by
      cases walk with
      | nil => exact absurd rfl hne
      | cons a rest => exact ⟨a, rfl⟩
    have hW := walked_go (ds := ds) (ks := ks) hr0 hall
    have hr0h : Here n r0 := hall r0 (List.mem_of_getElem? hr0)
    refine q_asgP (P := fun v H' => Td H' v (intsD (takenF ks r0 []))) (td_takenU (ev_var rfl) (ev_intItem (ev_var rfl) (dp_ex eH hw) ev_c hr0) (dp_ex eH hm) hr0h) fun hv H2 e2 hhv => ?_
    have e02 := eH.trans e2
    have hwl2 : (walk.map PyData.int).length = walk.length := by simp
    have hpos : 0 < walk.length := (List.getElem?_eq_some_iff.mp hr0).1
    refine q_forR2 (lo := 1) (n := ((walk.map PyData.int).length : Int)) (ea_cons ev_c (ea_cons (ev_lenD (K := K) (ed_any (ev_var rfl) (dp_ex e02 hw)) (.inl rfl)) ea_nil)) ⟨by omega, by omega, by omega, by omega⟩ (fun i σ' H' => Ex H H' ∧ ∃ (hv : V) (held : List Int) (y4 : Option V) (r : Int), σ' = [some v, some wv, y, some hv, y4] ∧ Td H' hv (intsD held) ∧ walk[i]? = some r ∧ goF ds ks r held (walk.drop (i + 1)) = walkedF n ds ks walk) (fun H3 e3 => ⟨e02.trans e3, hv, _, none, r0, rfl, hhv.ex e3, hr0, hW.symm⟩) (fun i σ' H' hi hP => ?_) (fun σ' H' hP => ?_)
    · obtain ⟨eH3, hv, held, y4, r, rfl, hhv, hri, hgo⟩ := hP
      have hi2 : i + 1 < walk.length := by omega
      obtain ⟨r2, hr2⟩ : ∃ r2, walk[i + 1]? = some r2 := ⟨_, List.getElem?_eq_getElem hi2⟩
      have hdr : walk.drop (i + 1) = r2 :: walk.drop (i + 2) := by
        rw [List.drop_eq_getElem_cons hi2]
        rw [List.getElem?_eq_getElem hi2] at hr2
        cases hr2
        rfl
      rw [hdr] at hgo
      refine s_asgA (vs := [v, .int r, .int r2, hv]) (ea_cons (ev_var rfl) (ea_cons (ev_intItem (k := i) (ev_var rfl) (dp_ex eH3 hw) (ev_is (ev_op (ev_var rfl) ev_c rv_I0) (by congr 1; omega)) hri) (ea_cons (ev_intItem (k := i + 1) (ev_var rfl) (dp_ex eH3 hw) (ev_is (ev_var rfl) (by congr 1; omega)) hr2) (ea_cons (ev_var rfl) ea_nil)))) fun H4 e4 => ⟨v, hv, n, r, r2, ds, ks, held, rfl, dp_ex (eH3.trans e4) hm, (hhv.ex e4).dp, hl, hall r2 (List.mem_of_getElem? hr2), fun h hp u H5 e5 hu => ⟨(eH3.trans e4).trans e5, u, h, _, r2, rfl, hu, hr2, ?_⟩, fun o hp hb H5 e5 => qe o ?_ hb H5 ((eH3.trans e4).trans e5)⟩
      · rw [← hgo, go_held hp]
      · rw [← hgo]
        exact go_bad hp hb
    · obtain ⟨eH3, hv, held, y4, r, rfl, hhv, hri, hgo⟩ := hP
      have hdr : walk.drop ((((walk.map PyData.int).length : Int) - 1).toNat + 1) = [] := List.drop_eq_nil_of_le (by omega)
      rw [hdr] at hgo
      exact s_retP (td_any (ev_var rfl) hhv) fun v H4 e4 p => q held hgo.symm v H4 (eH3.trans e4) p
end

section
variable {P : Program} {w : World} {K : PySem.W.Frag} {mg : Str → Option Value} {base : Heap}
theorem rgV_ints (a b : Int) : rgV a b = ((List.range (b - a).toNat).map fun (i : Nat) => a + (i : Int)).map V.int := by
  unfold rgV
  rw [List.map_map]
  rfl
theorem lt_listRg {σ : L2.St} {H : Hp} {ta : TE} {n : Int} (h : Ev ta σ H (.int n)) (h0 : 0 ≤ n) (h1 : n ≤ 1000) : EvLT (tLstRg (tRg1 ta)) σ H (((List.range n.toNat).map fun (i : Nat) => (0 : Int) + (i : Int)).map PyData.int) := fun H1 e Q q => h H1 e _ fun H2 e2 => ⟨n, rfl, RgOk.of_le (by omega) (by omega) (by omega) (by omega), fun p np => q p _ (fresh_back e2 np) (e2.trans (Ex.new np)) ⟨rgV 0 n, upd_same, by rw [rgV_ints, Int.sub_zero]; exact td_ints _⟩⟩
theorem ev_max2 {σ : L2.St} {H : Hp} {ta tb : TE} {i j : Int} (ha : Ev ta σ H (.int i)) (hb : Ev tb σ H (.int j)) : Ev (tCB (fun xs H Q => ∃ i j, xs = [.int i, .int j] ∧ Q (.int (if j > i then j else i)) H) (tCons ta (tCons tb tNil))) σ H (.int (if j > i then j else i)) := fun H1 e Q q => ha H1 e _ fun H2 e2 => hb H2 (e.trans e2) _ fun H3 e3 => ⟨i, j, rfl, q H3 (e2.trans e3)⟩
theorem ints_map {m : Nat} {g : Nat → Int} : (List.range m).map (fun i => PyData.int (g i)) = ((List.range m).map g).map PyData.int := by
  rw [List.map_map]
  rfl
def sp_l_walk (K : PySem.W.Frag) : Sp := fun vs H Q _ => ∃ (a dp : Addr) (ns : List Int) (n : Int) (ds : List Door), vs = [.ref a, .int n, .ref dp] ∧ SqL K H a (ns.map V.int) ∧ Dp K H (.ref dp) (.list (ds.map doorD)) ∧ ds.length ≤ 1000 ∧ 1 ≤ n ∧ n ≤ 60 ∧ ∀ walk : List Int, walk.length ≤ 1000 → ∀ p H2, H p = none → Ex H H2 → LstT H2 p (walk.map PyData.int) → Q (.ref p) H2
theorem ok_l_walk (T : Txt K mg) : Kept P w K mg base 2 "_law_walk" ["_law_script", "_law_size_here", "_law_doors_here"] (sp_l_walk K) := by
  refine T.d_l_walk.kept sc_l_walk (fun vs H Q E h => ?_) (fun cdv A outer s H vs Q E hr h => ?_)
  · obtain ⟨a, dp, ns, n, ds, rfl, _⟩ := h
    rfl
  · obtain ⟨a, dp, ns, n, ds, rfl, hS, hd, hdl, hn1, hn60, q⟩ := h
    refine ⟨_, (pss_cons (ps_if (pt_cmpR op_eq (pe_op op_mod (pe_fn (ok_l_cell_at (K := K) T) (hr.mono (by decide)) passL (by rfl) (pa_cons (pv 0) (pa_cons pe_int pa_nil))) pe_int) pe_int (nomark _))
        (pss_one (ps_ret (pe_lst pa_nil)))
        pss_nil)
      (pss_cons (ps_if (pt_cmpR op_eq (pe_op op_mod (pe_fn (ok_l_cell_at (K := K) T) (hr.mono (by decide)) passL (by rfl) (pa_cons (pv 0) (pa_cons pe_int pa_nil))) pe_int) pe_int (nomark _))
        (pss_cons (ps_set (i := 3) sc_l_walk.nd rfl (Or.inl rfl) (pe_listRg (by rfl) (by rfl) T.n_list (prg_1 (by rfl) T.n_range (pv 1))))
      (pss_one (ps_ret (pe_op op_cat (pv 3) (pe_lc (own := [("_law_k", 5)]) (g := gName 5) rfl sc_l_walk.nd (pi_range1 (by rfl) T.n_range (pa_cons (pe_op op_mod (pe_fn (ok_l_cell_at (K := K) T) (hr.mono (by decide)) passL (by rfl) (pa_cons (pv 0) (pa_cons pe_int pa_nil))) (pe_op op_add (pv 1) pe_int)) pa_nil)) (blkOk_by (own := [("_law_k", 5)]) (N := ["_law_script", "_law_size_here", "_law_doors_here", "_law_far", "_law_row", "_law_k", "_law_cell", "_law_here", "_law_more", "_law_one", "_law_other", "_law_lock_here"]) (sc := defScope s_l_walk) (by decide +kernel)) (fun _ _ _ _ _ => (pg_name (i := 5) sc_l_walk.nd rfl (Or.inl rfl))) (fun _ _ _ _ _ => pts_nil) (fun _ _ _ _ _ => (pe_op op_sub (pe_op op_sub (pv 1) pe_int) (pv 5))))))))
        pss_nil)
      (pss_cons (ps_if (pt_cmpR op_eq (pe_op op_mod (pe_fn (ok_l_cell_at (K := K) T) (hr.mono (by decide)) passL (by rfl) (pa_cons (pv 0) (pa_cons pe_int pa_nil))) pe_int) pe_int (nomark _))
        (pss_one (ps_ret (pe_lc (own := [("_law_k", 5)]) (g := gName 5) rfl sc_l_walk.nd (pi_range1 (by rfl) T.n_range (pa_cons (pe_op op_add pe_int (pe_op op_mod (pe_fn (ok_l_cell_at (K := K) T) (hr.mono (by decide)) passL (by rfl) (pa_cons (pv 0) (pa_cons pe_int pa_nil))) pe_int)) pa_nil)) (blkOk_by (own := [("_law_k", 5)]) (N := ["_law_script", "_law_size_here", "_law_doors_here", "_law_far", "_law_row", "_law_k", "_law_cell", "_law_here", "_law_more", "_law_one", "_law_other", "_law_lock_here"]) (sc := defScope s_l_walk) (by decide +kernel)) (fun _ _ _ _ _ => (pg_name (i := 5) sc_l_walk.nd rfl (Or.inl rfl))) (fun _ _ _ _ _ => pts_nil) (fun _ _ _ _ _ => (pe_ix (ix_list_K (K := K) rfl) (pe_lst (pa_cons pe_int (pa_cons (pe_op op_add pe_int (pe_op op_mod (pe_op op_fdiv (pv 5) pe_int) (pe_callB (call_max2 rfl) (by rfl) T.n_max (by decide +kernel) (pa_cons pe_int (pa_cons (pe_op op_sub (pv 1) pe_int) pa_nil))))) pa_nil))) (pe_op op_mod (pv 5) pe_int) (fun _ _ => rfl))))))
        pss_nil)
      (pss_cons (ps_set (i := 4) sc_l_walk.nd rfl (Or.inl rfl) (pe_lst (pa_cons (pe_op op_mod (pe_fn (ok_l_cell_at (K := K) T) (hr.mono (by decide)) passL (by rfl) (pa_cons (pv 0) (pa_cons pe_int pa_nil))) (pv 1)) pa_nil)))
      (pss_cons (ps_for (passes_of rfl) rfl (pi_range1 (by rfl) T.n_range (pa_cons (pe_op op_mod (pe_op op_mod (pe_fn (ok_l_cell_at (K := K) T) (hr.mono (by decide)) passL (by rfl) (pa_cons (pv 0) (pa_cons pe_int pa_nil))) pe_int) pe_int) pa_nil)) (pg_name (i := 5) sc_l_walk.nd rfl (Or.inl rfl))
        (pss_cons (ps_set (i := 6) sc_l_walk.nd rfl (Or.inl rfl) (pe_fn (ok_l_mix (K := K) T) (hr.mono (by decide)) passL (by rfl) (pa_cons (pe_fn (ok_l_cell_at (K := K) T) (hr.mono (by decide)) passL (by rfl) (pa_cons (pv 0) (pa_cons (pe_op op_add pe_int (pv 5)) pa_nil))) (pa_cons (pe_op op_add (pv 5) pe_int) pa_nil))))
      (pss_cons (ps_set (i := 7) sc_l_walk.nd rfl (Or.inr rfl) (pe_ix (ix_list_K (K := K) rfl) (pv 4) (pe_un un_neg pe_int) (fun _ _ => rfl)))
      (pss_cons (ps_setLc (i := 8) (own := [("_law_one", 9), ("_law_other", 10), ("_law_lock_here", 11)]) (g := gTup K 3 (gCons (gName 9) (gCons (gName 10) (gCons (gName 11) (gNil))))) rfl sc_l_walk.nd rfl rfl (sw_true rfl rfl rfl (by decide +kernel)) (pi_list_K (K := K) rfl (pv 2)) (blkOk_by (own := [("_law_one", 9), ("_law_other", 10), ("_law_lock_here", 11)]) (N := ["_law_script", "_law_size_here", "_law_doors_here", "_law_far", "_law_row", "_law_k", "_law_cell", "_law_here", "_law_more", "_law_one", "_law_other", "_law_lock_here"]) (sc := defScope s_l_walk) (by decide +kernel)) (fun _ _ _ _ _ => (pg_tup_K (K := K) rfl (by rfl) (pgs_cons (pg_name (i := 9) sc_l_walk.nd rfl (Or.inl rfl)) (pgs_cons (pg_name (i := 10) sc_l_walk.nd rfl (Or.inl rfl)) (pgs_cons (pg_name (i := 11) sc_l_walk.nd rfl (Or.inl rfl)) pgs_nil))))) (fun _ _ _ _ _ => pts_one (pt_cmpR (op_in_seq_K (K := K) rfl) (pv 7) (pe_tup (pa_cons (pv 9) (pa_cons (pv 10) pa_nil))) (by rfl))) (fun _ _ _ _ _ => (pe_op op_sub (pe_op op_add (pv 9) (pv 10)) (pv 7))))
      (pss_one (ps_if (PW.pt (pw_or (pt_cmpR op_eq (pe_op op_mod (pv 6) pe_int) pe_int (nomark _)) (pw_or1 (pt_cmpR (op_eqD_K (K := K) rfl hr.units) (pv 8) (pe_lst pa_nil) (nomark _)))))
        (pss_one (ps_expr (pe_bm_K (K := K) rfl PySem.F.plainAttrs_list PySem.F.slot_list_append PySem.F.type_list_append mt_append (pv 4) (pa_cons (pe_ix (ix_list_K (K := K) rfl) (pe_lst (pa_cons (pe_op op_mod (pe_op op_fdiv (pv 6) pe_int) (pv 1)) (pa_cons (pv 7) (pa_cons (pe_op op_sub (pe_un un_neg pe_int) (pe_op op_mod (pv 6) pe_int)) (pa_cons (pe_op op_add (pv 1) (pe_op op_mod (pv 6) pe_int)) pa_nil))))) (pe_op op_mod (pe_op op_fdiv (pv 6) pe_int) pe_int) (fun _ _ => rfl)) pa_nil))))
        (pss_one (ps_expr (pe_bm_K (K := K) rfl PySem.F.plainAttrs_list PySem.F.slot_list_append PySem.F.type_list_append mt_append (pv 4) (pa_cons (pe_ix (ix_list_K (K := K) rfl) (pv 8) (pe_op op_mod (pe_op op_fdiv (pv 6) pe_int) (pe_callB (call_len_seq_K (K := K) rfl) (by rfl) T.n_len (by decide +kernel) (pa_cons (pv 8) pa_nil))) (fun _ _ => rfl)) pa_nil))))))))))
      (pss_one (ps_ret (pv 4)))))))), ?_⟩
    obtain ⟨c1, ec1⟩ : ∃ c1, cellAt ns 1 = c1 := ⟨_, rfl⟩
    have hc1 : ∀ {σ : L2.St} {H' : Hp}, Ex H H' → σ[0]? = some (some (.ref a)) → Ev (tCall (sp_l_cell_at K) [] (fun _ _ _ => False) (tCons (tVar 0) (tCons (tC (.int 1)) tNil))) σ H' (.int c1) := fun e h => by
      rw [← ec1]
      exact ev_call0 (ea_cons (ev_var h) (ea_cons ev_c ea_nil)) (sv_l_cell_at (ex_l e hS) (by decide))
    obtain ⟨c2, ec2⟩ : ∃ c2, cellAt ns 2 = c2 := ⟨_, rfl⟩
    have hc2 : ∀ {σ : L2.St} {H' : Hp}, Ex H H' → σ[0]? = some (some (.ref a)) → Ev (tCall (sp_l_cell_at K) [] (fun _ _ _ => False) (tCons (tVar 0) (tCons (tC (.int 2)) tNil))) σ H' (.int c2) := fun e h => by
      rw [← ec2]
      exact ev_call0 (ea_cons (ev_var h) (ea_cons ev_c ea_nil)) (sv_l_cell_at (ex_l e hS) (by decide))
    refine q_when (b := decide (c1 % 14 = 13)) (et_test (ev_op (ev_op (hc1 (Ex.refl H) rfl) ev_c (rv_I (by decide))) ev_c rv_eqI)) (fun _ H1 e1 => ?_) (fun _ H1 e1 => ?_)
    · exact s_retLT (ds := ([] : List Int).map PyData.int) (lt_lst ea_tn (by simp)) fun p H2 np e2 hp => q [] (by simp) p H2 (fresh_back e1 np) (e1.trans e2) hp
    refine q_when (b := decide (c1 % 14 = 12)) (et_test (ev_op (ev_op (hc1 e1 rfl) ev_c (rv_I (by decide))) ev_c rv_eqI)) (fun _ H2 e2 => ?_) (fun _ H2 e2 => ?_)
    · have e12 := e1.trans e2
      refine q_asgLT (lt_listRg (ev_var rfl) (by omega) (by omega)) fun fp H3 nf e3 hf => ?_
      have e13 := e12.trans e3
      have hm : 0 ≤ c2 % (n + 1) ∧ c2 % (n + 1) < n + 1 := ⟨Int.emod_nonneg _ (by omega), Int.emod_lt_of_pos _ (by omega)⟩
      refine s_retLT (lt_cat (ev_var rfl) hf (lt_mapR1 (n := c2 % (n + 1)) (fun i => PyData.int (n - 1 - (i : Int))) (ea_cons (ev_op (hc2 e13 rfl) (ev_op (ev_var rfl) ev_c rv_I0) (rv_I (by omega))) ea_nil) (by omega) (fun x => rfl) fun i H4 e4 hi => td_int (by walk_at "mz ev")) (by simp; omega)) fun p H4 np e4 hp => ?_
      rw [ints_map (g := fun i => n - 1 - (i : Int)), ← List.map_append] at hp
      exact q _ (by simp; omega) p H4 (fresh_back e13 np) (e13.trans e4) hp
    have e12 := e1.trans e2
    refine q_when (b := decide (c1 % 14 = 11)) (et_test (ev_op (ev_op (hc1 e12 rfl) ev_c (rv_I (by decide))) ev_c rv_eqI)) (fun _ H3 e3 => ?_) (fun _ H3 e3 => ?_)
    · have e13 := e12.trans e3
      have hmx : 0 < (if n - 1 > 1 then n - 1 else (1 : Int)) ∧ (if n - 1 > 1 then n - 1 else (1 : Int)) ≤ 60 := by split <;> omega
      refine s_retLT (lt_mapR1 (n := 1 + c2 % 12) (fun i => PyData.int (([0, 1 + (i : Int) / 2 % (if n - 1 > 1 then n - 1 else 1)] : List Int).getD ((i : Int) % 2).toNat 0)) (ea_cons (ev_op ev_c (ev_op (hc2 e13 rfl) ev_c (rv_I (by walk_at "mz side"))) rv_I0) ea_nil) (by omega) (fun x => rfl) fun i H4 e4 hi => td_int (ev_ixInts (xs := [0, 1 + (i : Int) / 2 % (if n - 1 > 1 then n - 1 else 1)]) (ea_tc (td_int ev_c) (ea_tc (td_int (ev_op ev_c (ev_op (ev_op (ev_var rfl) ev_c (rv_I (by walk_at "mz side"))) (ev_max2 ev_c (ev_op (ev_var rfl) ev_c rv_I0)) (rv_I hmx.1)) rv_I0)) ea_tn)) (by walk_at "mz ev") (by omega) (by simp; omega))) fun p H4 np e4 hp => ?_
      rw [ints_map (g := fun i => (([0, 1 + (i : Int) / 2 % (if n - 1 > 1 then n - 1 else 1)] : List Int).getD ((i : Int) % 2).toNat 0))] at hp
      exact q _ (by simp; omega) p H4 (fresh_back e13 np) (e13.trans e4) hp
    have e13 := e12.trans e3
    refine q_asgLT (ds := ([c2 % n] : List Int).map PyData.int) (lt_lst (ea_tc (td_int (ev_op (hc2 e13 rfl) (ev_var rfl) (rv_I (by omega)))) ea_tn) (by simp)) fun l H4 nl e4 hl => ?_
    have nlH : H l = none := fresh_back e13 nl
    have e14 := e13.trans e4
    refine q_forR1 (n := c1 % 14 % 11) (ea_cons (ev_op (ev_op (hc1 e14 rfl) ev_c (rv_I (by decide))) ev_c (rv_I (by walk_at "mz side"))) ea_nil) ⟨by omega, by omega⟩ (fun i σ' H' => Ex H H' ∧ ∃ (y5 y6 y7 y8 : Option V) (S : List Int) (x : Int), σ' = [some (.ref a), some (.int n), some (.ref dp), none, some (.ref l), y5, y6, y7, y8, none, none, none] ∧ LstT H' l ((S ++ [x]).map PyData.int) ∧ S.length = i) (fun H5 e5 => ⟨e14.trans e5, none, none, none, none, [], c2 % n, rfl, hl.ex e5, rfl⟩) (fun i σ' H' hi hP => ?_) (fun σ' H' hP => ?_)
    · obtain ⟨eH, y5, y6, y7, y8, S, x, rfl, hL, hSl⟩ := hP
      obtain ⟨cc, ecc⟩ : ∃ cc, mix (cellAt ns (2 + (i : Int))) ((i : Int) + 3) = cc := ⟨_, rfl⟩
      have hcc : 0 ≤ cc := by rw [← ecc]; exact mix_pos _ _
      refine q_asg (v := .int cc) ?_ fun H5 e5 => ?_
      · rw [← ecc]
        exact ev_call0 (ea_cons (ev_call0 (ea_cons (ev_var rfl) (ea_cons (by walk_at "mz ev") ea_nil)) (sv_l_cell_at (ex_l eH hS) (by omega))) (ea_cons (by walk_at "mz ev") ea_nil)) sv_l_mix
      have hlast : atI ((S ++ [x]).map PyData.int) (-1) = some (.int x) := by rw [List.map_append]; exact atI_last _ _
      refine q_asg (v := .int x) (ev_of_td (td_ixLV (ev_var rfl) (hL.ex e5) (ev_un ev_c ru_neg) hlast)) fun H6 e6 => ?_
      have e56 := e5.trans e6
      refine q_asgLT (lt_lcV (K := K) (H := H6) (Dd := doorD) (xs := ds) (fun d => decide (x ∈ [d.1, d.2.1])) (fun d => PyData.int (d.1 + d.2.1 - x)) (ev_var rfl) (dp_ex (eH.trans e56) hd) (by omega) (fun d hdm y H7 e7 hy Q2 q2 => ?_)) fun mp H7 nm e7 hm => ?_
      · obtain ⟨d1, d2, d3⟩ := d
        cases hy with
        | tup ho hda =>
          rename_i b xs
          obtain ⟨x1, x2, x3, rfl, h1, h2, h3⟩ := dpAll3 hda
          cases dp_int_inv h1
          cases dp_int_inv h2
          refine ⟨b, _, rfl, ex_t e7 ho, rfl, _, _, rfl, _, _, rfl, _, _, rfl, rfl, ?_⟩
          refine q2 _ rfl ?_ fun _ => td_int ?_
          · exact et_test (ev_inW (ns := [d1, d2]) (ev_var rfl) (td_tup (ds := [.int d1, .int d2]) (ea_tc (td_int (ev_var rfl)) (ea_tc (td_int (ev_var rfl)) ea_tn)) (by simp)))
          · exact ev_op (ev_op (ev_var rfl) (ev_var rfl) rv_I0) (ev_var rfl) rv_I0
      have e57 := e56.trans e7
      obtain ⟨ms, ems⟩ : ∃ ms : List Int, ((ds.filter fun d => decide (x ∈ [d.1, d.2.1])).map fun d => d.1 + d.2.1 - x) = ms := ⟨_, rfl⟩
      have hms : (ds.filter fun d => decide (x ∈ [d.1, d.2.1])).map (fun d => PyData.int (d.1 + d.2.1 - x)) = ms.map PyData.int := by
        rw [← ems, List.map_map]
        rfl
      rw [hms] at hm
      have hmsl : ms.length ≤ 1000 := by
        rw [← ems, List.length_map]
        exact Nat.le_trans (List.length_filter_le _ _) hdl
      refine tif_cases (b := decide (cc % 8 = 7) || decide (ms = [])) (et_or (by walk_at "mz ev") fun _ => et_test (ev_is (ev_eqD (K := K) (d := intlD ms) (e := intlD []) (ed_any (ev_var rfl) hm.dp) (ed_lt (lt_lst (ds := []) ea_tn (by simp))) (sh_intl _) (sh_intl _)) (by rw [eqv_intl]))) (fun _ H8 e8 => ?_) (fun hb H8 e8 => ?_)
      · refine s_appT (d := .int (([cc / 8 % n, x, -1 - cc % 3, n + cc % 3] : List Int).getD (cc / 64 % 4).toNat 0)) (hL.ex (e57.trans e8)) (ev_var rfl) (td_int (ev_ixInts (xs := [cc / 8 % n, x, -1 - cc % 3, n + cc % 3]) (ea_tc (td_int (by walk_at "mz ev")) (ea_tc (td_int (ev_var rfl)) (ea_tc (td_int (by walk_at "mz ev")) (ea_tc (td_int (by walk_at "mz ev")) ea_tn)))) (by walk_at "mz ev") (by omega) (by simp; omega))) (by simp; omega) fun H9 zs v9 e9 hx9 hp9 => ⟨Ex.mut (((eH.trans e57).trans e8).trans e9) nlH, _, _, _, _, S ++ [x], _, rfl, by rw [List.map_append]; exact hp9, by simp [hSl]⟩
      · simp only [Bool.or_eq_false_iff, decide_eq_false_iff_not] at hb
        have hpos : 0 < ms.length := List.length_pos_iff.mpr hb.2
        have hm8 := hm.ex e8
        have hmm : 0 ≤ cc / 8 % (ms.length : Int) ∧ cc / 8 % (ms.length : Int) < (ms.length : Int) := ⟨Int.emod_nonneg _ (by omega), Int.emod_lt_of_pos _ (by omega)⟩
        obtain ⟨j, ej⟩ : ∃ j : Nat, cc / 8 % (ms.length : Int) = (j : Int) := ⟨(cc / 8 % (ms.length : Int)).toNat, by omega⟩
        obtain ⟨y, ey⟩ : ∃ y, ms[j]? = some y := ⟨_, List.getElem?_eq_getElem (by omega)⟩
        have hlen : Ev (tCB (fun xs H Q => ∃ p ys, xs = [.ref p] ∧ (SqL K H p ys ∨ SqT K H p ys) ∧ Q (.int ys.length) H) (tCons (tVar 8) tNil)) [some (.ref a), some (.int n), some (.ref dp), none, some (.ref l), some (.int (i : Int)), some (.int cc), some (.int x), some (.ref mp), none, none, none] H8 (.int (ms.length : Int)) := ev_is (ev_lenD (K := K) (ed_any (ev_var rfl) hm8.dp) (.inl rfl)) (by simp)
        refine s_appT (d := .int y) (hL.ex (e57.trans e8)) (ev_var rfl) (td_int (ev_intItem (ev_var rfl) hm8.dp (ev_is (ev_op (ev_op (ev_var rfl) ev_c (rv_I (by walk_at "mz side"))) hlen (rv_I (by omega))) (by rw [ej])) ey)) (by simp; omega) fun H9 zs v9 e9 hx9 hp9 => ⟨Ex.mut (((eH.trans e57).trans e8).trans e9) nlH, _, _, _, _, S ++ [x], _, rfl, by rw [List.map_append]; exact hp9, by simp [hSl]⟩
    · obtain ⟨eH, y5, y6, y7, y8, S, x, rfl, hL, hSl⟩ := hP
      exact s_ret (ev_var rfl) fun H5 e5 => q (S ++ [x]) (by simp; omega) l H5 nlH (eH.trans e5) (hL.ex e5)
end

section
variable {P : Program} {w : World} {K : PySem.W.Frag} {mg : Str → Option Value} {base : Heap}
/-! ### the keys taken, as the law has it -/
def sp_l_taken (K : PySem.W.Frag) : Sp := fun vs H Q _ => ∃ (v hv : V) (room : Int) (ks : List Key2) (held : List Int), vs = [v, .int room, hv] ∧ Dp K H v (.list (ks.map keyD)) ∧ Dp K H hv (intsD held) ∧ ∀ v H2, Ex H H2 → Td H2 v (intsD (takenF ks room held)) → Q v H2
theorem ok_l_taken (T : Txt K mg) : Kept P w K mg base 1 "_law_taken" ["_law_lying_here", "_law_room", "_law_held"] (sp_l_taken K) := by
  refine T.d_l_taken.kept sc_l_taken (fun vs H Q E h => ?_) (fun cdv A outer s H vs Q E hr h => ?_)
  · obtain ⟨v, hv, room, ks, held, rfl, _⟩ := h
    rfl
  · obtain ⟨v, hv, room, ks, held, rfl, hm, hh, q⟩ := h
    refine ⟨_, (pss_cons (ps_setLc (i := 3) (own := [("_law_kind", 4)]) (g := gName 4) rfl sc_l_taken.nd rfl rfl (sw_true rfl rfl rfl (by decide +kernel)) (pi_range1 (by rfl) T.n_range (pa_cons pe_int pa_nil)) (blkOk_by (own := [("_law_kind", 4)]) (N := ["_law_lying_here", "_law_room", "_law_held", "_law_made", "_law_kind"]) (sc := defScope s_l_taken) (by decide +kernel)) (fun _ _ _ _ _ => (pg_name (i := 4) sc_l_taken.nd rfl (Or.inl rfl))) (fun _ _ _ _ _ => pts_one (PW.pt (pw_or (pt_cmpR (op_in_seq_K (K := K) rfl) (pv 4) (pv 2) (by rfl)) (pw_or1 (pt_cmpR (op_inD_K (K := K) rfl (u65 hr)) (pe_tup (pa_cons (pv 1) (pa_cons (pv 4) pa_nil))) (pv 0) (by rfl)))))) (fun _ _ _ _ _ => (pv 4)))
      (pss_one (ps_ret (pe_callTy (call_tuple_of_K (K := K) rfl) (by rfl) T.n_tuple (by decide +kernel) (pa_cons (pv 3) pa_nil))))), ?_⟩
    refine q_asgLT (ds := (takenF ks room held).map PyData.int) ?_ fun l H1 nl e1 hl => ?_
    · rw [← taken_data]
      refine lt_lcR1 (n := 5) (fun (i : Nat) => decide ((i : Int) ∈ held) || ((ks.map keyD).any fun z => PyData.eqv z (keyD (room, (i : Int))))) (fun (i : Nat) => PyData.int (i : Int)) (ea_cons ev_c ea_nil) (by decide) (fun x => rfl) (fun i H2 e2 hi => ?_) (fun i H2 e2 hi _ => td_int (ev_var rfl))
      refine et_or (et_test (ev_inI (ev_var rfl) (.inl (ed_any (ev_var rfl) (dp_ex e2 hh))))) fun _ => ?_
      exact et_test (ev_inD (ed_td (td_tup (ea_tc (td_int (ev_var rfl)) (ea_tc (td_int (ev_var rfl)) ea_tn)) (by simp))) (ed_any (ev_var rfl) (dp_ex e2 hm)) (sh_key _) (sh_keys ks))
    · exact s_retP (td_tupleV (ev_var rfl) hl) fun v H2 e2 p => q v H2 (e1.trans e2) p
theorem td_l_takenC {σ : L2.St} {H : Hp} {tr : TA} {E : XK} {v hv : V} {room : Int} {ks : List Key2} {held : List Int} (h : EvA tr σ H [v, .int room, hv]) (hm : Dp K H v (.list (ks.map keyD))) (hh : Dp K H hv (intsD held)) : EvTd (tCall (sp_l_taken K) [] E tr) σ H (intsD (takenF ks room held)) := fun H1 e Q q => h H1 e _ fun H2 e2 => ⟨v, hv, room, ks, held, rfl, dp_ex (e.trans e2) hm, dp_ex (e.trans e2) hh, fun v H3 e3 p => q v H3 (e2.trans e3) p⟩
end

section
variable {P : Program} {w : World} {K : PySem.W.Frag} {mg : Str → Option Value} {base : Heap}
def OutV (H : Hp) (o : WOut) (v : V) : Prop := match o with
  | .held h => Td H v (intsD h)
  | o => v = .str (codeW o)
theorem lt_sorted2 {σ : L2.St} {H : Hp} {ta : TE} {a b : Int} (h : EvLT ta σ H (([a, b] : List Int).map PyData.int)) : EvLT (tCB (rSorted K) (tCons ta tNil)) σ H ((sort2 a b).map PyData.int) := fun H1 e Q q => h H1 e _ fun l H2 nl e2 hl => by
  obtain ⟨xs, hx, hd⟩ := hl
  have ex := tdAll_ints hd
  subst ex
  refine ⟨l, [a, b], rfl, SqL.of hx, by simp, fun ns' p hp hs np => ?_⟩
  have e3 : ns' = sort2 a b := PySem.W.ksm_same (hp.trans (sort2_perm a b).symm) hs (sort2_sorted a b)
  subst e3
  exact q p _ (fresh_back e2 np) (e2.trans (Ex.new np)) ⟨_, upd_same, td_ints _⟩
theorem td_lock {H : Hp} {x : V} {l : Option Int} (h : Dp K H x (lockD l)) : Td H x (lockD l) := by
  cases l with
  | none => cases h; exact .non
  | some k => cases h; exact .int k
theorem nb_locks (ls : List (Option Int)) : nb (.list (ls.map lockD)) = true := by simp only [nb]; exact nbAll_map nb_lock ls
theorem sh_locks (ls : List (Option Int)) : SeqAt.shaped (.list (ls.map lockD)) = true := shaped_of (nb_locks ls) (by
  have := depth_list (n := 0) (depth_map (f := lockD) (fun i => by rw [dep_lock]; exact Nat.le_refl 0) ls)
  omega)
theorem eqv_locks (ds es : List (Option Int)) : PyData.eqv (.list (ds.map lockD)) (.list (es.map lockD)) = decide (ds = es) := eqv_dec (nb_locks ds) (nb_locks es) ⟨fun e => map_inj (f := lockD) (fun a b z => by
  cases a <;> cases b <;> simp [lockD] at z <;> simp [z]) (by simpa using e), fun e => by rw [e]⟩
theorem td_l_takenU {σ : L2.St} {H : Hp} {t1 t2 : TE} {E : XK} {v : V} {room : Int} {ks : List Key2} (h1 : Ev t1 σ H v) (h2 : Ev t2 σ H (.int room)) (hm : Dp K H v (.list (ks.map keyD))) : EvTd (tCall (sp_l_taken K) [] E (tCons t1 (tCons t2 (tCons (tTup tNil) tNil)))) σ H (intsD (takenF ks room [])) := by
  intro H3 e3 Q' q'
  refine ea_pv (R := fun vs H' => ∃ hv, vs = [v, .int room, hv] ∧ Td H' hv (intsD [])) h1 (fun H4 e4 => ea_pv (h2.mono e4) fun H5 e5 => ea_pc td_unit0 fun u H6 e6 hu => ea_pn fun H7 e7 => ⟨u, rfl, hu.ex e7⟩) H3 e3 _ fun vs H4 e4 hvs => ?_
  obtain ⟨hv, rfl, hhv⟩ := hvs
  exact ⟨v, hv, room, ks, [], rfl, dp_ex (e3.trans e4) hm, hhv.dp, fun v H5 e5 p => q' v H5 (e4.trans e5) p⟩
def sp_l_due (K : PySem.W.Frag) : Sp := fun vs H Q _ => ∃ (dv lv wv : V) (n : Int) (ds : List Door) (ks : List Key2) (walk : List Int), vs = [dv, lv, .int n, wv] ∧ Dp K H dv (.list (ds.map doorD)) ∧ Dp K H lv (.list (ks.map keyD)) ∧ Dp K H wv (intlD walk) ∧ ds.length ≤ 1000 ∧ walk.length ≤ 10000 ∧
  (∀ v H2, Ex H H2 → OutV H2 (walkedF n ds ks walk) v → Q v H2)
theorem locks_open {bs : List Door} {held : List Int} : decide ((bs.map fun d => d.2.2).filter (fun l => opensF (0, 0, l) held) = []) = !(bs.any fun d => opensF d held) := by
  rw [Bool.eq_iff_iff]
  simp only [decide_eq_true_eq, List.filter_eq_nil_iff, Bool.not_eq_true', List.any_eq_false, List.mem_map]
  constructor
  · intro h d hd z
    exact h d.2.2 ⟨d, hd, rfl⟩ z
  · rintro h l ⟨d, hd, rfl⟩ z
    exact h d hd z
theorem ok_l_due (T : Txt K mg) : Kept P w K mg base 2 "_law_due" ["_law_doors_here", "_law_lying_here", "_law_size_here", "_law_walk_here"] (sp_l_due K) := by
  refine T.d_l_due.kept sc_l_due (fun vs H Q E h => ?_) (fun cdv A outer s H vs Q E hr h => ?_)
  · obtain ⟨dv, lv, wv, n, ds, ks, walk, rfl, _⟩ := h
    rfl
  · obtain ⟨dv, lv, wv, n, ds, ks, walk, rfl, hd, hm, hw, hl, hwl, q⟩ := h
    refine ⟨_, (pss_cons (ps_for (passes_of rfl) rfl (pi_list_K (K := K) rfl (pv 3)) (pg_name (i := 4) sc_l_due.nd rfl (Or.inl rfl))
        (pss_one (ps_if (PW.pt (pw_or (pt_cmpR op_lt (pv 4) pe_int (nomark _)) (pw_or1 (pt_cmpR op_ge (pv 4) (pv 2) (nomark _)))))
        (pss_one (ps_ret pe_str))
        pss_nil)))
      (pss_cons (ps_if (pt_cmpR (op_eqD_K (K := K) rfl hr.units) (pv 3) (pe_lst pa_nil) (nomark _))
        (pss_one (ps_ret pe_str))
        pss_nil)
      (pss_cons (ps_set (i := 5) sc_l_due.nd rfl (Or.inr rfl) (pe_fn (ok_l_taken (K := K) T) (hr.mono (by decide)) passL (by rfl) (pa_cons (pv 1) (pa_cons (pe_ix (ix_list_K (K := K) rfl) (pv 3) pe_int (fun _ _ => rfl)) (pa_cons (pe_tup pa_nil) pa_nil)))))
      (pss_cons (ps_for (passes_of rfl) rfl (pi_range2 (by rfl) T.n_range (pa_cons pe_int (pa_cons (pe_callB (call_len_seq_K (K := K) rfl) (by rfl) T.n_len (by decide +kernel) (pa_cons (pv 3) pa_nil)) pa_nil))) (pg_name (i := 6) sc_l_due.nd rfl (Or.inr rfl))
        (pss_cons (ps_setLc (i := 7) (own := [("_law_one", 8), ("_law_other", 9), ("_law_lock_here", 10)]) (g := gTup K 3 (gCons (gName 8) (gCons (gName 9) (gCons (gName 10) (gNil))))) rfl sc_l_due.nd rfl rfl (sw_true rfl rfl rfl (by decide +kernel)) (pi_list_K (K := K) rfl (pv 0)) (blkOk_by (own := [("_law_one", 8), ("_law_other", 9), ("_law_lock_here", 10)]) (N := ["_law_doors_here", "_law_lying_here", "_law_size_here", "_law_walk_here", "_law_room", "_law_held", "_law_k", "_law_between", "_law_one", "_law_other", "_law_lock_here"]) (sc := defScope s_l_due) (by decide +kernel)) (fun _ _ _ _ _ => (pg_tup_K (K := K) rfl (by rfl) (pgs_cons (pg_name (i := 8) sc_l_due.nd rfl (Or.inl rfl)) (pgs_cons (pg_name (i := 9) sc_l_due.nd rfl (Or.inl rfl)) (pgs_cons (pg_name (i := 10) sc_l_due.nd rfl (Or.inl rfl)) pgs_nil))))) (fun _ _ _ _ _ => pts_one (pt_cmpR (op_eqD_K (K := K) rfl hr.units) (pe_callB (cr_sorted_K (K := K) rfl) (by rfl) T.n_sorted (by decide +kernel) (pa_cons (pe_lst (pa_cons (pv 8) (pa_cons (pv 9) pa_nil))) pa_nil)) (pe_callB (cr_sorted_K (K := K) rfl) (by rfl) T.n_sorted (by decide +kernel) (pa_cons (pe_lst (pa_cons (pe_ix (ix_list_K (K := K) rfl) (pv 3) (pe_op op_sub (pv 6) pe_int) (fun _ _ => rfl)) (pa_cons (pe_ix (ix_list_K (K := K) rfl) (pv 3) (pv 6) (fun _ _ => rfl)) pa_nil))) pa_nil)) (nomark _))) (fun _ _ _ _ _ => (pv 10)))
      (pss_cons (ps_if (pt_cmpR (op_eqD_K (K := K) rfl hr.units) (pv 7) (pe_lst pa_nil) (nomark _))
        (pss_one (ps_ret pe_str))
        pss_nil)
      (pss_cons (ps_if (pt_cmpR (op_eqD_K (K := K) rfl hr.units) (pe_lc (own := [("_law_lock_here", 10)]) (g := gName 10) rfl sc_l_due.nd (pi_list_K (K := K) rfl (pv 7)) (blkOk_by (own := [("_law_lock_here", 10)]) (N := ["_law_doors_here", "_law_lying_here", "_law_size_here", "_law_walk_here", "_law_room", "_law_held", "_law_k", "_law_between", "_law_one", "_law_other", "_law_lock_here"]) (sc := defScope s_l_due) (by decide +kernel)) (fun _ _ _ _ _ => (pg_name (i := 10) sc_l_due.nd rfl (Or.inl rfl))) (fun _ _ _ _ _ => pts_one (PW.pt (pw_or (pt_cmpR op_isN (pv 10) pe_non (nomark _)) (pw_or1 (pt_cmpR (op_in_seq_K (K := K) rfl) (pv 10) (pv 5) (by rfl)))))) (fun _ _ _ _ _ => (pv 10))) (pe_lst pa_nil) (nomark _))
        (pss_one (ps_ret pe_str))
        pss_nil)
      (pss_one (ps_set (i := 5) sc_l_due.nd rfl (Or.inr rfl) (pe_fn (ok_l_taken (K := K) T) (hr.mono (by decide)) passL (by rfl) (pa_cons (pv 1) (pa_cons (pe_ix (ix_list_K (K := K) rfl) (pv 3) (pv 6) (fun _ _ => rfl)) (pa_cons (pv 5) pa_nil))))))))))
      (pss_one (ps_ret (pv 5))))))), ?_⟩
    have qs : ∀ o, walkedF n ds ks walk = o → o.bad = true → ∀ H2, Ex H H2 → Q (.str (codeW o)) H2 := fun o ho hb H2 e2 => q _ H2 e2 (by
      rw [ho]
      cases o with
      | held h => cases hb
      | room => rfl
      | door => rfl
      | shut => rfl)
    refine q_forV (g := gName 4) (ev_var rfl) hw (Ex.refl H) (fun i σ' H' => Ex H H' ∧ ∃ y, σ' = [some dv, some lv, some (.int n), some wv, y, none, none, none, none, none, none] ∧ ∀ x ∈ walk.take i, Here n x) (fun H3 e3 => ⟨e3, none, rfl, by simp⟩) (fun i σ' H' hP => hP.1) (fun i d x σ' H' hdi hx hP => ?_) (fun σ' H' hP => ?_)
    · obtain ⟨eH, y, rfl, hall⟩ := hP
      rw [List.getElem?_map] at hdi
      obtain ⟨r, hr1, rfl⟩ := Option.map_eq_some_iff.mp hdi
      cases hx
      show tIfS _ _ _ _ _ _
      refine s_when (b := decide (r < 0) || decide (n ≤ r)) (et_or (et_test (ev_op (ev_var rfl) ev_c rv_I0)) fun _ => et_test (ev_op (ev_var rfl) (ev_var rfl) rv_I0)) (fun hb H2 e2 => ?_) (fun hb H2 e2 => ⟨eH.trans e2, _, rfl, ?_⟩)
      · simp only [Bool.or_eq_true, decide_eq_true_eq] at hb
        have hn : ¬ Here n r := fun z => by have := z.1; have := z.2; omega
        exact s_ret ev_c fun H3 e3 => qs .room (walked_far (List.mem_of_getElem? hr1) hn) rfl H3 ((eH.trans e2).trans e3)
      · simp only [Bool.or_eq_false_iff, decide_eq_false_iff_not] at hb
        rw [List.take_succ, hr1]
        intro x hx
        rcases List.mem_append.mp hx with h1 | h1
        · exact hall x h1
        · simp at h1
          subst h1
          exact ⟨by omega, by omega⟩
    obtain ⟨eH, y, rfl, hall⟩ := hP
    rw [List.length_map, List.take_length] at hall
    refine q_when (b := decide (walk = [])) (et_test (ev_is (ev_eqD (d := intlD walk) (e := intlD []) (ed_any (ev_var rfl) (dp_ex eH hw)) (ed_lt (lt_lst (ds := []) ea_tn (by simp))) (sh_intl _) (sh_intl _)) (by rw [eqv_intl]))) (fun hb H1 e1 => ?_) (fun hb H1 e1 => ?_)
    · have := of_decide_eq_true hb
      subst this
      exact s_ret ev_c fun H3 e3 => qs .room rfl rfl H3 ((eH.trans e1).trans e3)
    have hne := of_decide_eq_false hb
    have eH1 := eH.trans e1
    obtain ⟨r0, hr0⟩ : ∃ r0, walk[0]? = some r0 := by
      cases walk with
      | nil => exact absurd rfl hne
      | cons a rest => exact ⟨a, rfl⟩
    have hW := walked_go (ds := ds) (ks := ks) hr0 hall
    refine q_asgP (P := fun v H' => Td H' v (intsD (takenF ks r0 []))) (td_l_takenU (ev_var rfl) (ev_intItem (ev_var rfl) (dp_ex eH1 hw) ev_c hr0) (dp_ex eH1 hm)) fun hv H2 e2 hhv => ?_
    have e02 := eH1.trans e2
    have hwl2 : (walk.map PyData.int).length = walk.length := by simp
    have hpos : 0 < walk.length := (List.getElem?_eq_some_iff.mp hr0).1
    refine q_forR2 (lo := 1) (n := ((walk.map PyData.int).length : Int)) (ea_cons ev_c (ea_cons (ev_lenD (K := K) (ed_any (ev_var rfl) (dp_ex e02 hw)) (.inl rfl)) ea_nil)) ⟨by omega, by omega, by omega, by omega⟩ (fun i σ' H' => Ex H H' ∧ ∃ (hv : V) (held : List Int) (y6 y7 : Option V) (r : Int), σ' = [some dv, some lv, some (.int n), some wv, y, some hv, y6, y7, none, none, none] ∧ Td H' hv (intsD held) ∧ walk[i]? = some r ∧ goF ds ks r held (walk.drop (i + 1)) = walkedF n ds ks walk) (fun H3 e3 => ⟨e02.trans e3, hv, _, none, none, r0, rfl, hhv.ex e3, hr0, hW.symm⟩) (fun i σ' H' hi hP => ?_) (fun σ' H' hP => ?_)
    · obtain ⟨eH3, hv, held, y6, y7, r, rfl, hhv, hri, hgo⟩ := hP
      have hi2 : i + 1 < walk.length := by omega
      obtain ⟨r2, hr2⟩ : ∃ r2, walk[i + 1]? = some r2 := ⟨_, List.getElem?_eq_getElem hi2⟩
      have hdr : walk.drop (i + 1) = r2 :: walk.drop (i + 2) := by
        rw [List.drop_eq_getElem_cons hi2]
        rw [List.getElem?_eq_getElem hi2] at hr2
        cases hr2
        rfl
      rw [hdr] at hgo
      obtain ⟨bs, ebs⟩ : ∃ bs, ds.filter (joinsF r r2) = bs := ⟨_, rfl⟩
      have hpf : passF ds ks r r2 held = if bs = [] then .door else if bs.any (fun d => opensF d held) = true then .held (takenF ks r2 held) else .shut := by unfold passF; rw [ebs]
      have hbl : bs.length ≤ 1000 := by
        rw [← ebs]
        exact Nat.le_trans (List.length_filter_le _ _) hl
      refine q_asgLT (lt_lcV (K := K) (H := H') (Dd := doorD) (xs := ds) (joinsF r r2) (fun d => lockD d.2.2) (ev_var rfl) (dp_ex eH3 hd) (by omega) (fun d hdm z H7 e7 hz Q2 q2 => ?_)) fun bp H7 nb e7 hb7 => ?_
      · obtain ⟨d1, d2, d3⟩ := d
        cases hz with
        | tup ho hda =>
          rename_i b xs
          obtain ⟨x1, x2, x3, rfl, h1, h2, h3⟩ := dpAll3 hda
          cases dp_int_inv h1
          cases dp_int_inv h2
          refine ⟨b, _, rfl, ex_t e7 ho, rfl, _, _, rfl, _, _, rfl, _, _, rfl, rfl, ?_⟩
          refine q2 _ rfl ?_ fun _ => td_any (ev_var rfl) (td_lock (dp_ex e7 h3))
          have e37 := eH3.trans e7
          have ea : EvLT (tLst (tCons (tVar 8) (tCons (tVar 9) tNil))) [some dv, some lv, some (.int n), some wv, y, some hv, some (.int (1 + (i : Int))), y7, some (.int d1), some (.int d2), some x3] H7 (([d1, d2] : List Int).map PyData.int) := lt_lst (ea_tc (td_int (ev_var rfl)) (ea_tc (td_int (ev_var rfl)) ea_tn)) (by simp)
          refine et_test (ev_is (ev_eqD (K := K) (d := intlD (sort2 d1 d2)) (e := intlD (sort2 r r2)) (ed_lt (lt_sorted2 ea)) (ed_lt (lt_sorted2 (lt_lst (ea_tc (td_int (ev_intItem (k := i) (ev_var rfl) (dp_ex e37 hw) (ev_is (ev_op (ev_var rfl) ev_c rv_I0) (by congr 1; omega)) hri)) (ea_tc (td_int (ev_intItem (k := i + 1) (ev_var rfl) (dp_ex e37 hw) (ev_is (ev_var rfl) (by congr 1; omega)) hr2)) ea_tn)) (by simp)))) (sh_intl _) (sh_intl _)) ?_)
          rw [eqv_intl, sort2_joins (d1, d2, d3)]
      have e37 := eH3.trans e7
      obtain ⟨ls, els⟩ : ∃ ls : List (Option Int), bs.map (fun d => d.2.2) = ls := ⟨_, rfl⟩
      have hlsm : (ds.filter (joinsF r r2)).map (fun d => lockD d.2.2) = ls.map lockD := by
        rw [ebs, ← els, List.map_map]
        rfl
      rw [hlsm] at hb7
      have hlsl : ls.length ≤ 1000 := by rw [← els, List.length_map]; exact hbl
      refine q_when (b := decide (ls = [])) (et_test (ev_is (ev_eqD (K := K) (d := .list (ls.map lockD)) (e := .list (([] : List (Option Int)).map lockD)) (ed_any (ev_var rfl) hb7.dp) (ed_lt (lt_lst (ds := []) ea_tn (by simp))) (sh_locks _) (sh_locks _)) (by rw [eqv_locks]))) (fun hb2 H8 e8 => ?_) (fun hb2 H8 e8 => ?_)
      · have h0 := of_decide_eq_true hb2
        rw [← els, List.map_eq_nil_iff] at h0
        rw [if_pos h0] at hpf
        exact s_ret ev_c fun H9 e9 => qs .door (by rw [← hgo]; exact go_bad hpf rfl) rfl H9 ((e37.trans e8).trans e9)
      have h0 : ¬ bs = [] := fun z => of_decide_eq_false hb2 (by rw [← els, z]; rfl)
      rw [if_neg h0] at hpf
      have e38 := e37.trans e8
      have hb8 := hb7.ex e8
      have hhv8 := hhv.ex (e7.trans e8)
      refine q_when (b := !(bs.any fun d => opensF d held)) (et_test (ev_is (ev_eqD (K := K) (d := .list ((ls.filter fun l => opensF (0, 0, l) held).map lockD)) (e := .list (([] : List (Option Int)).map lockD)) (ed_lt (lt_lcV (K := K) (H := H8) (Dd := lockD) (xs := ls) (fun l => opensF (0, 0, l) held) lockD (ev_var rfl) hb8.dp (by omega) (fun l hlm z H9 e9 hz Q2 q2 => q2 _ rfl (et_open (ed_any (ev_var rfl) (dp_ex e9 hz)) (ed_any (ev_var rfl) (dp_ex e9 hz)) (ed_any (ev_var rfl) (hhv8.ex e9).dp)) fun _ => td_any (ev_var rfl) (td_lock (dp_ex e9 hz))))) (ed_lt (lt_lst (ds := []) ea_tn (by simp))) (sh_locks _) (sh_locks _)) (by rw [eqv_locks, ← els, locks_open]))) (fun hb3 H9 e9 => ?_) (fun hb3 H9 e9 => ?_)
      · simp only [Bool.not_eq_true'] at hb3
        rw [if_neg (by rw [hb3]; simp)] at hpf
        exact s_ret ev_c fun H10 e10 => qs .shut (by rw [← hgo]; exact go_bad hpf rfl) rfl H10 ((e38.trans e9).trans e10)
      · simp only [Bool.not_eq_false'] at hb3
        rw [if_pos hb3] at hpf
        have e39 := e38.trans e9
        refine s_asgP (P := fun v H' => Td H' v (intsD (takenF ks r2 held))) (td_l_takenC (ea_cons (ev_var rfl) (ea_cons (ev_intItem (k := i + 1) (ev_var rfl) (dp_ex e39 hw) (ev_is (ev_var rfl) (by congr 1; omega)) hr2) (ea_cons (ev_var rfl) ea_nil))) (dp_ex e39 hm) (hhv8.ex e9).dp) fun u H10 e10 hu => ⟨e39.trans e10, u, _, _, _, r2, rfl, hu, hr2, by rw [← hgo, go_held hpf]⟩
    · obtain ⟨eH3, hv, held, y6, y7, r, rfl, hhv, hri, hgo⟩ := hP
      have hdr : walk.drop ((((walk.map PyData.int).length : Int) - 1).toNat + 1) = [] := List.drop_eq_nil_of_le (by omega)
      rw [hdr] at hgo
      exact s_retP (td_any (ev_var rfl) hhv) fun v H4 e4 p => q v H4 (eH3.trans e4) (by rw [← hgo]; exact p)
end

section
variable {P : Program} {w : World} {K : PySem.W.Frag} {mg : Str → Option Value} {base : Heap}
/-! ### keys in hand, compared -/
def sp_l_hand (K : PySem.W.Frag) : Sp := fun vs H Q _ => ∃ (v u : V) (ns ms : List Int), vs = [v, u] ∧ Dp K H v (intsD ns) ∧ Dp K H u (intsD ms) ∧ ∀ H2, Ex H H2 → Q (.bl (decide (ns = ms))) H2
theorem ok_l_hand (T : Txt K mg) : Kept P w K mg base 2 "_law_hand" ["_law_found", "_law_due_here"] (sp_l_hand K) := by
  refine T.d_l_hand.kept sc_l_hand (fun vs H Q E h => ?_) (fun cdv A outer s H vs Q E hr h => ?_)
  · obtain ⟨v, u, ns, ms, rfl, _⟩ := h
    rfl
  · obtain ⟨v, u, ns, ms, rfl, hv, hu, q⟩ := h
    refine ⟨_, (pss_cons (ps_if (PW.pt (pw_or (pt_not (pt_val (pe_callB (call_isi_K (K := K) rfl) (by rfl) T.n_isinstance (by decide +kernel) (pa_cons (pv 0) (pa_cons (pe_bltn (v := .ty "tuple") (u := .type "tuple") (by rfl) T.n_tuple (by decide +kernel) rfl) pa_nil))))) (pw_or1 (pt_cmpR op_ne (pe_callB (call_len_seq_K (K := K) rfl) (by rfl) T.n_len (by decide +kernel) (pa_cons (pv 0) pa_nil)) (pe_callB (call_len_seq_K (K := K) rfl) (by rfl) T.n_len (by decide +kernel) (pa_cons (pv 1) pa_nil)) (nomark _)))))
        (pss_one (ps_ret pe_bl))
        pss_nil)
      (pss_cons (ps_for (passes_of rfl) rfl (pi_tup_K (K := K) rfl (pv 0)) (pg_name (i := 2) sc_l_hand.nd rfl (Or.inl rfl))
        (pss_one (ps_if (pt_not (pt_val (pe_fn (ok_l_whole (K := K) T) (hr.mono (by decide)) passL (by rfl) (pa_cons (pv 2) pa_nil))))
        (pss_one (ps_ret pe_bl))
        pss_nil)))
      (pss_one (ps_ret (pe_cmpR (op_eqD_K (K := K) rfl hr.units) (pv 0) (pv 1) (nomark _)))))), ?_⟩
    refine q_when (b := (!true) || !decide (ns.length = ms.length)) (et_or (et_not (et_B (ev_isiD (n := "tuple") (ed_any (ev_var rfl) hv) (fun v H1 _ h => ty_tup h) (by decide +kernel)))) fun _ =>
      et_test (ev_is (ev_op (ev_lenD (ed_any (ev_var rfl) hv) (.inr rfl)) (ev_lenD (ed_any (ev_var rfl) hu) (.inr rfl)) rv_neI) (by simp; omega))) (fun hb H1 e1 => ?_) (fun hb H1 e1 => ?_)
    · refine s_ret (v := .bl false) ev_c fun H2 e2 => ?_
      have hn : ¬ ns = ms := fun z => by subst z; simp at hb
      have := q _ (e1.trans e2)
      rw [decide_eq_false hn] at this
      exact this
    · have hv1 := dp_ex e1 hv
      cases hv1 with
      | tup hs hd =>
        rename_i a xs
        have hx := dpAll_ints hd
        subst hx
        refine q_forT (σ := [some (.ref a), some u, none]) (g := gName 2) (ev_var rfl) hs (fun i σ' H' => Ex H1 H' ∧ ∃ y, σ' = [some (.ref a), some u, y]) (fun H2 e2 => ⟨e2, none, rfl⟩) (fun i σ' H' _ h => ex_t h.1 hs) (fun i x σ' H' hi hP => ?_) (fun σ' H' hP => ?_)
        · obtain ⟨e2, y, rfl⟩ := hP
          rw [List.getElem?_map] at hi
          obtain ⟨n, _, rfl⟩ := Option.map_eq_some_iff.mp hi
          refine s_when (b := !true) (et_not (et_B (ev_call (ea_cons (ev_var rfl) ea_nil) sv_l_whole))) (fun z => by cases z) fun _ H2 e3 => ⟨e2.trans e3, _, rfl⟩
        · obtain ⟨e2, y, rfl⟩ := hP
          have e12 := e1.trans e2
          refine s_ret (ev_is (ev_eqD (ed_any (ev_var rfl) (dp_ex e12 hv)) (ed_any (ev_var rfl) (dp_ex e12 hu)) (sh_ints ns) (sh_ints ms)) (by rw [eqv_ints])) fun H2 e3 => q _ (e12.trans e3)
theorem sv_l_hand {H : Hp} {v u : V} {ns ms : List Int} (h1 : Dp K H v (intsD ns)) (h2 : Dp K H u (intsD ms)) : SpV (sp_l_hand K) [v, u] H (.bl (decide (ns = ms))) := fun H1 e Q q E => ⟨v, u, ns, ms, rfl, dp_ex e h1, dp_ex e h2, q⟩
end

section
variable {P : Program} {w : World} {K : PySem.W.Frag} {mg : Str → Option Value} {base : Heap}
theorem kinds_one {D a : Addr} {σ : L2.St} {H : Hp} {Dn : Ends} {j i : Nat} {b1 b2 b3 b4 b5 b6 : Bool} {c1 c2 c3 c4 c5 c6 : Addr} (hij : i ≠ j) (hi : σ[i]? = some (some (.ref a))) (hj : j < σ.length)
    (k1 : PySem.W.kitOne K (.ref D) (.ref c1) = some b1) (k2 : PySem.W.kitOne K (.ref D) (.ref c2) = some b2) (k3 : PySem.W.kitOne K (.ref D) (.ref c3) = some b3) (k4 : PySem.W.kitOne K (.ref D) (.ref c4) = some b4)
    (k5 : PySem.W.kitOne K (.ref D) (.ref c5) = some b5) (k6 : PySem.W.kitOne K (.ref D) (.ref c6) = some b6) (kV : PySem.W.kitOne K (.ref D) (.type "ValueError") = some true) (hc : ([b1, b2, b3] ++ [b4, b5, b6]).countP id = 1)
    (q : ∀ H2, Ex H H2 → Dn.rt (.bl true) H2) :
    tSeq (tAsg (tLst (tCons (tCB (rIsE K D a) (tCons (tVar i) (tCons (tC (.ref c1)) tNil))) (tCons (tCB (rIsE K D a) (tCons (tVar i) (tCons (tC (.ref c2)) tNil))) (tCons (tCB (rIsE K D a) (tCons (tVar i) (tCons (tC (.ref c3)) tNil))) tNil)))) (gName j))
      (tSeq (tAsg (tOp rCat (tVar j) (tLst (tCons (tCB (rIsE K D a) (tCons (tVar i) (tCons (tC (.ref c4)) tNil))) (tCons (tCB (rIsE K D a) (tCons (tVar i) (tCons (tC (.ref c5)) tNil))) (tCons (tCB (rIsE K D a) (tCons (tVar i) (tCons (tC (.ref c6)) tNil))) tNil))))) (gName j))
        (tRet (tAndV (tCB (rIsE K D a) (tCons (tVar i) (tCons (tC (.ty "ValueError")) tNil))) (tOp rEq (tBM K "list" (rCntF K) (tVar j) (tCons (tC (.bl true)) tNil)) (tC (.int 1)))))) Dn σ H := by
  refine q_asgLT (ds := [b1, b2, b3].map PyData.bool) (lt_lst (ea_tc (td_bl (ev_isE (ev_var hi) (fun _ h => h) k1)) (ea_tc (td_bl (ev_isE (ev_var hi) (fun _ h => h) k2)) (ea_tc (td_bl (ev_isE (ev_var hi) (fun _ h => h) k3)) ea_tn))) (by simp)) fun p H1 np e1 hp => ?_
  have hi1 : (σ.set j (some (.ref p)))[i]? = some (some (.ref a)) := by rw [List.getElem?_set_ne (fun z => hij z.symm)]; exact hi
  have hj1 : (σ.set j (some (V.ref p)))[j]? = some (some (.ref p)) := by rw [List.getElem?_set_self hj]
  refine q_asgLT (ds := [b1, b2, b3].map PyData.bool ++ [b4, b5, b6].map PyData.bool) (lt_cat (ev_var hj1) hp (lt_lst (ea_tc (td_bl (ev_isE (ev_var hi1) (fun _ h => h) k4)) (ea_tc (td_bl (ev_isE (ev_var hi1) (fun _ h => h) k5)) (ea_tc (td_bl (ev_isE (ev_var hi1) (fun _ h => h) k6)) ea_tn))) (by simp)) (by simp)) fun r H2 nr e2 hr => ?_
  have hi2 : ((σ.set j (some (.ref p))).set j (some (.ref r)))[i]? = some (some (.ref a)) := by rw [List.getElem?_set_ne (fun z => hij z.symm)]; exact hi1
  have hj2 : ((σ.set j (some (V.ref p))).set j (some (.ref r)))[j]? = some (some (.ref r)) := by rw [List.getElem?_set_self (by rw [List.length_set]; exact hj)]
  rw [← List.map_append] at hr
  refine s_ret (v := .bl (true && true)) (ev_andV (ev_isE (ev_var hi2) (fun _ h => h) kV) fun _ => ev_is (ev_op (ev_countT (ev_var hj2) hr) ev_c rv_eqI) (by rw [hc]; rfl)) fun H3 e3 => q H3 ((e1.trans e2).trans e3)
end

section
variable {P : Program} {w : World} {K : PySem.W.Frag} {mg : Str → Option Value} {base : Heap}
def sp_l_told (K : PySem.W.Frag) : Sp := fun vs H Q _ => ∃ (v wv : V) (n : Int) (ds : List Door) (ks : List Key2) (walk : List Int), vs = [v, wv] ∧ Dp K H v (mazeF n ds ks) ∧ Dp K H wv (intlD walk) ∧ ds.length ≤ 1000 ∧ walk.length ≤ 10000 ∧ (∀ v H2, Ex H H2 → OutV H2 (walkedF n ds ks walk) v → Q v H2)
theorem ok_l_told (T : Txt K mg) : Kept P w K mg base 5 "_law_told" ["_law_maze", "_law_walk_here"] (sp_l_told K) := by
  refine T.d_l_told.kept sc_l_told (fun vs H Q E h => ?_) (fun cdv A outer s H vs Q E hr h => ?_)
  · obtain ⟨v, wv, n, ds, ks, walk, rfl, _⟩ := h
    rfl
  · obtain ⟨v, wv, n, ds, ks, walk, rfl, hm, hw, hl, hwl, q⟩ := h
    refine ⟨_, (pss_one (ps_try_many (Wout := fun _ _ _ _ => False) (by rfl) (by rfl) takes0x (fun W pn xe tk po => (pss_one (ps_ret (pe_fnS (ok_walked (K := K) T) (hr.mono (by decide)) (fun st => passAt tk st) (pa_cons (pv 0) (pa_cons (pv 1) pa_nil)))))) (HdsOk.cons ⟨by rfl, by decide, .inl T.e_NoRoom.gC⟩ (fun a oe cls dd pn _ _ => (pss_one (ps_ret pe_str))) (HdsOk.cons ⟨by rfl, by decide, .inl T.e_NoDoor.gC⟩ (fun a oe cls dd pn _ _ => (pss_one (ps_ret pe_str))) (HdsOk.cons ⟨by rfl, by decide, .inl T.e_Shut.gC⟩ (fun a oe cls dd pn _ _ => (pss_one (ps_ret pe_str))) HdsOk.nil))))), ?_⟩
    refine ⟨_, rfl, _, rfl, v, wv, n, ds, ks, walk, rfl, hm, hw, hl, hwl, fun h hp u H1 e1 hu => q u H1 e1 (by rw [hp]; exact hu), fun o hp hb H1 e1 => ?_⟩
    rw [hp] at q
    cases o with
    | held h => cases hb
    | room => exact ⟨true, T.m_NoRoom_NoRoom, fun _ a na => s_ret ev_c fun H2 e2 => q _ H2 (e1.trans e2) rfl, fun z => by cases z⟩
    | door => exact ⟨false, T.m_NoDoor_NoRoom, (fun z => by cases z), fun _ => ⟨true, T.m_NoDoor_NoDoor, fun _ a na => s_ret ev_c fun H2 e2 => q _ H2 (e1.trans e2) rfl, fun z => by cases z⟩⟩
    | shut => exact ⟨false, T.m_Shut_NoRoom, (fun z => by cases z), fun _ => ⟨false, T.m_Shut_NoDoor, (fun z => by cases z), fun _ => ⟨true, T.m_Shut_Shut, fun _ a na => s_ret ev_c fun H2 e2 => q _ H2 (e1.trans e2) rfl, fun z => by cases z⟩⟩⟩
def sp_l_refused (K : PySem.W.Frag) : Sp := fun vs H Q _ => ∃ (v wv : V) (n : Int) (ds : List Door) (ks : List Key2) (walk : List Int), vs = [v, wv] ∧ Dp K H v (mazeF n ds ks) ∧ Dp K H wv (intlD walk) ∧ ds.length ≤ 1000 ∧ walk.length ≤ 10000 ∧ (walkedF n ds ks walk).bad = true ∧ ∀ H2, Ex H H2 → Q (.bl true) H2
theorem ok_l_refused (T : Txt K mg) : Kept P w K mg base 5 "_law_refused" ["_law_maze", "_law_walk_here"] (sp_l_refused K) := by
  refine T.d_l_refused.kept sc_l_refused (fun vs H Q E h => ?_) (fun cdv A outer s H vs Q E hr h => ?_)
  · obtain ⟨v, wv, n, ds, ks, walk, rfl, _⟩ := h
    rfl
  · obtain ⟨v, wv, n, ds, ks, walk, rfl, hm, hw, hl, hwl, hbad, q⟩ := h
    refine ⟨_, (pss_cons (ps_try_as (i := 2) (Wout := fun _ _ _ _ => False) (by rfl) (by rfl) sc_l_refused.nd rfl (by rfl) ⟨by rfl, by decide, .inl T.e_MazeError.gC⟩ takes0x (fun W pn xe tk po => (pss_one (ps_expr (pe_fnS (ok_walked (K := K) T) (hr.mono (by decide)) (fun st => passAt tk st) (pa_cons (pv 0) (pa_cons (pv 1) pa_nil)))))) (fun a oe cls dd pn hz hf => pss_exc hz fun D hx hzz => (pss_cons (ps_set (i := 3) sc_l_refused.nd rfl (Or.inl rfl) (pe_lst (pa_cons (pe_callB (call_isE hx hzz hf) (by rfl) T.n_isinstance (by decide +kernel) (pa_cons (pv 2) (pa_cons (pe_gref T.e_NoRoom.gC (by rfl)) pa_nil))) (pa_cons (pe_callB (call_isE hx hzz hf) (by rfl) T.n_isinstance (by decide +kernel) (pa_cons (pv 2) (pa_cons (pe_gref T.e_NoDoor.gC (by rfl)) pa_nil))) (pa_cons (pe_callB (call_isE hx hzz hf) (by rfl) T.n_isinstance (by decide +kernel) (pa_cons (pv 2) (pa_cons (pe_gref T.e_Shut.gC (by rfl)) pa_nil))) pa_nil)))))
      (pss_cons (ps_set (i := 3) sc_l_refused.nd rfl (Or.inl rfl) (pe_op op_cat (pv 3) (pe_lst (pa_cons (pe_callB (call_isE hx hzz hf) (by rfl) T.n_isinstance (by decide +kernel) (pa_cons (pv 2) (pa_cons (pe_gref T.e_NoMaze.gC (by rfl)) pa_nil))) (pa_cons (pe_callB (call_isE hx hzz hf) (by rfl) T.n_isinstance (by decide +kernel) (pa_cons (pv 2) (pa_cons (pe_gref T.e_NoKey.gC (by rfl)) pa_nil))) (pa_cons (pe_callB (call_isE hx hzz hf) (by rfl) T.n_isinstance (by decide +kernel) (pa_cons (pv 2) (pa_cons (pe_gref T.e_TooMany.gC (by rfl)) pa_nil))) pa_nil))))))
      (pss_one (ps_ret (pe_and (pe_callB (call_isE hx hzz hf) (by rfl) T.n_isinstance (by decide +kernel) (pa_cons (pv 2) (pa_cons (pe_bltn (v := .ty "ValueError") (u := .type "ValueError") (by rfl) T.n_ValueError (by decide +kernel) rfl) pa_nil))) (pe_one (pe_cmpR op_eq (pe_bm_K (K := K) rfl PySem.F.plainAttrs_list PySem.F.slot_list_count PySem.F.type_list_count (mt_countF_K (K := K) rfl) (pv 3) (pa_cons pe_bl pa_nil)) pe_int (nomark _))))))))))
      (pss_one (ps_ret pe_bl))), ?_⟩
    refine ⟨_, rfl, _, rfl, v, wv, n, ds, ks, walk, rfl, hm, hw, hl, hwl, (fun h hp => by rw [hp] at hbad; cases hbad), fun o hp hb H1 e1 => ?_⟩
    cases o with
    | held h => cases hb
    | room =>
      refine ⟨true, T.m_NoRoom_MazeError, fun _ a na => ?_, fun z => by cases z⟩
      exact ⟨He.ga K "NoRoom", ⟨rfl, rfl, T.x_NoRoom⟩, kinds_one (by decide) rfl (by simp [L2.start]) T.k_NoRoom_NoRoom T.k_NoRoom_NoDoor T.k_NoRoom_Shut T.k_NoRoom_NoMaze T.k_NoRoom_NoKey T.k_NoRoom_TooMany T.k_NoRoom_ValueError rfl fun H2 e2 => q H2 (e1.trans e2)⟩
    | door =>
      refine ⟨true, T.m_NoDoor_MazeError, fun _ a na => ?_, fun z => by cases z⟩
      exact ⟨He.ga K "NoDoor", ⟨rfl, rfl, T.x_NoDoor⟩, kinds_one (by decide) rfl (by simp [L2.start]) T.k_NoDoor_NoRoom T.k_NoDoor_NoDoor T.k_NoDoor_Shut T.k_NoDoor_NoMaze T.k_NoDoor_NoKey T.k_NoDoor_TooMany T.k_NoDoor_ValueError rfl fun H2 e2 => q H2 (e1.trans e2)⟩
    | shut =>
      refine ⟨true, T.m_Shut_MazeError, fun _ a na => ?_, fun z => by cases z⟩
      exact ⟨He.ga K "Shut", ⟨rfl, rfl, T.x_Shut⟩, kinds_one (by decide) rfl (by simp [L2.start]) T.k_Shut_NoRoom T.k_Shut_NoDoor T.k_Shut_Shut T.k_Shut_NoMaze T.k_Shut_NoKey T.k_Shut_TooMany T.k_Shut_ValueError rfl fun H2 e2 => q H2 (e1.trans e2)⟩
theorem sv_l_refused {H : Hp} {v wv : V} {n : Int} {ds : List Door} {ks : List Key2} {walk : List Int} (hm : Dp K H v (mazeF n ds ks)) (hw : Dp K H wv (intlD walk)) (hl : ds.length ≤ 1000) (hwl : walk.length ≤ 10000) (hb : (walkedF n ds ks walk).bad = true) : SpV (sp_l_refused K) [v, wv] H (.bl true) := fun H1 e Q q E => ⟨v, wv, n, ds, ks, walk, rfl, dp_ex e hm, dp_ex e hw, hl, hwl, hb, q⟩
theorem OutV.ex {H H' : Hp} {o : WOut} {v : V} (e : Ex H H') (h : OutV H o v) : OutV H' o v := by
  cases o with
  | held hs => exact Td.ex e h
  | room => exact h
  | door => exact h
  | shut => exact h
theorem outV_bad {H : Hp} {o : WOut} {v : V} (hb : o.bad = true) (h : OutV H o v) : v = .str (codeW o) := by
  cases o with
  | held hs => cases hb
  | room => exact h
  | door => exact h
  | shut => exact h
theorem ok_law (T : Txt K mg) {f : Addr} {fd : FuncData} (F : FunD K "law" "law" (defArgs s_law) (defBody s_law) (defScope s_law) [] [] f fd) : FnOk P w K mg base CX0 6 f fd ["_law_script"] (sp_law K) := by
  refine F.ok sc_law (fun vs H Q E h => ?_) (fun cdv A outer s H vs Q E hr h => ?_)
  · obtain ⟨a, ns, rfl, _⟩ := h
    rfl
  · obtain ⟨a, ns, rfl, hS, hl63, q⟩ := h
    refine ⟨_, (PSs.nox (pss_cons (ps_set (i := 1) sc_law.nd rfl (Or.inl rfl) (pe_fn (ok_l_size (K := K) T) (hr.mono (by decide)) passL (by rfl) (pa_cons (pv 0) pa_nil)))
      (pss_cons (ps_set (i := 2) sc_law.nd rfl (Or.inl rfl) (pe_fn (ok_l_doors (K := K) T) (hr.mono (by decide)) passL (by rfl) (pa_cons (pv 0) (pa_cons (pv 1) pa_nil))))
      (pss_cons (ps_set (i := 3) sc_law.nd rfl (Or.inl rfl) (pe_fn (ok_l_lying (K := K) T) (hr.mono (by decide)) passL (by rfl) (pa_cons (pv 0) (pa_cons (pv 1) pa_nil))))
      (pss_cons (ps_set (i := 4) sc_law.nd rfl (Or.inl rfl) (pe_fn (ok_l_walk (K := K) T) (hr.mono (by decide)) passL (by rfl) (pa_cons (pv 0) (pa_cons (pv 1) (pa_cons (pv 2) pa_nil)))))
      (pss_cons (ps_set (i := 5) sc_law.nd rfl (Or.inl rfl) (pe_fn (ok_l_due (K := K) T) (hr.mono (by decide)) passL (by rfl) (pa_cons (pv 2) (pa_cons (pv 3) (pa_cons (pv 1) (pa_cons (pv 4) pa_nil))))))
      (pss_cons (ps_set (i := 6) sc_law.nd rfl (Or.inl rfl) (pe_callTy (call_list_of_K (K := K) rfl) (by rfl) T.n_list (by decide +kernel) (pa_cons (pv 4) pa_nil)))
      (pss_cons (ps_set (i := 7) sc_law.nd rfl (Or.inl rfl) (pe_fn (ok_l_told (K := K) T) (hr.mono (by decide)) passL (by rfl) (pa_cons (pe_tup (pa_cons (pv 1) (pa_cons (pe_callTy (call_list_of_K (K := K) rfl) (by rfl) T.n_list (by decide +kernel) (pa_cons (pv 2) pa_nil)) (pa_cons (pe_callTy (call_list_of_K (K := K) rfl) (by rfl) T.n_list (by decide +kernel) (pa_cons (pv 3) pa_nil)) pa_nil)))) (pa_cons (pv 6) pa_nil))))
      (pss_cons (ps_if (pt_cmpR (op_neD_K (K := K) rfl hr.units) (pv 6) (pv 4) (nomark _))
        (pss_one (ps_ret pe_bl))
        pss_nil)
      (pss_cons (ps_if (pt_val (pe_callB (call_isi_K (K := K) rfl) (by rfl) T.n_isinstance (by decide +kernel) (pa_cons (pv 5) (pa_cons (pe_bltn (v := .ty "str") (u := .type "str") (by rfl) T.n_str (by decide +kernel) rfl) pa_nil))))
        (pss_one (ps_ret (pe_and (pe_callB (call_isi_K (K := K) rfl) (by rfl) T.n_isinstance (by decide +kernel) (pa_cons (pv 7) (pa_cons (pe_bltn (v := .ty "str") (u := .type "str") (by rfl) T.n_str (by decide +kernel) rfl) pa_nil))) (pe_and (pe_cmpR op_eq (pv 7) (pv 5) (nomark _)) (pe_one (pe_fn (ok_l_refused (K := K) T) (hr.mono (by decide)) passL (by rfl) (pa_cons (pe_tup (pa_cons (pv 1) (pa_cons (pv 2) (pa_cons (pv 3) pa_nil)))) (pa_cons (pv 4) pa_nil))))))))
        pss_nil)
      (pss_one (ps_ret (pe_fn (ok_l_hand (K := K) T) (hr.mono (by decide)) passL (by rfl) (pa_cons (pv 7) (pa_cons (pv 5) pa_nil))))))))))))))), ?_⟩
    refine q_asgA (vs := [.ref a]) (ea_cons (ev_var rfl) ea_nil) fun H1 e1 => ⟨a, ns, rfl, ex_l e1 hS, fun n hz H2 e2 => ?_⟩
    have e02 := e1.trans e2
    have hn1 : 1 ≤ n ∧ n ≤ 60 := ⟨hz.1, hz.2.1⟩
    refine q_asgA (vs := [.ref a, .int n]) (ea_cons (ev_var rfl) (ea_cons (ev_var rfl) ea_nil)) fun H3 e3 => ⟨a, ns, n, rfl, ex_l (e02.trans e3) hS, hz, hl63, fun ds hok dp H4 nd0 e4 hdl => ?_⟩
    have e04 := (e02.trans e3).trans e4
    refine q_asgA (vs := [.ref a, .int n]) (ea_cons (ev_var rfl) (ea_cons (ev_var rfl) ea_nil)) fun H5 e5 => ⟨a, ns, n, rfl, ex_l (e04.trans e5) hS, hz, hl63, fun ks hks lp H6 nlp e6 hlp => ?_⟩
    have e06 := (e04.trans e5).trans e6
    have hdl6 := hdl.ex (e5.trans e6)
    refine q_asgA (vs := [.ref a, .int n, .ref dp]) (ea_cons (ev_var rfl) (ea_cons (ev_var rfl) (ea_cons (ev_var rfl) ea_nil))) fun H7 e7 => ⟨a, dp, ns, n, ds, rfl, ex_l (e06.trans e7) hS, (hdl6.ex e7).dp, hok.2, hn1.1, hn1.2, fun walk hwk wp H8 nwp e8 hwp => ?_⟩
    have e68 := e7.trans e8
    have hdl8 := hdl6.ex e68
    have hlp8 := hlp.ex e68
    have hwk2 : walk.length ≤ 10000 := by omega
    refine q_asgA (vs := [.ref dp, .ref lp, .int n, .ref wp]) (ea_cons (ev_var rfl) (ea_cons (ev_var rfl) (ea_cons (ev_var rfl) (ea_cons (ev_var rfl) ea_nil)))) fun H9 e9 => ⟨.ref dp, .ref lp, .ref wp, n, ds, ks, walk, rfl, (hdl8.ex e9).dp, (hlp8.ex e9).dp, (hwp.ex e9).dp, hok.2, hwk2, fun uv H10 e10 huv => ?_⟩
    have e810 := e9.trans e10
    have hwp10 := hwp.ex e810
    refine q_asgLT (lt_list (ev_var rfl) hwp10) fun hp H11 nhp e11 hhp => ?_
    have e811 := e810.trans e11
    have hdl11 := hdl8.ex e811
    have hlp11 := hlp8.ex e811
    have hargs : EaP (tCons (tTup (tCons (tVar 1) (tCons (tCB (fun xs H Q => ∃ p ys, xs = [.ref p] ∧ (SqL K H p ys ∨ SqT K H p ys) ∧ ∀ l, H l = none → Q (.ref l) (upd H l (.lst ys))) (tCons (tVar 2) tNil)) (tCons (tCB (fun xs H Q => ∃ p ys, xs = [.ref p] ∧ (SqL K H p ys ∨ SqT K H p ys) ∧ ∀ l, H l = none → Q (.ref l) (upd H l (.lst ys))) (tCons (tVar 3) tNil)) tNil)))) (tCons (tVar 6) tNil)) [some (.ref a), some (.int n), some (.ref dp), some (.ref lp), some (.ref wp), some uv, some (.ref hp), none] H11 (fun vs H' => ∃ mv, vs = [mv, .ref hp] ∧ Dp K H' mv (mazeF n ds ks)) :=
      ea_pc (P := fun v H' => Dp K H' v (mazeF n ds ks)) (ed_tup (ds := [.int n, .list (ds.map doorD), .list (ks.map keyD)]) (ea_dc (ed_int (ev_var rfl)) (ea_dc (ed_lt (lt_list (ev_var rfl) hdl11)) (ea_dc (ed_lt (lt_list (ev_var rfl) hlp11)) ea_dn))) (by simp)) fun mv H12 e12 hmv => ea_pv (ev_var rfl) fun H13 e13 => ea_pn fun H14 e14 => ⟨mv, rfl, dp_ex (e13.trans e14) hmv⟩
    refine q_asgP (P := fun v H' => OutV H' (walkedF n ds ks walk) v) (ep_call0 hargs fun vs H12 e12 hvs Q' q' => ?_) fun fv H13 e13 hfv => ?_
    · obtain ⟨mv, rfl, hmv⟩ := hvs
      exact ⟨mv, .ref hp, n, ds, ks, walk, rfl, hmv, (hhp.ex e12).dp, hok.2, hwk2, fun u H14 e14 hu => q' u H14 e14 hu⟩
    have hwp13 := hwp10.ex (e11.trans e13)
    refine q_when (b := !PyData.eqv (intlD walk) (intlD walk)) (et_test (ev_neD (ed_any (ev_var rfl) (hhp.ex e13).dp) (ed_any (ev_var rfl) hwp13.dp) (sh_intl _) (sh_intl _))) (fun hb H14 e14 => ?_) (fun hb H14 e14 => ?_)
    · rw [eqv_self (nb_intl walk)] at hb
      simp at hb
    have huv14 := huv.ex ((e11.trans e13).trans e14)
    have hfv14 := hfv.ex e14
    have e814 := (e811.trans e13).trans e14
    by_cases hbad : (walkedF n ds ks walk).bad = true
    · have h1 := outV_bad hbad huv14
      have h2 := outV_bad hbad hfv14
      subst h1
      subst h2
      refine q_when (b := true) (et_B (ev_isi (n := "str") (ev_var rfl) (fun _ _ => .base (.str _)) (by decide +kernel))) (fun _ H15 e15 => ?_) (fun z => by cases z)
      refine s_ret (v := .bl (true && (decide (codeW (walkedF n ds ks walk) = codeW (walkedF n ds ks walk)) && true))) (ev_andV (ev_isi (n := "str") (ev_var rfl) (fun _ _ => .base (.str _)) (by decide +kernel)) fun _ => ev_andV (ev_op (ev_var rfl) (ev_var rfl) rv_eqS) fun _ => ev_callP (Pa := fun vs H' => ∃ mv, vs = [mv, .ref wp] ∧ Dp K H' mv (mazeF n ds ks)) (ea_pc (P := fun v H' => Dp K H' v (mazeF n ds ks)) (ed_tup (ds := [.int n, .list (ds.map doorD), .list (ks.map keyD)]) (ea_dc (ed_int (ev_var rfl)) (ea_dc (ed_any (ev_var rfl) (hdl8.ex (e814.trans e15)).dp) (ea_dc (ed_any (ev_var rfl) (hlp8.ex (e814.trans e15)).dp) ea_dn))) (by simp)) fun mv H12 e12 hmv => ea_pv (ev_var rfl) fun H13 e13 => ea_pn fun H14 e14 => ⟨mv, rfl, dp_ex (e13.trans e14) hmv⟩) fun vs H16 e16 hvs => ?_) fun H17 e17 => ?_
      · obtain ⟨mv, rfl, hmv⟩ := hvs
        exact sv_l_refused hmv (hwp.ex ((e814.trans e15).trans e16)).dp hok.2 hwk2 hbad
      · have := q H17
        simpa using this
    · cases hW : walkedF n ds ks walk with
      | room => rw [hW] at hbad; exact absurd rfl hbad
      | door => rw [hW] at hbad; exact absurd rfl hbad
      | shut => rw [hW] at hbad; exact absurd rfl hbad
      | held hs =>
        rw [hW] at huv14 hfv14
        have hu : Td H14 uv (intsD hs) := huv14
        have hf : Td H14 fv (intsD hs) := hfv14
        refine q_when (b := false) (et_B (ev_isiD (n := "tuple") (d := intsD hs) (K := K) (ed_any (ev_var rfl) hu.dp) (fun v H1 _ h => ty_tup h) (by decide +kernel))) (fun z => by cases z) (fun _ H15 e15 => ?_)
        refine s_ret (v := .bl true) (ev_callP (ea_dc (K := K) (d := intsD hs) (ed_any (ev_var rfl) (hf.ex e15).dp) (ea_dc (d := intsD hs) (ed_any (ev_var rfl) (hu.ex e15).dp) ea_dn)) fun vs H16 e16 hd2 => ?_) fun H17 e17 => q H17
        obtain ⟨v1, u1, rfl, hv1, hu1⟩ := dpAll2 hd2
        have := sv_l_hand hv1 hu1
        simpa using this
end

set_option maxHeartbeats 0

/-! ### the head -/
section
variable {K : PySem.W.Frag} {h : Heap} {mg : Str → Option Value}
def faL : List Fx := ([.fa (.free "ValueError"), .fa (.free "bool"), .fa (.free "int"), .fa (.free "isinstance"), .fa (.free "len"), .fa (.free "list"), .fa (.free "max"), .fa (.free "min"), .fa (.free "range"), .fa (.free "sorted"), .fa (.free "str"), .fa (.free "tuple"), .fa (.int "KINDS" 5), .fa (.glo "MazeError"), .fa (.exc "MazeError"), .fa (.glo "NoMaze"), .fa (.exc "NoMaze"), .fa (.glo "NoRoom"), .fa (.exc "NoRoom"), .fa (.glo "NoKey"), .fa (.exc "NoKey"), .fa (.glo "TooMany"), .fa (.exc "TooMany"), .fa (.glo "NoDoor"), .fa (.exc "NoDoor"), .fa (.glo "Shut"), .fa (.exc "Shut"), .excC "NoRoom", .fa (.exm "NoRoom" "MazeError" true), .kit "NoRoom" "MazeError" true] : List Fx) ++ ([.fa (.exm "NoRoom" "NoMaze" false), .kit "NoRoom" "NoMaze" false, .fa (.exm "NoRoom" "NoRoom" true), .kit "NoRoom" "NoRoom" true, .fa (.exm "NoRoom" "NoKey" false), .kit "NoRoom" "NoKey" false, .fa (.exm "NoRoom" "TooMany" false), .kit "NoRoom" "TooMany" false, .fa (.exm "NoRoom" "NoDoor" false), .kit "NoRoom" "NoDoor" false, .fa (.exm "NoRoom" "Shut" false), .kit "NoRoom" "Shut" false, .kitT "NoRoom" "ValueError" true, .excC "NoDoor", .fa (.exm "NoDoor" "MazeError" true), .kit "NoDoor" "MazeError" true, .fa (.exm "NoDoor" "NoMaze" false), .kit "NoDoor" "NoMaze" false, .fa (.exm "NoDoor" "NoRoom" false), .kit "NoDoor" "NoRoom" false, .fa (.exm "NoDoor" "NoKey" false), .kit "NoDoor" "NoKey" false, .fa (.exm "NoDoor" "TooMany" false), .kit "NoDoor" "TooMany" false, .fa (.exm "NoDoor" "NoDoor" true), .kit "NoDoor" "NoDoor" true, .fa (.exm "NoDoor" "Shut" false), .kit "NoDoor" "Shut" false, .kitT "NoDoor" "ValueError" true, .excC "Shut"] : List Fx) ++ ([.fa (.exm "Shut" "MazeError" true), .kit "Shut" "MazeError" true, .fa (.exm "Shut" "NoMaze" false), .kit "Shut" "NoMaze" false, .fa (.exm "Shut" "NoRoom" false), .kit "Shut" "NoRoom" false, .fa (.exm "Shut" "NoKey" false), .kit "Shut" "NoKey" false, .fa (.exm "Shut" "TooMany" false), .kit "Shut" "TooMany" false, .fa (.exm "Shut" "NoDoor" false), .kit "Shut" "NoDoor" false, .fa (.exm "Shut" "Shut" true), .kit "Shut" "Shut" true, .kitT "Shut" "ValueError" true, .fa (.glo "need_room"), .fa (.glo "taken"), .fa (.glo "opens"), .fa (.glo "joins"), .fa (.glo "passed"), .fa (.glo "walked"), .fa (.glo "_law_mix"), .fa (.glo "_law_whole"), .fa (.glo "_law_cell_at"), .fa (.glo "_law_size"), .fa (.glo "_law_lock"), .fa (.glo "_law_rank"), .fa (.glo "_law_ranks"), .fa (.glo "_law_many"), .fa (.glo "_law_mixed")] : List Fx) ++ ([.fa (.glo "_law_built"), .fa (.glo "_law_doors"), .fa (.glo "_law_lying"), .fa (.glo "_law_taken"), .fa (.glo "_law_steps"), .fa (.glo "_law_hand"), .fa (.glo "_law_walk"), .fa (.glo "_law_due"), .fa (.glo "_law_told"), .fa (.glo "_law_refused"), .fa (.glo "law")] : List Fx)
def fnL : List He.DefD := ([⟨("need_room", none), "need_room", "need_room", defArgs s_need_room, defBody s_need_room, defScope s_need_room, [], []⟩, ⟨("taken", none), "taken", "taken", defArgs s_taken, defBody s_taken, defScope s_taken, [], []⟩, ⟨("opens", none), "opens", "opens", defArgs s_opens, defBody s_opens, defScope s_opens, [], []⟩, ⟨("joins", none), "joins", "joins", defArgs s_joins, defBody s_joins, defScope s_joins, [], []⟩, ⟨("passed", none), "passed", "passed", defArgs s_passed, defBody s_passed, defScope s_passed, [], []⟩, ⟨("walked", none), "walked", "walked", defArgs s_walked, defBody s_walked, defScope s_walked, [], []⟩, ⟨("_law_mix", none), "_law_mix", "_law_mix", defArgs s_l_mix, defBody s_l_mix, defScope s_l_mix, [], []⟩, ⟨("_law_whole", none), "_law_whole", "_law_whole", defArgs s_l_whole, defBody s_l_whole, defScope s_l_whole, [], []⟩, ⟨("_law_cell_at", none), "_law_cell_at", "_law_cell_at", defArgs s_l_cell_at, defBody s_l_cell_at, defScope s_l_cell_at, [], []⟩, ⟨("_law_size", none), "_law_size", "_law_size", defArgs s_l_size, defBody s_l_size, defScope s_l_size, [], []⟩, ⟨("_law_lock", none), "_law_lock", "_law_lock", defArgs s_l_lock, defBody s_l_lock, defScope s_l_lock, [], []⟩, ⟨("_law_rank", none), "_law_rank", "_law_rank", defArgs s_l_rank, defBody s_l_rank, defScope s_l_rank, [], []⟩, ⟨("_law_ranks", none), "_law_ranks", "_law_ranks", defArgs s_l_ranks, defBody s_l_ranks, defScope s_l_ranks, [], []⟩, ⟨("_law_many", none), "_law_many", "_law_many", defArgs s_l_many, defBody s_l_many, defScope s_l_many, [], []⟩, ⟨("_law_mixed", none), "_law_mixed", "_law_mixed", defArgs s_l_mixed, defBody s_l_mixed, defScope s_l_mixed, [], []⟩, ⟨("_law_built", none), "_law_built", "_law_built", defArgs s_l_built, defBody s_l_built, defScope s_l_built, [], []⟩, ⟨("_law_doors", none), "_law_doors", "_law_doors", defArgs s_l_doors, defBody s_l_doors, defScope s_l_doors, [], []⟩, ⟨("_law_lying", none), "_law_lying", "_law_lying", defArgs s_l_lying, defBody s_l_lying, defScope s_l_lying, [], []⟩, ⟨("_law_taken", none), "_law_taken", "_law_taken", defArgs s_l_taken, defBody s_l_taken, defScope s_l_taken, [], []⟩, ⟨("_law_steps", none), "_law_steps", "_law_steps", defArgs s_l_steps, defBody s_l_steps, defScope s_l_steps, [], []⟩, ⟨("_law_hand", none), "_law_hand", "_law_hand", defArgs s_l_hand, defBody s_l_hand, defScope s_l_hand, [], []⟩, ⟨("_law_walk", none), "_law_walk", "_law_walk", defArgs s_l_walk, defBody s_l_walk, defScope s_l_walk, [], []⟩, ⟨("_law_due", none), "_law_due", "_law_due", defArgs s_l_due, defBody s_l_due, defScope s_l_due, [], []⟩, ⟨("_law_told", none), "_law_told", "_law_told", defArgs s_l_told, defBody s_l_told, defScope s_l_told, [], []⟩, ⟨("_law_refused", none), "_law_refused", "_law_refused", defArgs s_l_refused, defBody s_l_refused, defScope s_l_refused, [], []⟩, ⟨("law", none), "law", "law", defArgs s_law, defBody s_law, defScope s_law, [], []⟩] : List He.DefD)
theorem txt_of (X : K.In h) (G : h.Ns mainGlobals mg) (c : SaysX faL fnL K) : Txt K mg where
  n_ValueError := He.free_ok X G (c.fact 0 (f := .fa (.free "ValueError")) rfl)
  n_bool := He.free_ok X G (c.fact 1 (f := .fa (.free "bool")) rfl)
  n_int := He.free_ok X G (c.fact 2 (f := .fa (.free "int")) rfl)
  n_isinstance := He.free_ok X G (c.fact 3 (f := .fa (.free "isinstance")) rfl)
  n_len := He.free_ok X G (c.fact 4 (f := .fa (.free "len")) rfl)
  n_list := He.free_ok X G (c.fact 5 (f := .fa (.free "list")) rfl)
  n_max := He.free_ok X G (c.fact 6 (f := .fa (.free "max")) rfl)
  n_min := He.free_ok X G (c.fact 7 (f := .fa (.free "min")) rfl)
  n_range := He.free_ok X G (c.fact 8 (f := .fa (.free "range")) rfl)
  n_sorted := He.free_ok X G (c.fact 9 (f := .fa (.free "sorted")) rfl)
  n_str := He.free_ok X G (c.fact 10 (f := .fa (.free "str")) rfl)
  n_tuple := He.free_ok X G (c.fact 11 (f := .fa (.free "tuple")) rfl)
  i_KINDS := He.int_ok X G (c.fact 12 (f := .fa (.int "KINDS" 5)) rfl)
  e_MazeError := excT_ok X G (c.fact 13 (f := .fa (.glo "MazeError")) rfl) (c.fact 14 (f := .fa (.exc "MazeError")) rfl)
  e_NoMaze := excT_ok X G (c.fact 15 (f := .fa (.glo "NoMaze")) rfl) (c.fact 16 (f := .fa (.exc "NoMaze")) rfl)
  e_NoRoom := excT_ok X G (c.fact 17 (f := .fa (.glo "NoRoom")) rfl) (c.fact 18 (f := .fa (.exc "NoRoom")) rfl)
  e_NoKey := excT_ok X G (c.fact 19 (f := .fa (.glo "NoKey")) rfl) (c.fact 20 (f := .fa (.exc "NoKey")) rfl)
  e_TooMany := excT_ok X G (c.fact 21 (f := .fa (.glo "TooMany")) rfl) (c.fact 22 (f := .fa (.exc "TooMany")) rfl)
  e_NoDoor := excT_ok X G (c.fact 23 (f := .fa (.glo "NoDoor")) rfl) (c.fact 24 (f := .fa (.exc "NoDoor")) rfl)
  e_Shut := excT_ok X G (c.fact 25 (f := .fa (.glo "Shut")) rfl) (c.fact 26 (f := .fa (.exc "Shut")) rfl)
  x_NoRoom := excC_ok (c.fact 27 (f := .excC "NoRoom") rfl)
  m_NoRoom_MazeError := He.exm_ok (c.fact 28 (f := .fa (.exm "NoRoom" "MazeError" true)) rfl)
  k_NoRoom_MazeError := of_decide_eq_true (c.fact 29 (f := .kit "NoRoom" "MazeError" true) rfl)
  m_NoRoom_NoMaze := He.exm_ok (c.fact 30 (f := .fa (.exm "NoRoom" "NoMaze" false)) rfl)
  k_NoRoom_NoMaze := of_decide_eq_true (c.fact 31 (f := .kit "NoRoom" "NoMaze" false) rfl)
  m_NoRoom_NoRoom := He.exm_ok (c.fact 32 (f := .fa (.exm "NoRoom" "NoRoom" true)) rfl)
  k_NoRoom_NoRoom := of_decide_eq_true (c.fact 33 (f := .kit "NoRoom" "NoRoom" true) rfl)
  m_NoRoom_NoKey := He.exm_ok (c.fact 34 (f := .fa (.exm "NoRoom" "NoKey" false)) rfl)
  k_NoRoom_NoKey := of_decide_eq_true (c.fact 35 (f := .kit "NoRoom" "NoKey" false) rfl)
  m_NoRoom_TooMany := He.exm_ok (c.fact 36 (f := .fa (.exm "NoRoom" "TooMany" false)) rfl)
  k_NoRoom_TooMany := of_decide_eq_true (c.fact 37 (f := .kit "NoRoom" "TooMany" false) rfl)
  m_NoRoom_NoDoor := He.exm_ok (c.fact 38 (f := .fa (.exm "NoRoom" "NoDoor" false)) rfl)
  k_NoRoom_NoDoor := of_decide_eq_true (c.fact 39 (f := .kit "NoRoom" "NoDoor" false) rfl)
  m_NoRoom_Shut := He.exm_ok (c.fact 40 (f := .fa (.exm "NoRoom" "Shut" false)) rfl)
  k_NoRoom_Shut := of_decide_eq_true (c.fact 41 (f := .kit "NoRoom" "Shut" false) rfl)
  k_NoRoom_ValueError := of_decide_eq_true (c.fact 42 (f := .kitT "NoRoom" "ValueError" true) rfl)
  x_NoDoor := excC_ok (c.fact 43 (f := .excC "NoDoor") rfl)
  m_NoDoor_MazeError := He.exm_ok (c.fact 44 (f := .fa (.exm "NoDoor" "MazeError" true)) rfl)
  k_NoDoor_MazeError := of_decide_eq_true (c.fact 45 (f := .kit "NoDoor" "MazeError" true) rfl)
  m_NoDoor_NoMaze := He.exm_ok (c.fact 46 (f := .fa (.exm "NoDoor" "NoMaze" false)) rfl)
  k_NoDoor_NoMaze := of_decide_eq_true (c.fact 47 (f := .kit "NoDoor" "NoMaze" false) rfl)
  m_NoDoor_NoRoom := He.exm_ok (c.fact 48 (f := .fa (.exm "NoDoor" "NoRoom" false)) rfl)
  k_NoDoor_NoRoom := of_decide_eq_true (c.fact 49 (f := .kit "NoDoor" "NoRoom" false) rfl)
  m_NoDoor_NoKey := He.exm_ok (c.fact 50 (f := .fa (.exm "NoDoor" "NoKey" false)) rfl)
  k_NoDoor_NoKey := of_decide_eq_true (c.fact 51 (f := .kit "NoDoor" "NoKey" false) rfl)
  m_NoDoor_TooMany := He.exm_ok (c.fact 52 (f := .fa (.exm "NoDoor" "TooMany" false)) rfl)
  k_NoDoor_TooMany := of_decide_eq_true (c.fact 53 (f := .kit "NoDoor" "TooMany" false) rfl)
  m_NoDoor_NoDoor := He.exm_ok (c.fact 54 (f := .fa (.exm "NoDoor" "NoDoor" true)) rfl)
  k_NoDoor_NoDoor := of_decide_eq_true (c.fact 55 (f := .kit "NoDoor" "NoDoor" true) rfl)
  m_NoDoor_Shut := He.exm_ok (c.fact 56 (f := .fa (.exm "NoDoor" "Shut" false)) rfl)
  k_NoDoor_Shut := of_decide_eq_true (c.fact 57 (f := .kit "NoDoor" "Shut" false) rfl)
  k_NoDoor_ValueError := of_decide_eq_true (c.fact 58 (f := .kitT "NoDoor" "ValueError" true) rfl)
  x_Shut := excC_ok (c.fact 59 (f := .excC "Shut") rfl)
  m_Shut_MazeError := He.exm_ok (c.fact 60 (f := .fa (.exm "Shut" "MazeError" true)) rfl)
  k_Shut_MazeError := of_decide_eq_true (c.fact 61 (f := .kit "Shut" "MazeError" true) rfl)
  m_Shut_NoMaze := He.exm_ok (c.fact 62 (f := .fa (.exm "Shut" "NoMaze" false)) rfl)
  k_Shut_NoMaze := of_decide_eq_true (c.fact 63 (f := .kit "Shut" "NoMaze" false) rfl)
  m_Shut_NoRoom := He.exm_ok (c.fact 64 (f := .fa (.exm "Shut" "NoRoom" false)) rfl)
  k_Shut_NoRoom := of_decide_eq_true (c.fact 65 (f := .kit "Shut" "NoRoom" false) rfl)
  m_Shut_NoKey := He.exm_ok (c.fact 66 (f := .fa (.exm "Shut" "NoKey" false)) rfl)
  k_Shut_NoKey := of_decide_eq_true (c.fact 67 (f := .kit "Shut" "NoKey" false) rfl)
  m_Shut_TooMany := He.exm_ok (c.fact 68 (f := .fa (.exm "Shut" "TooMany" false)) rfl)
  k_Shut_TooMany := of_decide_eq_true (c.fact 69 (f := .kit "Shut" "TooMany" false) rfl)
  m_Shut_NoDoor := He.exm_ok (c.fact 70 (f := .fa (.exm "Shut" "NoDoor" false)) rfl)
  k_Shut_NoDoor := of_decide_eq_true (c.fact 71 (f := .kit "Shut" "NoDoor" false) rfl)
  m_Shut_Shut := He.exm_ok (c.fact 72 (f := .fa (.exm "Shut" "Shut" true)) rfl)
  k_Shut_Shut := of_decide_eq_true (c.fact 73 (f := .kit "Shut" "Shut" true) rfl)
  k_Shut_ValueError := of_decide_eq_true (c.fact 74 (f := .kitT "Shut" "ValueError" true) rfl)
  d_need_room := c.dfn X G 0 75 rfl rfl fun _ _ _ _ _ _ us hl => match us, hl with | [_, _], _ => rfl
  d_taken := c.dfn X G 1 76 rfl rfl fun _ _ _ _ _ _ us hl => match us, hl with | [_, _, _], _ => rfl
  d_opens := c.dfn X G 2 77 rfl rfl fun _ _ _ _ _ _ us hl => match us, hl with | [_, _], _ => rfl
  d_joins := c.dfn X G 3 78 rfl rfl fun _ _ _ _ _ _ us hl => match us, hl with | [_, _, _], _ => rfl
  d_passed := c.dfn X G 4 79 rfl rfl fun _ _ _ _ _ _ us hl => match us, hl with | [_, _, _, _], _ => rfl
  d_walked := c.dfn X G 5 80 rfl rfl fun _ _ _ _ _ _ us hl => match us, hl with | [_, _], _ => rfl
  d_l_mix := c.dfn X G 6 81 rfl rfl fun _ _ _ _ _ _ us hl => match us, hl with | [_, _], _ => rfl
  d_l_whole := c.dfn X G 7 82 rfl rfl fun _ _ _ _ _ _ us hl => match us, hl with | [_], _ => rfl
  d_l_cell_at := c.dfn X G 8 83 rfl rfl fun _ _ _ _ _ _ us hl => match us, hl with | [_, _], _ => rfl
  d_l_size := c.dfn X G 9 84 rfl rfl fun _ _ _ _ _ _ us hl => match us, hl with | [_], _ => rfl
  d_l_lock := c.dfn X G 10 85 rfl rfl fun _ _ _ _ _ _ us hl => match us, hl with | [_], _ => rfl
  d_l_rank := c.dfn X G 11 86 rfl rfl fun _ _ _ _ _ _ us hl => match us, hl with | [_, _], _ => rfl
  d_l_ranks := c.dfn X G 12 87 rfl rfl fun _ _ _ _ _ _ us hl => match us, hl with | [_, _], _ => rfl
  d_l_many := c.dfn X G 13 88 rfl rfl fun _ _ _ _ _ _ us hl => match us, hl with | [_, _], _ => rfl
  d_l_mixed := c.dfn X G 14 89 rfl rfl fun _ _ _ _ _ _ us hl => match us, hl with | [_, _], _ => rfl
  d_l_built := c.dfn X G 15 90 rfl rfl fun _ _ _ _ _ _ us hl => match us, hl with | [_, _], _ => rfl
  d_l_doors := c.dfn X G 16 91 rfl rfl fun _ _ _ _ _ _ us hl => match us, hl with | [_, _], _ => rfl
  d_l_lying := c.dfn X G 17 92 rfl rfl fun _ _ _ _ _ _ us hl => match us, hl with | [_, _], _ => rfl
  d_l_taken := c.dfn X G 18 93 rfl rfl fun _ _ _ _ _ _ us hl => match us, hl with | [_, _, _], _ => rfl
  d_l_steps := c.dfn X G 19 94 rfl rfl fun _ _ _ _ _ _ us hl => match us, hl with | [_, _, _, _], _ => rfl
  d_l_hand := c.dfn X G 20 95 rfl rfl fun _ _ _ _ _ _ us hl => match us, hl with | [_, _], _ => rfl
  d_l_walk := c.dfn X G 21 96 rfl rfl fun _ _ _ _ _ _ us hl => match us, hl with | [_, _, _], _ => rfl
  d_l_due := c.dfn X G 22 97 rfl rfl fun _ _ _ _ _ _ us hl => match us, hl with | [_, _, _, _], _ => rfl
  d_l_told := c.dfn X G 23 98 rfl rfl fun _ _ _ _ _ _ us hl => match us, hl with | [_, _], _ => rfl
  d_l_refused := c.dfn X G 24 99 rfl rfl fun _ _ _ _ _ _ us hl => match us, hl with | [_, _], _ => rfl
  d_law := c.dfn X G 25 100 rfl rfl fun _ _ _ _ _ _ us hl => match us, hl with | [_], _ => rfl
end
abbrev Rrow : PySem.W.OpenRow := PySem.W.OpenLaw.row PySem.Challenge.rw_mazeguide_k04_a_walk_walked
abbrev hkL : PySem.W.Hook := hookX 4 faL fnL
def looseL : List Str := (["need_room", "taken", "opens", "joins", "passed", "walked", "_law_mix", "_law_whole", "_law_cell_at", "_law_size", "_law_lock", "_law_rank", "_law_ranks", "_law_many", "_law_mixed", "_law_built", "_law_doors", "_law_lying", "_law_taken", "_law_steps", "_law_hand", "_law_walk", "_law_due", "_law_told", "_law_refused", "MazeError", "NoMaze", "NoRoom", "NoKey", "TooMany"] : List Str) ++ (["NoDoor", "Shut", "KINDS"] : List Str)
def obL (s : PySem.W.SharedT) : He.AlD := obsXG 4 faL fnL (HandSHeadRun.getT s)
theorem obL_eq (s : PySem.W.SharedT) : obL s = hkL.obs s.abs := obsXG_eq (HandSHeadRun.getT_eq s)
theorem runL (w : World) : HandSHeadRun.RunEq Rrow (PySem.W.view Rrow.prog [37]) hkL obL 6000 looseL w := by
  intro os
  kernel_rfl
theorem law_fn {P : Program} {w : World} {K : PySem.W.Frag} {h : Heap} {mg : Str → Option Value} {f : Addr} (X : K.In h) (G : h.Ns mainGlobals mg) (hfa : mg ("law" : Str) = some (.ref f)) (c : SaysX faL fnL K) :
    ∃ fd : FuncData, (∀ (s : Shared) (v : Value), BindsTo s fd ⟨[v], []⟩ [("_law_script", v)]) ∧ ∀ base : Heap, K.In base → base.Ns mainGlobals mg → FnOk P w K mg base CX0 6 f fd ["_law_script"] (sp_law K) := by
  have T : Txt K mg := txt_of X G c
  obtain ⟨fd, F⟩ := c.def_ 25 (d := ⟨("law", none), "law", "law", defArgs s_law, defBody s_law, defScope s_law, [], []⟩) rfl
  have e := hfa.symm.trans T.d_law.1
  cases e
  have b := FunD.bindsA (ps := ["_law_script"]) F fun _ _ _ _ _ _ us hl => match us, hl with | [_], _ => rfl
  exact ⟨fd, fun s v => b s [v] rfl, fun base _ _ => ok_law T F⟩
end Mz
open PySem PySem.W PySem.Calls PyProof.Rows
theorem PySem.Challenge.cw_mazeguide_k04_a_walk_walked_holds : PySem.Challenge.rw_mazeguide_k04_a_walk_walked.Holds := by
  w_on; o_law
  refine HandSHeadRun.head_any (r := OpenLaw.row PySem.Challenge.rw_mazeguide_k04_a_walk_walked) (q := view (OpenLaw.row PySem.Challenge.rw_mazeguide_k04_a_walk_walked).prog [37]) (H := Mz.hkL) (ob := Mz.obL) (M := 6000) (loose := Mz.looseL) (d := HandSHeadRun.topDef (OpenLaw.row PySem.Challenge.rw_mazeguide_k04_a_walk_walked).prog 37) (kwd := []) Mz.obL_eq
    (by kernel_rfl) (fun s => by kernel_rfl) Mz.runL (by kernel_rfl) (by kernel_rfl) (by kernel_rfl) (by rfl) (by first | assumption | decide +kernel) (by decide +kernel) ⟨rfl, rfl, rfl, rfl, rfl, by decide +kernel⟩ ?hw ?hc
  case hw => w_witness2
  case hc =>
    refine L2.walk_ofE (l := PySem.Challenge.rw_mazeguide_k04_a_walk_walked) (n := 63) (k := 6) (x := "_law_script") (CX := L2.CX0) rfl (by decide) (by kernel_rfl) ⟨rfl, by decide, by decide⟩ ?F (fun _ _ _ _ z => z)
    intro w mg fa h Y G hmg0
    obtain ⟨K, KX, c⟩ := Y
    have hmg : mg ("law" : PySem.Str) = some (.ref fa) := by
      have e : (HandSHeadRun.topDef (OpenLaw.row PySem.Challenge.rw_mazeguide_k04_a_walk_walked).prog 37).name = ("law" : PySem.Str) := by kernel_rfl
      rw [← e]
      exact hmg0
    obtain ⟨fd, hb, hF⟩ := Mz.law_fn (P := (PySem.Challenge.rw_mazeguide_k04_a_walk_walked).prog) (w := w) KX G hmg c
    exact ⟨K, fd, Mz.sp_law K, KX, hb, fun H a ns hl _ hS => ⟨a, ns, rfl, hS, hl, fun _ => rfl⟩, hF⟩
