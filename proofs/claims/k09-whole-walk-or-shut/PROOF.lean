import PyProof.Rows.All
import Wide.All
import OpenK.AllK
import Wide.FinOn
import PyProof.EqAt
import PyProof.EqKinds
import PyProof.TupleCall
import KE.KStateDown
import KE.KDictKeyed
import KE.KDictDisplayH
import KE.SortData
import KE.DataMinMax
import HandS.SortKw
import HandS.ForMost
import HandS.ForExc
import HandS.Deep
import HandS.Walk
import HandS.TupLen
import HandS.FStr
import HandS.Conv
import HandS.TupAny
import HandS.IsInst
import HandS.ExcIs
import HandS.TryMany
import HandS.Defaults
import HandS.Head0
import HandS.Head1
import HandS.Head2
import HandS.HeadEnd
import HandS.HeadHook1
import HandS.HeadHook2
import HandS.Evl
import HandS.Text
import Lean
import PySem.Challenge.RW_mazeguide_k09_whole_walk_or_shut
set_option Elab.async false
set_option linter.all false
set_option maxRecDepth 100000
set_option maxHeartbeats 4000000
namespace Mz
open PySem PySem.Spec PyProof.Rows L2

/-! ### a def that keeps its promise -/
/-- the def of the text at the module's name x -/
def Dfn (K : PySem.W.Frag) (mg : Str → Option Value) (x : Str) (st : Stmt) (ps : List Str) : Prop :=
  mg x = some (.ref (He.ga K x)) ∧ ∃ fd, FunD K x x (defArgs st) (defBody st) (defScope st) [] [] (He.ga K x) fd ∧ Binds K fd ps []
def Kept (P : Program) (w : World) (K : PySem.W.Frag) (mg : Str → Option Value) (base : Heap) (k : Nat) (x : Str) (ps : List Str) (sp : Sp) : Prop :=
  ∃ f fd, FnOk P w K mg base (L2.CX P w) k f fd ps sp ∧ mg x = some (.ref f) ∧ PySem.W.keepIn K (.ref f) = true ∧ Binds K fd ps []
section
variable {P : Program} {w : World} {K : PySem.W.Frag} {mg : Str → Option Value} {base : Heap}
theorem Dfn.kept {x : Str} {st : Stmt} {N ps : List Str} {k : Nat} {sp : Sp} (D : Dfn K mg x st ps) (S : FnScope N ps (defScope st)) (len : ∀ vs H Q E, sp vs H Q E → vs.length = ps.length)
    (hbody : ∀ (cdv : Value) (A : Around) (outer : List Env) (s : Shared) (H : Hp) (vs : List V) (Q : VK) (E : XK), Room k (A.deeper (envOfC x (defScope st) s.heap.objs.size (He.ga K x) cdv)) → sp vs H Q E →
      ∃ t, PSs (cxOf (L2.CX P w) P w K mg base N x (defScope st) (He.ga K x) cdv A outer s H E) (defBody st) t ∧ t { nx := fun _ H' => Q .non H', rt := Q } (start N vs) H) :
    Kept P w K mg base (k + 1) x ps sp := by
  obtain ⟨g, fd, F, b⟩ := D
  exact ⟨_, fd, F.ok S len hbody, g, F.kp, b⟩
end
section
variable {X : Cx} {k : Nat} {x : Str} {ps : List Str} {sp : Sp} {p pos : Pos} {e : Expr} {es : List Expr} {t : TA}
theorem pe_fn {E : XK} (F : Kept X.prog X.w X.K X.mg X.base k x ps sp) (hr : Room k X.A) (hx : Passes (L2.CX X.prog X.w) X E) (hg : Gl X x) (ha : PA X (e :: es) t)
    (hdb : (x == ("__debug__" : Str)) = false := by decide) (he : starEach (e :: es) X.env = (false, eval e X.env) :: starEach es X.env := by rfl) (hpl : (backTo pos (starEach es X.env)).any (·.1) = false := by rfl) :
    PE X (.Call (.Name x p) (e :: es) [] pos) (tCall sp [] E t) := by
  obtain ⟨f, fd, G, g, kp, b⟩ := F
  exact pe_call G hr hg g kp b .nil hx ha hdb he hpl
theorem pe_fnS {E : L2.St → XK} (F : Kept X.prog X.w X.K X.mg X.base k x ps sp) (hr : Room k X.A) (hx : ∀ st, PassesAt (L2.CX X.prog X.w) X st (E st)) (ha : PA X (e :: es) t) (hg : Gl X x := by rfl)
    (hdb : (x == ("__debug__" : Str)) = false := by decide) (he : starEach (e :: es) X.env = (false, eval e X.env) :: starEach es X.env := by rfl) (hpl : (backTo pos (starEach es X.env)).any (·.1) = false := by rfl) :
    PE X (.Call (.Name x p) (e :: es) [] pos) (tCallS sp E t) := by
  obtain ⟨f, fd, G, g, kp, b⟩ := F
  exact pe_callS G hr hg g kp b hx ha hdb he hpl
theorem passR {E : XK} (tk : L2.Takes X (fun cls d _ H => E cls d H)) : Passes (L2.CX X.prog X.w) X E := passes_call tk fun _ _ _ _ h => h
theorem takes0x : L2.Takes X (fun _ _ _ _ => False) := takes0
theorem pe_gint {i : Int} (h : ∃ tk, X.mg x = some (.int i tk)) (hg : Gl X x) (hd : (x == ("__debug__" : Str)) = false := by decide) : PE X (.Name x p) (tC (.int i)) := by
  obtain ⟨tk, h⟩ := h
  exact pe_glob hg h ⟨tk, rfl⟩ hd
theorem pe_gstr {z : Str} (h : ∃ tk, X.mg x = some (.str z tk)) (hg : Gl X x) (hd : (x == ("__debug__" : Str)) = false := by decide) : PE X (.Name x p) (tC (.str z)) := by
  obtain ⟨tk, h⟩ := h
  exact pe_glob hg h ⟨tk, rfl⟩ hd
theorem pe_gref {a : Addr} (h : X.mg x = some (.ref a)) (hg : Gl X x) (hd : (x == ("__debug__" : Str)) = false := by decide) : PE X (.Name x p) (tC (.ref a)) := pe_glob hg h rfl hd
end
theorem u65 {k : Nat} {A : Around} (hr : Room k A) : A.units + 65 < cLine := by have := hr.un; omega

/-! ### exception classes of the text -/
structure ExcT (K : PySem.W.Frag) (mg : Str → Option Value) (x : Str) : Prop where
  gC : mg x = some (.ref (He.ga K x))
  xC : PySem.W.excIn K (He.ga K x) [.type "ValueError", .type "Exception", .type "BaseException", .type "object"] "ValueError.__new__" = true
  kC : PySem.W.keepIn K (.ref (He.ga K x)) = true
  bC : PySem.W.subIn K (.ref (He.ga K x)) (.type "BaseException") = some true
  tC : PySem.W.typeIn K (.ref (He.ga K x)) = some (.type "type")
/-! ### the head's facts -/
inductive Fx where
  | fa (f : He.Fa)
  | excC (x : Str)
  | kit (x y : Str) (b : Bool)
  | kitT (x : Str) (n : String) (b : Bool)
def Fx.ok (K : PySem.W.Frag) : Fx → Bool
  | .fa f => f.ok K
  | .excC x => He.eqO (PySem.W.findIn K (.ref (He.ga K x)) "__getattribute__") (some (some (.builtin "BaseException.__getattribute__"))) && (He.eqO (PySem.W.findIn K (.ref (He.ga K x)) "__getattr__") (some none) && (decide (PySem.W.subIn K (.ref (He.ga K x)) (.type "BaseException") = some true) &&
      (PySem.W.hasDictIn K (He.ga K x) && (He.eqO (PySem.W.findIn K (.ref (He.ga K x)) "__class__") (some (some (.builtin "object.__class__"))) && (He.eqO (PySem.W.specialIn K (.builtin "object.__class__") "__get__") (some (some (.builtin "getset_descriptor.__get__"))) &&
        (decide (PySem.W.takesIn K (.builtin "object.__class__") = some true) && decide (PySem.W.mroIn K (He.ga K x) (.type "object") = some true)))))))
  | .kit x y b => decide (PySem.W.kitOne K (.ref (He.ga K x)) (.ref (He.ga K y)) = some b)
  | .kitT x n b => decide (PySem.W.kitOne K (.ref (He.ga K x)) (.type n) = some b)
theorem excC_ok {K : PySem.W.Frag} {x : Str} (c : (Fx.excC x).ok K = true) : ExcC K (He.ga K x) := by
  obtain ⟨h1, c⟩ := He.ba c
  obtain ⟨h2, c⟩ := He.ba c
  obtain ⟨h3, c⟩ := He.ba c
  obtain ⟨h4, c⟩ := He.ba c
  obtain ⟨h5, c⟩ := He.ba c
  obtain ⟨h6, c⟩ := He.ba c
  obtain ⟨h7, h8⟩ := He.ba c
  exact ⟨He.eqO_ok h1, He.eqO_ok h2, of_decide_eq_true h3, h4, He.eqO_ok h5, He.eqO_ok h6, of_decide_eq_true h7, of_decide_eq_true h8⟩
theorem excT_ok {K : PySem.W.Frag} {h : Heap} {mg : Str → Option Value} (X : K.In h) (G : h.Ns mainGlobals mg) {x : Str} (g : (He.Fa.glo x).ok K = true) (c : (He.Fa.exc x).ok K = true) : ExcT K mg x := by
  obtain ⟨h1, h2, h3, h4⟩ := He.exc_ok c
  exact ⟨He.glo_ok X G g, h1, h2, h3, h4⟩
def obsX (fa : List Fx) (fn : List He.DefD) (K : PySem.W.Frag) : He.AlD := ((fa.all fun f => f.ok K) && fn.all fun d => d.ok K, fn.map fun d => He.fnW K d.at_)
def SaysX (fa : List Fx) (fn : List He.DefD) (K : PySem.W.Frag) : Prop := obsX fa fn K = He.valD fn
def obsXG (n : Nat) (fa : List Fx) (fn : List He.DefD) (g : Addr → Option Obj) : He.AlD := obsX fa fn (He.frG g (He.asD g n))
def hookX (n : Nat) (fa : List Fx) (fn : List He.DefD) : PySem.W.Hook where
  α := He.AlD
  obs := fun s => obsXG n fa fn s.heap.get?
  val := fun _ => He.valD fn
  says := fun _ h => ∃ K : PySem.W.Frag, K.In h ∧ SaysX fa fn K
  of := fun _ _ e => ⟨_, He.frG_in, e⟩
  keeps := fun _ _ _ ⟨K, hK, c⟩ k => ⟨K, PySem.W.Frag.In.keeps hK k, c⟩
theorem obsXG_eq {n : Nat} {fa : List Fx} {fn : List He.DefD} {g : Addr → Option Obj} {s : Shared} (h : ∀ a, g a = s.heap.get? a) : obsXG n fa fn g = (hookX n fa fn).obs s := by
  have e : g = s.heap.get? := funext h
  rw [e]
  rfl
section
variable {fa : List Fx} {fn : List He.DefD} {K : PySem.W.Frag}
theorem SaysX.fact (c : SaysX fa fn K) (i : Nat) {f : Fx} (h : fa[i]? = some f := by rfl) : f.ok K = true := by
  have e : ((fa.all fun f => f.ok K) && fn.all fun d => d.ok K) = true := congrArg Prod.fst c
  have e1 := (He.ba e).1
  exact List.all_eq_true.mp e1 f (List.mem_of_getElem? h)
theorem SaysX.def_ (c : SaysX fa fn K) (i : Nat) {d : He.DefD} (h : fn[i]? = some d := by rfl) : ∃ fd, FunD K d.name d.qual d.params d.body d.scope (d.dvs K) (d.kws K) (He.fAd K d.at_) fd := by
  have e : ((fa.all fun f => f.ok K) && fn.all fun d => d.ok K) = true := congrArg Prod.fst c
  have e2 := List.all_eq_true.mp (He.ba e).2 d (List.mem_of_getElem? h)
  have e3 : (fn.map fun d => He.fnW K d.at_) = fn.map He.DefD.val := congrArg Prod.snd c
  have e4 : He.fnW K d.at_ = d.val := by
    have q := congrArg (fun l => l[i]?) e3
    simp only [List.getElem?_map, h, Option.map_some, Option.some.injEq] at q
    exact q
  exact He.DefD.funD e4 e2
theorem SaysX.dfn {mg : Str → Option Value} {h : Heap} (X : K.In h) (G : h.Ns mainGlobals mg) (c : SaysX fa fn K) {x : Str} {st : Stmt} {ps : List Str} (i j : Nat) (hd : fn[i]? = some ⟨(x, none), x, x, defArgs st, defBody st, defScope st, [], []⟩) (hj : fa[j]? = some (.fa (.glo x)))
    (hb : ∀ (kV doc pm : Value) (an : Option Addr) (cdv ct : Value) (us : List Value), us.length = ps.length → bindArgs (PySem.W.fnOf x x (defArgs st) (defBody st) (defScope st) .none kV doc pm an cdv ct) ⟨us, []⟩ = pure (ps.zip us)) : Dfn K mg x st ps := by
  obtain ⟨fd, F⟩ := c.def_ i hd
  exact ⟨He.glo_ok X G (c.fact j hj), fd, F, FunD.bindsN F hb⟩
end
/-- the law's end -/
theorem cx_end {P : Program} {w : World} (H : Hp) (s : Shared) (e : Value) (s' : Shared) (h : L2.CX P w [] H s (fun _ _ _ => False) e s') : False := by
  obtain ⟨_, _, _, _, _, _, _, _, _, _, _, _, z⟩ := h
  exact z
/-! ### a suite whose exception is of a class of the text -/
theorem pss_exc {X : Cx} {sts : List Stmt} {K : PySem.W.Frag} {cls : Value} {dd : Option Addr} {oe : Obj} {t : Addr → TS} (hz : Zc cls dd oe) (h : ∀ D, ExcC K D → Zc (.ref D) none oe → PSs X sts (t D)) :
    PSs X sts (fun Dn st H => ∃ D, (cls = .ref D ∧ dd = none ∧ ExcC K D) ∧ t D Dn st H) := ⟨fun pins s st H Dn I q => by
  obtain ⟨D, ⟨rfl, rfl, hx⟩, q⟩ := q
  exact (h D hx hz).run pins s st H Dn I q⟩
/-! ### xs.count(y), flat items -/
theorem countP_eqU {y : V} : ∀ {xs : List V} {us : List Value}, Vals xs us → xs.all flatV = true → us.countP (eqU y) = xs.countP fun z => eqV z y
  | _, _, .nil, _ => rfl
  | _, _, .cons r t, f => by
    simp only [List.all_cons, Bool.and_eq_true] at f
    rw [List.countP_cons, List.countP_cons, countP_eqU t f.2, eqU_of r f.1]
def rCntF (K : PySem.W.Frag) : V → List V → Hp → VK → Prop := fun x vs H Q => ∃ (p : Addr) (xs : List V) (y : V), x = .ref p ∧ vs = [y] ∧ SqL K H p xs ∧ flatV y = true ∧ xs.all flatV = true ∧ Q (.int (xs.countP (fun z => eqV z y) : Nat)) H
theorem mt_countF {X : Cx} : MtR X "list.count" (rCntF X.K) := by
  intro pins s st H x vs v us Q I rx rxs h
  obtain ⟨p, xs, y, rfl, rfl, hs, fy, fx, q⟩ := h
  cases rx
  obtain ⟨u, rfl, ru⟩ := rxs.one
  obtain ⟨its, rv, ⟨⟨cls, dd, data, sl⟩, n, ho, hc, hdn, hd⟩, hlen⟩ := I.list hs
  simp only at hc hd
  subst hc hd
  refine call_meets PySem.F.slot_list_count ⟨_, ho, rfl⟩ PySem.F.entry_list_count (PySem.F.args_list_count_2 _ _)
    (SeqAt.list_countAt p its.toArray n dd sl u (eqU y)) ⟨ho, fun z hz => mem_eqAt ru fy rv fx z (by simpa using hz), ?_⟩
  have ec : its.toArray.toList.countP (eqU y) = xs.countP fun z => eqV z y := countP_eqU rv fx
  refine ⟨.int (xs.countP (fun z => eqV z y) : Nat), H, I.tok _, ⟨s.toks, ?_⟩, q⟩
  show Value.int ((its.toArray.toList.countP (eqU y) : Nat) : Int) s.toks = Value.int ((xs.countP (fun z => eqV z y) : Nat) : Int) s.toks
  rw [ec]
theorem mt_countF_K {X : Cx} {K : PySem.W.Frag} (h : X.K = K) : MtR X "list.count" (rCntF K) := by subst h; exact mt_countF
/-! ### the same rules, the written part named (within a comprehension) -/
section
variable {X : Cx} {K : PySem.W.Frag}
theorem ix_list_K (h : X.K = K) : IxR X (rIxL K) := by subst h; exact ix_list
theorem ix_seq_K (h : X.K = K) : IxR X (rIx K) := by subst h; exact ix_seq
theorem sl_tupA_K (h : X.K = K) : SlR X (rSlA K) := by subst h; exact sl_tupA
theorem op_catA_K (h : X.K = K) : OpR X (binaryOp .Add) (rCatA K) := by subst h; exact op_catA
theorem cr_sorted_K (h : X.K = K) : CallR X (.builtin "sorted") (rSorted K) := by subst h; exact cr_sorted
theorem pi_list_K {tg l : Expr} {tl : TE} (h : X.K = K) (hl : PE X l tl) : PI X tg l (iList K tl) := by subst h; exact pi_list hl
theorem pi_tup_K {tg l : Expr} {tl : TE} (h : X.K = K) (hl : PE X l tl) : PI X tg l (iTup K tl) := by subst h; exact pi_tup hl
theorem pg_tup_K {es : List Expr} {k : Nat} {t : TGs} {n : Nat} {pos : Pos} (hK : X.K = K) (hc : X.calm = true) (h : PGs X es t) (hn : (assignEach es X.env).length = n := by rfl) (hst : (assignEach es X.env).findIdx? (·.1) = none := by rfl) : PG X (.Tuple es k pos) (gTup K n t) := by
  subst hK; exact pg_tup hc h hn hst
theorem pe_bm0_K {o : Expr} {to : TE} {name : Str} {apos cpos : Pos} {T id : String} {r : V → List V → Hp → VK → Prop} (hK : X.K = K) (pa : PlainAttrs T) (slot : Slot T name id) (hty : typeOf (.builtin id) = pure (.type "method_descriptor")) (hm : MtR X id r) (ho : PE X o to)
    (hbase : attributeBase o name X.env (eval o X.env) = eval o X.env := by rfl) (hline : (apos.endLine == cpos.line) = true := by rfl) : PE X (.Call (.Attribute o name apos) [] [] cpos) (tBM0 K T r to) := by
  subst hK; exact pe_bm0 pa slot hty hm ho hbase hline
theorem pe_bm_K {o e : Expr} {es : List Expr} {to : TE} {t : TA} {name : Str} {apos cpos : Pos} {T id : String} {r : V → List V → Hp → VK → Prop} (hK : X.K = K) (pa : PlainAttrs T) (slot : Slot T name id) (hty : typeOf (.builtin id) = pure (.type "method_descriptor")) (hm : MtR X id r) (ho : PE X o to) (ha : PA X (e :: es) t)
    (hbase : attributeBase o name X.env (eval o X.env) = eval o X.env := by rfl)
    (hfew : ((backTo cpos (starEach (e :: es) X.env)).all (fun x => !x.1) && (backToKw cpos (keywordEach [] X.env)).all (fun x => x.1.isSome) && decide ((e :: es).length + ([] : List Keyword).length + (if ([] : List Keyword).isEmpty then 0 else 1) < 30)) = true := by rfl)
    (hline : (apos.endLine == cpos.line) = true := by rfl) (hs : starEach (e :: es) X.env = (false, eval e X.env) :: starEach es X.env := by rfl) (hplain : (backTo cpos (starEach es X.env)).any (·.1) = false := by rfl) :
    PE X (.Call (.Attribute o name apos) (e :: es) [] cpos) (tBM K T r to t) := by
  subst hK; exact pe_bm pa slot hty hm ho ha hbase hfew hline hs hplain
theorem ix_tup_K (h : X.K = K) : IxR X (rIxT K) := by subst h; exact ix_tup
theorem sl_list_K (h : X.K = K) : SlR X (rSlL K) := by subst h; exact sl_list
theorem call_len_seq_K (h : X.K = K) : CallR X (.builtin "len") (fun xs H Q => ∃ p ys, xs = [.ref p] ∧ (SqL K H p ys ∨ SqT K H p ys) ∧ Q (.int ys.length) H) := by subst h; exact call_len_seq
theorem call_list_of_K (h : X.K = K) : CallR X (.type "list") (fun xs H Q => ∃ p ys, xs = [.ref p] ∧ (SqL K H p ys ∨ SqT K H p ys) ∧ ∀ l, H l = none → Q (.ref l) (upd H l (.lst ys))) := by subst h; exact call_list_of
theorem call_tuple_of_K (h : X.K = K) : CallR X (.type "tuple") (fun xs H Q => ∃ p ys, xs = [.ref p] ∧ ((SqL K H p ys ∧ ∀ l, H l = none → Q (.ref l) (upd H l (.tup ys))) ∨ (SqT K H p ys ∧ Q (.ref p) H))) := by subst h; exact call_tuple_of
theorem call_isi_K (h : X.K = K) : CallR X (.builtin "isinstance") (rIsi K) := by subst h; exact call_isi
theorem op_eqD_K (h : X.K = K) (hu : X.A.units + 64 < cLine) : OpR X (compareOp .Eq) (rEqD K) := by subst h; exact op_eqD hu
theorem op_neD_K (h : X.K = K) (hu : X.A.units + 64 < cLine) : OpR X (compareOp .NotEq) (rNeD K) := by subst h; exact op_neD hu
theorem op_inD_K (h : X.K = K) (hu : X.A.units + 65 < cLine) : OpR X (compareOp .In) (rInD K) := by subst h; exact op_inD hu
theorem op_notInD_K (h : X.K = K) (hu : X.A.units + 65 < cLine) : OpR X (compareOp .NotIn) (rNotInD K) := by subst h; exact op_notInD hu
theorem op_in_seq_K (h : X.K = K) : OpR X (compareOp .In) (rIn K false) := by subst h; exact op_in_seq
theorem op_notIn_seq_K (h : X.K = K) : OpR X (compareOp .NotIn) (rIn K true) := by subst h; exact op_notIn_seq
end
end Mz
namespace Mz
open PySem PySem.Spec PyProof.Rows L2 Evl

/-! ### data made of tuples alone: it stays while lists change -/
mutual
inductive Td (H : Hp) : V → PyData → Prop
  | non : Td H .non .none
  | bl (b : Bool) : Td H (.bl b) (.bool b)
  | int (i : Int) : Td H (.int i) (.int i)
  | str (x : Str) : Td H (.str x) (.str x)
  | tup {a : Addr} {xs : List V} {ds : List PyData} : H a = some (.tup xs) → TdAll H xs ds → Td H (.ref a) (.tuple ds)
inductive TdAll (H : Hp) : List V → List PyData → Prop
  | nil : TdAll H [] []
  | cons {v : V} {vs : List V} {d : PyData} {ds : List PyData} : Td H v d → TdAll H vs ds → TdAll H (v :: vs) (d :: ds)
end
section
variable {K : PySem.W.Frag} {H H' : Hp}
mutual
theorem Td.keep (k : ∀ b xs, H b = some (.tup xs) → H' b = some (.tup xs)) : ∀ {d : PyData} {v : V}, Td H v d → Td H' v d
  | .none, _, .non => .non
  | .bool _, _, .bl b => .bl b
  | .int _, _, .int i => .int i
  | .str _, _, .str x => .str x
  | .tuple ds, _, .tup h r => .tup (k _ _ h) (TdAll.keep k r)
theorem TdAll.keep (k : ∀ b xs, H b = some (.tup xs) → H' b = some (.tup xs)) : ∀ {ds : List PyData} {vs : List V}, TdAll H vs ds → TdAll H' vs ds
  | [], _, .nil => .nil
  | _ :: _, _, .cons h r => .cons (Td.keep k h) (TdAll.keep k r)
end
mutual
theorem Td.dp : ∀ {d : PyData} {v : V}, Td H v d → Dp K H v d
  | .none, _, .non => .non
  | .bool _, _, .bl b => .bl b
  | .int _, _, .int i => .int i
  | .str _, _, .str x => .str x
  | .tuple ds, _, .tup h r => .tup (SqT.of h) (TdAll.dp r)
theorem TdAll.dp : ∀ {ds : List PyData} {vs : List V}, TdAll H vs ds → DpAll K H vs ds
  | [], _, .nil => .nil
  | _ :: _, _, .cons h r => .cons (Td.dp h) (TdAll.dp r)
end
mutual
theorem dp_ex (e : Ex H H') : ∀ {d : PyData} {v : V}, Dp K H v d → Dp K H' v d
  | .none, _, .non => .non
  | .bool _, _, .bl b => .bl b
  | .int _, _, .int i => .int i
  | .str _, _, .str x => .str x
  | .list ds, _, .lst h r => .lst (ex_l e h) (dpAll_ex e r)
  | .tuple ds, _, .tup h r => .tup (ex_t e h) (dpAll_ex e r)
theorem dpAll_ex (e : Ex H H') : ∀ {ds : List PyData} {vs : List V}, DpAll K H vs ds → DpAll K H' vs ds
  | [], _, .nil => .nil
  | _ :: _, _, .cons h r => .cons (dp_ex e h) (dpAll_ex e r)
end
theorem Td.ex (e : Ex H H') {d : PyData} {v : V} (h : Td H v d) : Td H' v d := Td.keep (fun b xs q => e b _ q) h
theorem TdAll.ex (e : Ex H H') {ds : List PyData} {vs : List V} (h : TdAll H vs ds) : TdAll H' vs ds := TdAll.keep (fun b xs q => e b _ q) h
theorem upd_tups {l : Addr} {xs : List V} {o : HO} (h : H l = some (.lst xs)) : ∀ b ys, H b = some (.tup ys) → upd H l o b = some (.tup ys) := fun b ys q => by
  rw [upd_ne (ne_of q h (fun z => by cases z))]
  exact q
theorem Td.upd {l : Addr} {xs : List V} {o : HO} (h : H l = some (.lst xs)) {d : PyData} {v : V} (q : Td H v d) : Td (L2.upd H l o) v d := Td.keep (upd_tups h) q
theorem TdAll.upd {l : Addr} {xs : List V} {o : HO} (h : H l = some (.lst xs)) {ds : List PyData} {vs : List V} (q : TdAll H vs ds) : TdAll (L2.upd H l o) vs ds := TdAll.keep (upd_tups h) q
theorem TdAll.append {ds es : List PyData} : ∀ {vs us : List V}, TdAll H vs ds → TdAll H us es → TdAll H (vs ++ us) (ds ++ es) := by
  induction ds with
  | nil => intro vs us h q; cases h; exact q
  | cons d r ih => intro vs us h q; cases h with | cons a b => exact .cons a (ih b q)
theorem TdAll.len {ds : List PyData} : ∀ {vs : List V}, TdAll H vs ds → vs.length = ds.length := by
  induction ds with
  | nil => intro vs h; cases h; rfl
  | cons d r ih => intro vs h; cases h with | cons a b => simp [ih b]
theorem TdAll.get {ds : List PyData} : ∀ {vs : List V} {i : Nat} {d : PyData}, TdAll H vs ds → ds[i]? = some d → ∃ v, vs[i]? = some v ∧ Td H v d := by
  induction ds with
  | nil => intro vs i d h q; simp at q
  | cons d r ih =>
    intro vs i d' h q
    cases h with
    | cons a b =>
      cases i with
      | zero => simp at q; subst q; exact ⟨_, rfl, a⟩
      | succ i => simp at q; obtain ⟨v, e, t⟩ := ih b q; exact ⟨v, by simpa using e, t⟩
theorem TdAll.getV {ds : List PyData} : ∀ {vs : List V} {i : Nat} {v : V}, TdAll H vs ds → vs[i]? = some v → ∃ d, ds[i]? = some d ∧ Td H v d := by
  induction ds with
  | nil => intro vs i d h q; cases h; simp at q
  | cons d r ih =>
    intro vs i d' h q
    cases h with
    | cons a b =>
      cases i with
      | zero => simp at q; subst q; exact ⟨_, rfl, a⟩
      | succ i => simp at q; obtain ⟨v, e, t⟩ := ih b q; exact ⟨v, by simpa using e, t⟩
theorem dpAll_len {ds : List PyData} : ∀ {vs : List V}, DpAll K H vs ds → vs.length = ds.length := by
  induction ds with
  | nil => intro vs h; cases h; rfl
  | cons d r ih => intro vs h; cases h with | cons a b => simp [ih b]
theorem dpAll_getV {ds : List PyData} : ∀ {vs : List V} {i : Nat} {v : V}, DpAll K H vs ds → vs[i]? = some v → ∃ d, ds[i]? = some d ∧ Dp K H v d := by
  induction ds with
  | nil => intro vs i d h q; cases h; simp at q
  | cons d r ih =>
    intro vs i d' h q
    cases h with
    | cons a b =>
      cases i with
      | zero => simp at q; subst q; exact ⟨_, rfl, a⟩
      | succ i => simp at q; obtain ⟨v, e, t⟩ := ih b q; exact ⟨v, by simpa using e, t⟩
theorem dpAll_get {ds : List PyData} : ∀ {vs : List V} {i : Nat} {d : PyData}, DpAll K H vs ds → ds[i]? = some d → ∃ v, vs[i]? = some v ∧ Dp K H v d := by
  induction ds with
  | nil => intro vs i d h q; simp at q
  | cons d r ih =>
    intro vs i d' h q
    cases h with
    | cons a b =>
      cases i with
      | zero => simp at q; subst q; exact ⟨_, rfl, a⟩
      | succ i => simp at q; obtain ⟨v, e, t⟩ := ih b q; exact ⟨v, by simpa using e, t⟩
theorem dpAll_append {ds es : List PyData} : ∀ {vs us : List V}, DpAll K H vs ds → DpAll K H us es → DpAll K H (vs ++ us) (ds ++ es) := by
  induction ds with
  | nil => intro vs us h q; cases h; exact q
  | cons d r ih => intro vs us h q; cases h with | cons a b => exact .cons a (ih b q)
/-- ints -/
theorem td_ints : ∀ ns : List Int, TdAll H (ns.map V.int) (ns.map PyData.int)
  | [] => .nil
  | n :: r => .cons (.int n) (td_ints r)
theorem td_int_inv {v : V} {i : Int} (h : Td H v (.int i)) : v = .int i := by cases h; rfl
theorem dp_int_inv {v : V} {i : Int} (h : Dp K H v (.int i)) : v = .int i := by cases h; rfl
theorem dpAll_ints : ∀ {ns : List Int} {vs : List V}, DpAll K H vs (ns.map PyData.int) → vs = ns.map V.int
  | [], _, .nil => rfl
  | n :: r, _, .cons h q => by rw [dp_int_inv h, dpAll_ints q]; rfl
theorem tdAll_ints : ∀ {ns : List Int} {vs : List V}, TdAll H vs (ns.map PyData.int) → vs = ns.map V.int
  | [], _, .nil => rfl
  | n :: r, _, .cons h q => by rw [td_int_inv h, tdAll_ints q]; rfl
/-- a list that stands, of such data -/
def LstT (H : Hp) (p : Addr) (ds : List PyData) : Prop := ∃ xs, H p = some (.lst xs) ∧ TdAll H xs ds
theorem LstT.ex (e : Ex H H') {p : Addr} {ds : List PyData} (h : LstT H p ds) : LstT H' p ds := by
  obtain ⟨xs, a, b⟩ := h
  exact ⟨xs, e _ _ a, b.ex e⟩
theorem LstT.dp {p : Addr} {ds : List PyData} (h : LstT H p ds) : Dp K H (.ref p) (.list ds) := by
  obtain ⟨xs, a, b⟩ := h
  exact .lst (SqL.of a) b.dp
theorem LstT.push {p : Addr} {ds : List PyData} {d : PyData} {v : V} {xs : List V} (h : H p = some (.lst xs)) (b : TdAll H xs ds) (t : Td H v d) : LstT (L2.upd H p (.lst (xs ++ [v]))) p (ds ++ [d]) :=
  ⟨_, upd_same, TdAll.append (b.upd h) (.cons (t.upd h) .nil)⟩
end

theorem at0 {ds : List PyData} {d : PyData} {j : Nat} (h : ds[j]? = some d := by rfl) : atI ds (j : Int) = some d := atI_nat h
theorem atI0 {d : PyData} {r : List PyData} : atI (d :: r) 0 = some d := at0 (j := 0)
theorem atI1 {a d : PyData} {r : List PyData} : atI (a :: d :: r) 1 = some d := at0 (j := 1)
theorem atI2 {a b d : PyData} {r : List PyData} : atI (a :: b :: d :: r) 2 = some d := at0 (j := 2)
/-! ### what evaluates to data -/
def EvP (te : TE) (σ : L2.St) (H : Hp) (P : V → Hp → Prop) : Prop := ∀ H1, Ex H H1 → ∀ Q : VK, (∀ v H2, Ex H1 H2 → P v H2 → Q v H2) → te σ H1 Q
def EaP (ta : TA) (σ : L2.St) (H : Hp) (P : List V → Hp → Prop) : Prop := ∀ H1, Ex H H1 → ∀ Q : List V → Hp → Prop, (∀ v H2, Ex H1 H2 → P v H2 → Q v H2) → ta σ H1 Q
abbrev EvD (K : PySem.W.Frag) (te : TE) (σ : L2.St) (H : Hp) (d : PyData) : Prop := EvP te σ H fun v H' => Dp K H' v d
abbrev EvTd (te : TE) (σ : L2.St) (H : Hp) (d : PyData) : Prop := EvP te σ H fun v H' => Td H' v d
abbrev EaTd (ta : TA) (σ : L2.St) (H : Hp) (ds : List PyData) : Prop := EaP ta σ H fun vs H' => TdAll H' vs ds
abbrev EaD (K : PySem.W.Frag) (ta : TA) (σ : L2.St) (H : Hp) (ds : List PyData) : Prop := EaP ta σ H fun vs H' => DpAll K H' vs ds
/-- a new list of such data -/
def EvLT (te : TE) (σ : L2.St) (H : Hp) (ds : List PyData) : Prop := ∀ H1, Ex H H1 → ∀ Q : VK, (∀ p H2, H1 p = none → Ex H1 H2 → LstT H2 p ds → Q (.ref p) H2) → te σ H1 Q
section
variable {K : PySem.W.Frag} {σ : L2.St} {H H' : Hp} {ta tb te tx : TE} {t u : TT} {x y z v : V} {r : R2} {tr : TA} {D : Ends} {tu tw tz : TS} {P P' : V → Hp → Prop} {d : PyData} {ds : List PyData}
theorem EvP.mono (e : Ex H H') (h : EvP te σ H P) : EvP te σ H' P := fun H1 e1 => h H1 (e.trans e1)
theorem EvLT.mono (e : Ex H H') (h : EvLT te σ H ds) : EvLT te σ H' ds := fun H1 e1 => h H1 (e.trans e1)
theorem EvP.imp (h : EvP te σ H P) (k : ∀ v H2, Ex H H2 → P v H2 → P' v H2) : EvP te σ H P' := fun H1 e Q q => h H1 e Q fun v H2 e2 p => q v H2 e2 (k v H2 (e.trans e2) p)
theorem ep_ev (h : Ev te σ H v) (k : ∀ H2, Ex H H2 → P v H2) : EvP te σ H P := fun H1 e Q q => h H1 e Q fun H2 e2 => q v H2 e2 (k H2 (e.trans e2))
theorem td_int {i : Int} (h : Ev te σ H (.int i)) : EvTd te σ H (.int i) := ep_ev h fun _ _ => .int i
theorem td_non (h : Ev te σ H .non) : EvTd te σ H .none := ep_ev h fun _ _ => .non
theorem td_bl {b : Bool} (h : Ev te σ H (.bl b)) : EvTd te σ H (.bool b) := ep_ev h fun _ _ => .bl b
theorem td_str {b : Str} (h : Ev te σ H (.str b)) : EvTd te σ H (.str b) := ep_ev h fun _ _ => .str b
theorem td_any (h : Ev te σ H v) (t : Td H v d) : EvTd te σ H d := ep_ev h fun _ e => t.ex e
theorem ed_any (h : Ev te σ H v) (t : Dp K H v d) : EvD K te σ H d := ep_ev h fun _ e => dp_ex e t
theorem ed_td (h : EvTd te σ H d) : EvD K te σ H d := h.imp fun _ _ _ t => t.dp
theorem ev_of_td {i : Int} (h : EvTd te σ H (.int i)) : Ev te σ H (.int i) := fun H1 e Q q => h H1 e Q fun v H2 e2 p => by rw [td_int_inv p]; exact q H2 e2
theorem ev_of_ed {i : Int} (h : EvD K te σ H (.int i)) : Ev te σ H (.int i) := fun H1 e Q q => h H1 e Q fun v H2 e2 p => by rw [dp_int_inv p]; exact q H2 e2
theorem ed_lt (h : EvLT te σ H ds) : EvD K te σ H (.list ds) := fun H1 e Q q => h H1 e Q fun p H2 _ e2 l => q _ H2 e2 l.dp
theorem ea_tn : EaTd tNil σ H [] := fun H1 e Q q => q [] H1 (Ex.refl H1) .nil
theorem ea_tc (h : EvTd te σ H d) (hr : EaTd tr σ H ds) : EaTd (tCons te tr) σ H (d :: ds) := fun H1 e Q q => h H1 e _ fun v H2 e2 p => hr H2 (e.trans e2) _ fun vs H3 e3 ps => q _ H3 (e2.trans e3) (.cons (p.ex e3) ps)
theorem ea_dn : EaD K tNil σ H [] := fun H1 e Q q => q [] H1 (Ex.refl H1) .nil
theorem ea_dc (h : EvD K te σ H d) (hr : EaD K tr σ H ds) : EaD K (tCons te tr) σ H (d :: ds) := fun H1 e Q q => h H1 e _ fun v H2 e2 p => hr H2 (e.trans e2) _ fun vs H3 e3 ps => q _ H3 (e2.trans e3) (.cons (dp_ex e3 p) ps)
theorem td_tup (h : EaTd tr σ H ds) (hl : ds.length ≤ 100000) : EvTd (tTup tr) σ H (.tuple ds) := fun H1 e Q q => h H1 e _ fun vs H2 e2 p => ⟨sz_of (by rw [p.len]; exact hl), fun a na => q _ _ (e2.trans (Ex.new na)) (.tup upd_same (p.ex (Ex.new na)))⟩
theorem ed_tup (h : EaD K tr σ H ds) (hl : ds.length ≤ 100000) : EvD K (tTup tr) σ H (.tuple ds) := fun H1 e Q q => h H1 e _ fun vs H2 e2 p => ⟨sz_of (by rw [dpAll_len p]; exact hl), fun a na => q _ _ (e2.trans (Ex.new na)) (.tup (SqT.of upd_same) (dpAll_ex (Ex.new na) p))⟩
theorem lt_lst (h : EaTd tr σ H ds) (hl : ds.length ≤ 100000) : EvLT (tLst tr) σ H ds := fun H1 e Q q => h H1 e _ fun vs H2 e2 p => ⟨sz_of (by rw [p.len]; exact hl), fun a na => q _ _ (fresh_back e2 na) (e2.trans (Ex.new na)) ⟨vs, upd_same, p.ex (Ex.new na)⟩⟩
theorem ed_lst (h : EaD K tr σ H ds) (hl : ds.length ≤ 100000) : EvD K (tLst tr) σ H (.list ds) := fun H1 e Q q => h H1 e _ fun vs H2 e2 p => ⟨sz_of (by rw [dpAll_len p]; exact hl), fun a na => q _ _ (e2.trans (Ex.new na)) (.lst (SqL.of upd_same) (dpAll_ex (Ex.new na) p))⟩
/-! ### items -/
theorem td_ixT {i : Int} (ha : EvTd ta σ H (.tuple ds)) (hb : Ev tb σ H (.int i)) (h : atI ds i = some d) : EvTd (tOp (rIxT K) ta tb) σ H d := fun H1 e Q q => ha H1 e _ fun v H2 e2 p => hb H2 (e.trans e2) _ fun H3 e3 => by
  cases p with
  | tup ho hd =>
    rename_i xs
    obtain ⟨j, h1, h2, h3, _⟩ := atI_get h
    obtain ⟨w, h4, h5⟩ := hd.get h2
    refine ⟨_, xs, i, w, rfl, rfl, SqT.of (e3 _ _ ho), ?_, q w H3 (e2.trans e3) (h5.ex e3)⟩
    have : atI xs i = some w := by
      unfold atI at h ⊢
      rw [hd.len]
      cases e5 : ixN ds.length i with
      | none => rw [e5] at h; cases h
      | some k =>
        have hk := (ixN_seq e5).1
        rw [hk] at h1
        cases h1
        exact h4
    exact this
theorem ed_ixT {i : Int} (ha : EvD K ta σ H (.tuple ds)) (hb : Ev tb σ H (.int i)) (h : atI ds i = some d) : EvD K (tOp (rIxT K) ta tb) σ H d := fun H1 e Q q => ha H1 e _ fun v H2 e2 p => hb H2 (e.trans e2) _ fun H3 e3 => by
  cases p with
  | tup ho hd =>
    rename_i xs
    obtain ⟨j, h1, h2, h3, _⟩ := atI_get h
    obtain ⟨w, h4, h5⟩ := dpAll_get hd h2
    refine ⟨_, xs, i, w, rfl, rfl, ex_t e3 ho, ?_, q w H3 (e2.trans e3) (dp_ex e3 h5)⟩
    have : atI xs i = some w := by
      unfold atI at h ⊢
      rw [dpAll_len hd]
      cases e5 : ixN ds.length i with
      | none => rw [e5] at h; cases h
      | some k =>
        have hk := (ixN_seq e5).1
        rw [hk] at h1
        cases h1
        exact h4
    exact this
theorem ed_ixL {i : Int} (ha : EvD K ta σ H (.list ds)) (hb : Ev tb σ H (.int i)) (h : atI ds i = some d) : EvD K (tOp (rIxL K) ta tb) σ H d := fun H1 e Q q => ha H1 e _ fun v H2 e2 p => hb H2 (e.trans e2) _ fun H3 e3 => by
  cases p with
  | lst ho hd =>
    rename_i xs
    obtain ⟨j, h1, h2, h3, _⟩ := atI_get h
    obtain ⟨w, h4, h5⟩ := dpAll_get hd h2
    refine ⟨_, xs, i, w, rfl, rfl, ex_l e3 ho, ?_, q w H3 (e2.trans e3) (dp_ex e3 h5)⟩
    have : atI xs i = some w := by
      unfold atI at h ⊢
      rw [dpAll_len hd]
      cases e5 : ixN ds.length i with
      | none => rw [e5] at h; cases h
      | some k =>
        have hk := (ixN_seq e5).1
        rw [hk] at h1
        cases h1
        exact h4
    exact this
theorem td_ixL {i : Int} (ha : EvLT ta σ H ds) (hb : Ev tb σ H (.int i)) (h : atI ds i = some d) : EvTd (tOp (rIxL K) ta tb) σ H d := fun H1 e Q q => ha H1 e _ fun pp H2 _ e2 p => hb H2 (e.trans e2) _ fun H3 e3 => by
  obtain ⟨xs, ho, hd⟩ := p
  obtain ⟨j, h1, h2, h3, _⟩ := atI_get h
  obtain ⟨w, h4, h5⟩ := hd.get h2
  refine ⟨_, xs, i, w, rfl, rfl, SqL.of (e3 _ _ ho), ?_, q w H3 (e2.trans e3) (h5.ex e3)⟩
  have : atI xs i = some w := by
    unfold atI at h ⊢
    rw [hd.len]
    cases e5 : ixN ds.length i with
    | none => rw [e5] at h; cases h
    | some k =>
      have hk := (ixN_seq e5).1
      rw [hk] at h1
      cases h1
      exact h4
  exact this
/-! ### == and in, of data -/
theorem ev_eqD {e : PyData} (ha : EvD K ta σ H d) (hb : EvD K tb σ H e) (h1 : SeqAt.shaped d = true) (h2 : SeqAt.shaped e = true) : Ev (tOp (rEqD K) ta tb) σ H (.bl (PyData.eqv d e)) := fun H1 x Q q => ha H1 x _ fun v H2 x2 p => hb H2 (x.trans x2) _ fun w H3 x3 p2 => ⟨d, e, dp_ex x3 p, p2, h1, h2, q H3 (x2.trans x3)⟩
theorem ev_neD {e : PyData} (ha : EvD K ta σ H d) (hb : EvD K tb σ H e) (h1 : SeqAt.shaped d = true) (h2 : SeqAt.shaped e = true) : Ev (tOp (rNeD K) ta tb) σ H (.bl (!PyData.eqv d e)) := fun H1 x Q q => ha H1 x _ fun v H2 x2 p => hb H2 (x.trans x2) _ fun w H3 x3 p2 => ⟨d, e, dp_ex x3 p, p2, h1, h2, q H3 (x2.trans x3)⟩
theorem ev_inD {es : List PyData} (ha : EvD K ta σ H d) (hb : EvD K tb σ H (.list es)) (h1 : SeqAt.shaped d = true) (h2 : SeqAt.shaped (.list es) = true) : Ev (tOp (rInD K) ta tb) σ H (.bl (es.any fun z => PyData.eqv z d)) := fun H1 x Q q => ha H1 x _ fun v H2 x2 p => hb H2 (x.trans x2) _ fun w H3 x3 p2 => ⟨d, es, dp_ex x3 p, p2, h1, h2, q H3 (x2.trans x3)⟩
theorem ev_niD {es : List PyData} (ha : EvD K ta σ H d) (hb : EvD K tb σ H (.list es)) (h1 : SeqAt.shaped d = true) (h2 : SeqAt.shaped (.list es) = true) : Ev (tOp (rNotInD K) ta tb) σ H (.bl (!es.any fun z => PyData.eqv z d)) := fun H1 x Q q => ha H1 x _ fun v H2 x2 p => hb H2 (x.trans x2) _ fun w H3 x3 p2 => ⟨d, es, dp_ex x3 p, p2, h1, h2, q H3 (x2.trans x3)⟩
/-- an int in a tuple or list of ints -/
theorem inV_int (i : Int) : ∀ ns : List Int, inV (.int i) (ns.map V.int) = decide (i ∈ ns)
  | [] => by simp [inV]
  | n :: r => by
    have h := inV_int i r
    have e0 : inV (.int i) ((n :: r).map V.int) = ((n == i) || inV (.int i) (r.map V.int)) := rfl
    rw [e0, h]
    by_cases e : n = i
    · subst e; simp
    · have e2 : (n == i) = false := beq_false_of_ne e
      have e3 : ¬ i = n := fun z => e z.symm
      simp [e2, e3]
theorem flat_ints : ∀ ns : List Int, (ns.map V.int).all flatV = true
  | [] => rfl
  | _ :: r => by simp [flatV, flat_ints r]
theorem ev_inI {i : Int} {ns : List Int} (ha : Ev ta σ H (.int i)) (hb : EvD K tb σ H (.tuple (ns.map PyData.int)) ∨ EvD K tb σ H (.list (ns.map PyData.int))) : Ev (tOp (rIn K false) ta tb) σ H (.bl (decide (i ∈ ns))) := fun H1 x Q q => ha H1 x _ fun H2 x2 => by
  rcases hb with hb | hb
  · refine hb H2 (x.trans x2) _ fun w H3 x3 p2 => ?_
    cases p2 with
    | tup ho hd =>
      rename_i xs
      have e := dpAll_ints hd
      subst e
      refine ⟨_, _, rfl, .inr ho, rfl, flat_ints ns, ?_⟩
      show Q (.bl (inV (.int i) (ns.map V.int))) H3
      rw [inV_int]
      exact q H3 (x2.trans x3)
  · refine hb H2 (x.trans x2) _ fun w H3 x3 p2 => ?_
    cases p2 with
    | lst ho hd =>
      rename_i xs
      have e := dpAll_ints hd
      subst e
      refine ⟨_, _, rfl, .inl ho, rfl, flat_ints ns, ?_⟩
      show Q (.bl (inV (.int i) (ns.map V.int))) H3
      rw [inV_int]
      exact q H3 (x2.trans x3)
theorem ev_niI {i : Int} {ns : List Int} (ha : Ev ta σ H (.int i)) (hb : EvD K tb σ H (.tuple (ns.map PyData.int)) ∨ EvD K tb σ H (.list (ns.map PyData.int))) : Ev (tOp (rIn K true) ta tb) σ H (.bl (!decide (i ∈ ns))) := fun H1 x Q q => ha H1 x _ fun H2 x2 => by
  rcases hb with hb | hb
  · refine hb H2 (x.trans x2) _ fun w H3 x3 p2 => ?_
    cases p2 with
    | tup ho hd =>
      rename_i xs
      have e := dpAll_ints hd
      subst e
      refine ⟨_, _, rfl, .inr ho, rfl, flat_ints ns, ?_⟩
      show Q (.bl (!inV (.int i) (ns.map V.int))) H3
      rw [inV_int]
      exact q H3 (x2.trans x3)
  · refine hb H2 (x.trans x2) _ fun w H3 x3 p2 => ?_
    cases p2 with
    | lst ho hd =>
      rename_i xs
      have e := dpAll_ints hd
      subst e
      refine ⟨_, _, rfl, .inl ho, rfl, flat_ints ns, ?_⟩
      show Q (.bl (!inV (.int i) (ns.map V.int))) H3
      rw [inV_int]
      exact q H3 (x2.trans x3)
/-! ### built-ins -/
theorem ev_lenD (ha : EvD K ta σ H d) (h : d = .list ds ∨ d = .tuple ds) : Ev (tCB (fun xs H Q => ∃ p ys, xs = [.ref p] ∧ (SqL K H p ys ∨ SqT K H p ys) ∧ Q (.int ys.length) H) (tCons ta tNil)) σ H (.int (ds.length : Int)) := fun H1 x Q q => ha H1 x _ fun v H2 x2 p => by
  rcases h with rfl | rfl
  · cases p with
    | lst ho hd =>
      rename_i a xs
      refine ⟨a, xs, rfl, .inl ho, ?_⟩
      rw [dpAll_len hd]
      exact q H2 x2
  · cases p with
    | tup ho hd =>
      rename_i a xs
      refine ⟨a, xs, rfl, .inr ho, ?_⟩
      rw [dpAll_len hd]
      exact q H2 x2
theorem ev_lenS {a : Addr} {xs : List V} (ha : Ev ta σ H (.ref a)) (h : SqL K H a xs) : Ev (tCB (fun xs H Q => ∃ p ys, xs = [.ref p] ∧ (SqL K H p ys ∨ SqT K H p ys) ∧ Q (.int ys.length) H) (tCons ta tNil)) σ H (.int (xs.length : Int)) := fun H1 x Q q => ha H1 x _ fun H2 x2 => ⟨a, xs, rfl, .inl (ex_l (x.trans x2) h), q H2 x2⟩
/-- tuple(x) of data without lists -/
theorem td_tupleL (ha : EvLT ta σ H ds) : EvTd (tCB (fun xs H Q => ∃ p ys, xs = [.ref p] ∧ ((SqL K H p ys ∧ ∀ l, H l = none → Q (.ref l) (upd H l (.tup ys))) ∨ (SqT K H p ys ∧ Q (.ref p) H))) (tCons ta tNil)) σ H (.tuple ds) := fun H1 x Q q => ha H1 x _ fun p H2 _ x2 ⟨xs, ho, hd⟩ =>
  ⟨p, xs, rfl, .inl ⟨SqL.of ho, fun l hl => q _ _ (x2.trans (Ex.new hl)) (.tup upd_same (hd.ex (Ex.new hl)))⟩⟩
theorem td_tupleV {a : Addr} (ha : Ev ta σ H (.ref a)) (h : LstT H a ds) : EvTd (tCB (fun xs H Q => ∃ p ys, xs = [.ref p] ∧ ((SqL K H p ys ∧ ∀ l, H l = none → Q (.ref l) (upd H l (.tup ys))) ∨ (SqT K H p ys ∧ Q (.ref p) H))) (tCons ta tNil)) σ H (.tuple ds) := fun H1 x Q q => ha H1 x _ fun H2 x2 => by
  obtain ⟨xs, ho, hd⟩ := h.ex (x.trans x2)
  exact ⟨a, xs, rfl, .inl ⟨SqL.of ho, fun l hl => q _ _ (x2.trans (Ex.new hl)) (.tup upd_same (hd.ex (Ex.new hl)))⟩⟩
theorem lt_list {a : Addr} (ha : Ev ta σ H (.ref a)) (h : LstT H a ds) : EvLT (tCB (fun xs H Q => ∃ p ys, xs = [.ref p] ∧ (SqL K H p ys ∨ SqT K H p ys) ∧ ∀ l, H l = none → Q (.ref l) (upd H l (.lst ys))) (tCons ta tNil)) σ H ds := fun H1 x Q q => ha H1 x _ fun H2 x2 => by
  obtain ⟨xs, ho, hd⟩ := h.ex (x.trans x2)
  exact ⟨a, xs, rfl, .inl (SqL.of ho), fun l hl => q _ _ (fresh_back x2 hl) (x2.trans (Ex.new hl)) ⟨xs, upd_same, hd.ex (Ex.new hl)⟩⟩
theorem ev_abs {i : Int} (ha : Ev ta σ H (.int i)) : Ev (tCB (fun xs H Q => ∃ i, xs = [.int i] ∧ Q (.int (if i < 0 then -i else i)) H) (tCons ta tNil)) σ H (.int (if i < 0 then -i else i)) := fun H1 x Q q => ha H1 x _ fun H2 x2 => ⟨i, rfl, q H2 x2⟩
theorem ev_isN (ha : Ev ta σ H x) : Ev (tOp (fun x y H Q => y = .non ∧ Q (.bl (decide (x = .non))) H) ta (tC .non)) σ H (.bl (decide (x = .non))) := fun H1 e Q q => ha H1 e _ fun H2 e2 => ⟨rfl, q H2 e2⟩
theorem ev_notN (ha : Ev ta σ H x) : Ev (tOp (fun x y H Q => y = .non ∧ Q (.bl (!decide (x = .non))) H) ta (tC .non)) σ H (.bl (!decide (x = .non))) := fun H1 e Q q => ha H1 e _ fun H2 e2 => ⟨rfl, q H2 e2⟩
theorem rv_isN : RV (fun x y H Q => y = .non ∧ Q (.bl (decide (x = .non))) H) x .non H (.bl (decide (x = .non))) := fun H1 e Q q => ⟨rfl, q H1 (Ex.refl H1)⟩
theorem rv_notN : RV (fun x y H Q => y = .non ∧ Q (.bl (!decide (x = .non))) H) x .non H (.bl (!decide (x = .non))) := fun H1 e Q q => ⟨rfl, q H1 (Ex.refl H1)⟩
theorem rv_eqI {i j : Int} : RV rEq (.int i) (.int j) H (.bl (decide (i = j))) := fun H1 e Q q => ⟨rfl, by
  have e2 : decide (V.int i = V.int j) = decide (i = j) := by simp
  rw [e2]
  exact q H1 (Ex.refl H1)⟩
theorem rv_neI {i j : Int} : RV rNe (.int i) (.int j) H (.bl (!decide (i = j))) := fun H1 e Q q => ⟨rfl, by
  have e2 : decide (V.int i = V.int j) = decide (i = j) := by simp
  rw [e2]
  exact q H1 (Ex.refl H1)⟩
/-! ### calls -/
theorem ta_cons {Q : List V → Hp → Prop} (h : ta σ H fun x H1 => tr σ H1 fun xs H2 => Q (x :: xs) H2) : tCons ta tr σ H Q := h
theorem ep_call {sp : Sp} {dvs : List V} {E : XK} {tr : TA} {Pa : List V → Hp → Prop} (h : EaP tr σ H Pa) (hs : ∀ vs H1, Ex H H1 → Pa vs H1 → ∀ Q : VK, (∀ v H2, Ex H1 H2 → P v H2 → Q v H2) → sp (vs ++ dvs) H1 Q E) : EvP (tCall sp dvs E tr) σ H P := fun H1 e Q q => h H1 e _ fun vs H2 e2 p => hs vs H2 (e.trans e2) p Q fun v H3 e3 p3 => q v H3 (e2.trans e3) p3
theorem ev_call0 {sp : Sp} {vs : List V} {E : XK} {tr : TA} (h : EvA tr σ H vs) (hs : SpV sp vs H z) : Ev (tCall sp [] E tr) σ H z := ev_call h (by rw [List.append_nil]; exact hs)
theorem ep_call0 {sp : Sp} {E : XK} {tr : TA} {Pa : List V → Hp → Prop} (h : EaP tr σ H Pa) (hs : ∀ vs H1, Ex H H1 → Pa vs H1 → ∀ Q : VK, (∀ v H2, Ex H1 H2 → P v H2 → Q v H2) → sp vs H1 Q E) : EvP (tCall sp [] E tr) σ H P :=
  ep_call h fun vs H1 e p Q q => by rw [List.append_nil]; exact hs vs H1 e p Q q
theorem ea_ep1 (h : EvP te σ H P) : EaP (tCons te tNil) σ H (fun vs H' => ∃ v, vs = [v] ∧ P v H') := fun H1 e Q q => h H1 e _ fun v H2 e2 p => q [v] H2 e2 ⟨v, rfl, p⟩
/-! ### statements -/
theorem tif_cases {b : Bool} (h : EvT t σ H b) (h1 : b = true → ∀ H1, Ex H H1 → tu D σ H1) (h2 : b = false → ∀ H1, Ex H H1 → tw D σ H1) : tIfS t tu tw D σ H := s_if h h1 h2
theorem s_asgP {i : Nat} (h : EvP te σ H P) (k : ∀ v H1, Ex H H1 → P v H1 → D.nx (σ.set i (some v)) H1) : tAsg te (gName i) D σ H := h H (Ex.refl H) _ fun v H1 e p => k v H1 e p
theorem q_asgP {i : Nat} (h : EvP te σ H P) (k : ∀ v H1, Ex H H1 → P v H1 → tz D (σ.set i (some v)) H1) : tSeq (tAsg te (gName i)) tz D σ H := h H (Ex.refl H) _ fun v H1 e p => k v H1 e p
theorem s_asgLT {i : Nat} (h : EvLT te σ H ds) (k : ∀ p H1, H p = none → Ex H H1 → LstT H1 p ds → D.nx (σ.set i (some (.ref p))) H1) : tAsg te (gName i) D σ H := h H (Ex.refl H) _ fun v H1 n e p => k v H1 n e p
theorem q_asgLT {i : Nat} (h : EvLT te σ H ds) (k : ∀ p H1, H p = none → Ex H H1 → LstT H1 p ds → tz D (σ.set i (some (.ref p))) H1) : tSeq (tAsg te (gName i)) tz D σ H := h H (Ex.refl H) _ fun v H1 n e p => k v H1 n e p
theorem s_retP (h : EvP te σ H P) (k : ∀ v H1, Ex H H1 → P v H1 → D.rt v H1) : tRet te D σ H := h H (Ex.refl H) _ fun v H1 e p => k v H1 e p
theorem s_retLT (h : EvLT te σ H ds) (k : ∀ p H1, H p = none → Ex H H1 → LstT H1 p ds → D.rt (.ref p) H1) : tRet te D σ H := h H (Ex.refl H) _ fun v H1 n e p => k v H1 n e p
theorem s_appT {l : Addr} (hl : LstT H l ds) (ha : Ev ta σ H (.ref l)) (h : EvTd te σ H d) (hz : ds.length < 100000) (k : ∀ H1 xs v, Ex H H1 → H1 l = some (.lst xs) → LstT (upd H1 l (.lst (xs ++ [v]))) l (ds ++ [d]) → D.nx σ (upd H1 l (.lst (xs ++ [v])))) :
    tDrop (tBM K "list" rAppend ta (tCons te tNil)) D σ H := by
  obtain ⟨xs, ho, hd⟩ := hl
  refine ha H (Ex.refl H) _ fun H1 e1 => ⟨Or.inl ⟨rfl, xs, sq_of (e1 l _ ho)⟩, h H1 e1 _ fun v H2 e2 p => ⟨l, xs, v, rfl, rfl, e2 l _ (e1 l _ ho), sz_lt (by rw [hd.len]; exact hz), ?_⟩⟩
  exact k H2 xs v (e1.trans e2) (e2 l _ (e1 l _ ho)) (LstT.push (e2 l _ (e1 l _ ho)) (hd.ex (e1.trans e2)) p)
theorem q_appT {l : Addr} (hl : LstT H l ds) (ha : Ev ta σ H (.ref l)) (h : EvTd te σ H d) (hz : ds.length < 100000) (k : ∀ H1 xs v, Ex H H1 → H1 l = some (.lst xs) → LstT (upd H1 l (.lst (xs ++ [v]))) l (ds ++ [d]) → tz D σ (upd H1 l (.lst (xs ++ [v])))) :
    tSeq (tDrop (tBM K "list" rAppend ta (tCons te tNil))) tz D σ H := s_appT (D := { D with nx := tz D }) hl ha h hz k
/-! ### comprehensions whose items are such data -/
def Ct (H : Hp) (f : Nat → Bool) (v : Nat → PyData) (Dl : Addr) (i : Nat) (H' : Hp) : Prop := H Dl = none ∧ Ex H H' ∧ LstT H' Dl (((List.range i).filter f).map v)
theorem len_filt (f : Nat → Bool) (v : Nat → PyData) (n : Nat) : (((List.range n).filter f).map v).length ≤ n := by
  rw [List.length_map]
  exact Nat.le_trans (List.length_filter_le _ _) (by simp)
theorem filt_yes {f : Nat → Bool} {v : Nat → PyData} {n : Nat} (h : f n = true) : ((List.range (n + 1)).filter f).map v = ((List.range n).filter f).map v ++ [v n] := by
  rw [List.range_succ, List.filter_append, List.map_append]
  simp [h]
theorem filt_no {f : Nat → Bool} {v : Nat → PyData} {n : Nat} (h : f n = false) : ((List.range (n + 1)).filter f).map v = ((List.range n).filter f).map v := by
  rw [List.range_succ, List.filter_append, List.map_append]
  simp [h]
theorem ct_turn {f : Nat → Bool} {v : Nat → PyData} {Dl : Addr} {i : Nat} {σ2 : L2.St} (p : Ct H f v Dl i H') (hi : i < 50000) (ht : EvT t σ2 H (f i)) (he : f i = true → EvTd te σ2 H (v i)) :
    t σ2 H' fun b H3 => if b = true then te σ2 H3 fun y H4 => ∃ acc, H4 Dl = some (.lst acc) ∧ acc.length < sizeLine ∧ Ct H f v Dl (i + 1) (upd H4 Dl (.lst (acc ++ [y]))) else Ct H f v Dl (i + 1) H3 := by
  obtain ⟨p1, p2, xs, p3, p4⟩ := p
  refine ht H' p2 _ fun H3 e3 => ?_
  cases hf : f i with
  | true =>
    show te σ2 H3 fun y H4 => ∃ acc, H4 Dl = some (.lst acc) ∧ acc.length < sizeLine ∧ Ct H f v Dl (i + 1) (upd H4 Dl (.lst (acc ++ [y])))
    refine he hf H3 (p2.trans e3) _ fun y H4 e4 q4 => ⟨xs, e4 Dl _ (e3 Dl _ p3), sz_lt (by have := len_filt f v i; rw [p4.len]; omega), p1, Ex.mut ((p2.trans e3).trans e4) p1, ?_⟩
    rw [filt_yes hf]
    exact LstT.push (e4 Dl _ (e3 Dl _ p3)) (p4.ex (e3.trans e4)) q4
  | false =>
    show Ct H f v Dl (i + 1) H3
    refine ⟨p1, p2.trans e3, ?_⟩
    rw [filt_no hf]
    exact ⟨xs, e3 Dl _ p3, p4.ex e3⟩
theorem lt_lcR1 {tr : TA} {j : Nat} {vs : List Nat} {n : Int} (f : Nat → Bool) (v : Nat → PyData) (h : EvA tr σ H [.int n]) (hn : n ≤ 40000) (hw : ∀ x, wipe ((wipe σ vs).set j (some x)) vs = wipe σ vs)
    (ht : ∀ (i : Nat) H1, Ex H H1 → (i : Int) < n → EvT t ((wipe σ vs).set j (some (.int (i : Int)))) H1 (f i)) (he : ∀ (i : Nat) H1, Ex H H1 → (i : Int) < n → f i = true → EvTd te ((wipe σ vs).set j (some (.int (i : Int)))) H1 (v i)) (hn0 : -100000 ≤ n := by omega) :
    EvLT (tLc (iRng1 tr) (gName j) t te vs) σ H (((List.range n.toNat).filter f).map v) := fun H0 e Q q => h H0 e _ fun H1 e1 => ⟨n, rfl, by omega, by omega, fun Dl hD =>
  lc_range (lo := 0) (n := n.toNat) (Ct H1 f v Dl) ⟨hD, Ex.new hD, ⟨[], upd_same, .nil⟩⟩ (fun i H' hi p => by
    have e0 : (0 : Int) + (i : Int) = (i : Int) := Int.zero_add _
    show wipe ((wipe σ vs).set j (some (.int ((0 : Int) + (i : Int))))) vs = wipe σ vs ∧ t ((wipe σ vs).set j (some (.int ((0 : Int) + (i : Int))))) H' fun b H3 => if b = true then te ((wipe σ vs).set j (some (.int ((0 : Int) + (i : Int))))) H3 fun y H4 => ∃ acc, H4 Dl = some (.lst acc) ∧ acc.length < sizeLine ∧ Ct H1 f v Dl (i + 1) (upd H4 Dl (.lst (acc ++ [y]))) else Ct H1 f v Dl (i + 1) H3
    rw [e0]
    exact ⟨hw _, ct_turn p (by omega) (ht i H1 (e.trans e1) (by omega)) (fun hf => he i H1 (e.trans e1) (by omega) hf)⟩) (fun H' p => q Dl H' (fresh_back e1 p.1) (e1.trans p.2.1) p.2.2)⟩
theorem lt_lcR2 {tr : TA} {j : Nat} {vs : List Nat} {lo n : Int} (f : Nat → Bool) (v : Nat → PyData) (h : EvA tr σ H [.int lo, .int n]) (hn : 0 ≤ lo ∧ lo ≤ 100000 ∧ -100000 ≤ n ∧ n ≤ 40000) (hw : ∀ x, wipe ((wipe σ vs).set j (some x)) vs = wipe σ vs)
    (ht : ∀ (i : Nat) H1, Ex H H1 → lo + (i : Int) < n → EvT t ((wipe σ vs).set j (some (.int (lo + (i : Int))))) H1 (f i)) (he : ∀ (i : Nat) H1, Ex H H1 → lo + (i : Int) < n → f i = true → EvTd te ((wipe σ vs).set j (some (.int (lo + (i : Int))))) H1 (v i)) :
    EvLT (tLc (iRng2 tr) (gName j) t te vs) σ H (((List.range (n - lo).toNat).filter f).map v) := fun H0 e Q q => h H0 e _ fun H1 e1 => ⟨lo, n, rfl, ⟨by omega, by omega, by omega, by omega⟩, fun Dl hD =>
  lc_range (lo := lo) (n := (n - lo).toNat) (Ct H1 f v Dl) ⟨hD, Ex.new hD, ⟨[], upd_same, .nil⟩⟩ (fun i H' hi p =>
    ⟨hw _, ct_turn p (by omega) (ht i H1 (e.trans e1) (by omega)) (fun hf => he i H1 (e.trans e1) (by omega) hf)⟩) (fun H' p => q Dl H' (fresh_back e1 p.1) (e1.trans p.2.1) p.2.2)⟩
end
section
variable {K : PySem.W.Frag} {σ : L2.St} {H H' : Hp} {ta tb te tx : TE} {t u : TT} {x y z v : V} {r : R2} {tr : TA} {D : Ends} {tu tw tz : TS} {P P' : V → Hp → Prop} {d : PyData} {ds : List PyData}
theorem filt_all {n : Nat} (v : Nat → PyData) : ((List.range n).filter fun _ => true).map v = (List.range n).map v := by rw [List.filter_eq_self.mpr (fun _ _ => rfl)]
theorem et_yes0 : EvT tYes σ H true := fun H1 _ Q q => q H1 (Ex.refl H1)
theorem lt_mapR1 {j : Nat} {vs : List Nat} {n : Int} (v : Nat → PyData) (h : EvA tr σ H [.int n]) (hn : n ≤ 40000) (hw : ∀ x, wipe ((wipe σ vs).set j (some x)) vs = wipe σ vs)
    (he : ∀ (i : Nat) H1, Ex H H1 → (i : Int) < n → EvTd te ((wipe σ vs).set j (some (.int (i : Int)))) H1 (v i)) (hn0 : -100000 ≤ n := by omega) :
    EvLT (tLc (iRng1 tr) (gName j) tYes te vs) σ H ((List.range n.toNat).map v) := by
  have h2 := lt_lcR1 (t := tYes) (te := te) (fun _ => true) v h hn hw (fun _ _ _ _ => et_yes0) (fun i H1 e hi _ => he i H1 e hi) hn0
  rw [filt_all] at h2
  exact h2
theorem lt_mapR2 {j : Nat} {vs : List Nat} {lo n : Int} (v : Nat → PyData) (h : EvA tr σ H [.int lo, .int n]) (hn : 0 ≤ lo ∧ lo ≤ 100000 ∧ -100000 ≤ n ∧ n ≤ 40000) (hw : ∀ x, wipe ((wipe σ vs).set j (some x)) vs = wipe σ vs)
    (he : ∀ (i : Nat) H1, Ex H H1 → lo + (i : Int) < n → EvTd te ((wipe σ vs).set j (some (.int (lo + (i : Int))))) H1 (v i)) :
    EvLT (tLc (iRng2 tr) (gName j) tYes te vs) σ H ((List.range (n - lo).toNat).map v) := by
  have h2 := lt_lcR2 (t := tYes) (te := te) (fun _ => true) v h hn hw (fun _ _ _ _ => et_yes0) (fun i H1 e hi _ => he i H1 e hi)
  rw [filt_all] at h2
  exact h2
theorem atI_getD {i : Int} (h0 : 0 ≤ i) (h1 : i < (ds.length : Int)) : atI ds i = some (ds.getD i.toNat .none) := by
  have hl : i.toNat < ds.length := by omega
  have := at0 (ds := ds) (j := i.toNat) (d := ds.getD i.toNat .none) (by rw [List.getD_eq_getElem?_getD, List.getElem?_eq_getElem hl]; rfl)
  rw [show ((i.toNat : Nat) : Int) = i by omega] at this
  exact this
/-- an item of a written list of ints -/
theorem ev_ixInts {xs : List Int} {i : Int} (h : EaTd tr σ H (xs.map PyData.int)) (hb : Ev tb σ H (.int i)) (h0 : 0 ≤ i) (h1 : i < (xs.length : Int)) (hl : xs.length ≤ 100000 := by first | decide | simp) : Ev (tOp (rIxL K) (tLst tr) tb) σ H (.int (xs.getD i.toNat 0)) := by
  refine ev_of_td (td_ixL (lt_lst h (by rw [List.length_map]; exact hl)) hb ?_)
  have hl2 : i.toNat < xs.length := by omega
  have := at0 (ds := xs.map PyData.int) (j := i.toNat) (d := .int (xs.getD i.toNat 0)) (by rw [List.getElem?_map, List.getD_eq_getElem?_getD, List.getElem?_eq_getElem hl2]; rfl)
  rw [show ((i.toNat : Nat) : Int) = i by omega] at this
  exact this
theorem ev_callP {sp : Sp} {E : XK} {Pa : List V → Hp → Prop} (h : EaP tr σ H Pa) (hs : ∀ vs H1, Ex H H1 → Pa vs H1 → SpV sp vs H1 z) : Ev (tCall sp [] E tr) σ H z := fun H1 e Q q => h H1 e _ fun vs H2 e2 p => by
  show sp (vs ++ []) H2 Q E
  rw [List.append_nil]
  exact hs vs H2 (e.trans e2) p H2 (Ex.refl H2) Q (fun H3 e3 => q H3 (e2.trans e3)) E
/-- arguments, one by one -/
theorem dpAll1 {vs : List V} {d : PyData} (h : DpAll K H vs [d]) : ∃ v, vs = [v] ∧ Dp K H v d := by
  cases h with | cons a b => cases b; exact ⟨_, rfl, a⟩
theorem dpAll2 {vs : List V} {d e : PyData} (h : DpAll K H vs [d, e]) : ∃ v u, vs = [v, u] ∧ Dp K H v d ∧ Dp K H u e := by
  cases h with | cons a b => cases b with | cons b c => cases c; exact ⟨_, _, rfl, a, b⟩
theorem dpAll3 {vs : List V} {d e f : PyData} (h : DpAll K H vs [d, e, f]) : ∃ v u x, vs = [v, u, x] ∧ Dp K H v d ∧ Dp K H u e ∧ Dp K H x f := by
  cases h with | cons a b => cases b with | cons b c => cases c with | cons c d => cases d; exact ⟨_, _, _, rfl, a, b, c⟩
theorem dpAll4 {vs : List V} {d e f g : PyData} (h : DpAll K H vs [d, e, f, g]) : ∃ v u x y, vs = [v, u, x, y] ∧ Dp K H v d ∧ Dp K H u e ∧ Dp K H x f ∧ Dp K H y g := by
  cases h with | cons a b => cases b with | cons b c => cases c with | cons c d => cases d with | cons d e => cases e; exact ⟨_, _, _, _, rfl, a, b, c, d⟩
theorem ed_int {i : Int} (h : Ev te σ H (.int i)) : EvD K te σ H (.int i) := ep_ev h fun _ _ => .int i
end
section
variable {K : PySem.W.Frag} {σ : L2.St} {H H' : Hp} {ta tb te tx : TE} {D : Ends} {tz : TS} {d : PyData} {ds es : List PyData}
theorem TdAll.set {v : V} (h : Td H v d) : ∀ {ds : List PyData} {vs : List V} (j : Nat), TdAll H vs ds → TdAll H (vs.set j v) (ds.set j d)
  | [], _, _, .nil => .nil
  | _ :: _, _, 0, .cons _ b => .cons h b
  | _ :: _, _, j + 1, .cons a b => .cons a (TdAll.set h j b)
/-- xs[j] = e -/
theorem s_setT {l : Addr} {i : Int} {j : Nat} (hl : LstT H l ds) (h : EvTd te σ H d) (ho : Ev ta σ H (.ref l)) (hi : Ev tb σ H (.int i)) (ei : i = (j : Int)) (hj : j < ds.length) (k : ∀ H1 xs v, Ex H H1 → H1 l = some (.lst xs) → LstT (upd H1 l (.lst (xs.set j v))) l (ds.set j d) → D.nx σ (upd H1 l (.lst (xs.set j v)))) :
    tAsg te (gSub ta tb rSetL) D σ H := by
  obtain ⟨xs, hx, hd⟩ := hl
  subst ei
  refine h H (Ex.refl H) _ fun v H1 e1 p => ho H1 e1 _ fun H2 e2 => hi H2 (e1.trans e2) _ fun H3 e3 => ?_
  have e13 := (e1.trans e2).trans e3
  have hx3 := e13 _ _ hx
  refine ⟨l, xs, (j : Int), j, rfl, rfl, hx3, ixN_nat (by rw [hd.len]; exact hj), k H3 xs v e13 hx3 ⟨_, upd_same, ?_⟩⟩
  exact TdAll.upd hx3 (TdAll.set (p.ex (e2.trans e3)) j (hd.ex e13))
theorem q_setT {l : Addr} {i : Int} {j : Nat} (hl : LstT H l ds) (h : EvTd te σ H d) (ho : Ev ta σ H (.ref l)) (hi : Ev tb σ H (.int i)) (ei : i = (j : Int)) (hj : j < ds.length) (k : ∀ H1 xs v, Ex H H1 → H1 l = some (.lst xs) → LstT (upd H1 l (.lst (xs.set j v))) l (ds.set j d) → tz D σ (upd H1 l (.lst (xs.set j v)))) :
    tSeq (tAsg te (gSub ta tb rSetL)) tz D σ H := s_setT (D := { D with nx := tz D }) hl h ho hi ei hj k
/-- list + list -/
theorem lt_cat {l : Addr} (ha : Ev ta σ H (.ref l)) (hl : LstT H l ds) (hb : EvLT tb σ H es) (hz : ds.length + es.length ≤ 100000) : EvLT (tOp rCat ta tb) σ H (ds ++ es) := fun H1 e Q q => ha H1 e _ fun H2 e2 => hb H2 (e.trans e2) _ fun p H3 np e3 hp => by
  obtain ⟨xs, hx, hd⟩ := hl.ex ((e.trans e2).trans e3)
  obtain ⟨ys, hy, he⟩ := hp
  refine ⟨l, p, xs, ys, rfl, rfl, hx, hy, sz_of (by rw [hd.len, he.len]; exact hz), fun r nr => q r _ (fresh_back (e2.trans e3) nr) ((e2.trans e3).trans (Ex.new nr)) ⟨_, upd_same, (TdAll.append hd he).ex (Ex.new nr)⟩⟩
theorem lt_cat2 (ha : EvLT ta σ H ds) (hb : EvLT tb σ H es) (hz : ds.length + es.length ≤ 100000) : EvLT (tOp rCat ta tb) σ H (ds ++ es) := fun H1 e Q q => ha H1 e _ fun l H2 nl e2 hl => hb H2 (e.trans e2) _ fun p H3 np e3 hp => by
  obtain ⟨xs, hx, hd⟩ := hl.ex e3
  obtain ⟨ys, hy, he⟩ := hp
  refine ⟨l, p, xs, ys, rfl, rfl, hx, hy, sz_of (by rw [hd.len, he.len]; exact hz), fun r nr => q r _ (fresh_back (e2.trans e3) nr) ((e2.trans e3).trans (Ex.new nr)) ⟨_, upd_same, (TdAll.append hd he).ex (Ex.new nr)⟩⟩
end
section
variable {K : PySem.W.Frag} {σ : L2.St} {H H' : Hp} {ta tb te tx tl : TE} {D : Ends} {tz tu : TS} {d : PyData} {ds es : List PyData} {tr : TA} {g : TG}
/-! ### loops over data -/
theorem s_forD (h : EvD K tl σ H (.list ds)) (Pv : Hp → Nat → L2.St → Hp → Prop) (h0 : ∀ H1, Ex H H1 → Pv H1 0 σ H1) (hx : ∀ H1 i σ' H', Pv H1 i σ' H' → Ex H1 H')
    (hs : ∀ H1, Ex H H1 → ∀ i d x σ' H', ds[i]? = some d → Dp K H' x d → Pv H1 i σ' H' → g x σ' H' fun σ2 H2 => tu { D with nx := Pv H1 (i + 1), ct := Pv H1 (i + 1), bk := D.nx } σ2 H2)
    (hd : ∀ H1, Ex H H1 → ∀ σ' H', Pv H1 ds.length σ' H' → D.nx σ' H') : tFor (iList K tl) g tu D σ H := by
  refine h H (Ex.refl H) _ fun v H1 e1 p => ?_
  cases p with
  | lst ho hda =>
    rename_i a xs
    have hlen := dpAll_len hda
    refine ⟨a, rfl, ⟨xs, ho⟩, for_list (K := K) (a := a) (xs := xs) (Pv H1) (h0 H1 e1) (fun i σ' H' _ p => ex_l (hx H1 i σ' H' p) ho) (fun i x σ' H' hx' p => ?_) (fun σ' H' p => hd H1 e1 σ' H' (by rw [← hlen]; exact p))⟩
    obtain ⟨d, hd1, hd2⟩ := dpAll_getV hda hx'
    exact hs H1 e1 i d x σ' H' hd1 (dp_ex (hx H1 i σ' H' p) hd2) p
theorem s_forU (h : EvD K tl σ H (.tuple ds)) (Pv : Hp → Nat → L2.St → Hp → Prop) (h0 : ∀ H1, Ex H H1 → Pv H1 0 σ H1) (hx : ∀ H1 i σ' H', Pv H1 i σ' H' → Ex H1 H')
    (hs : ∀ H1, Ex H H1 → ∀ i d x σ' H', ds[i]? = some d → Dp K H' x d → Pv H1 i σ' H' → g x σ' H' fun σ2 H2 => tu { D with nx := Pv H1 (i + 1), ct := Pv H1 (i + 1), bk := D.nx } σ2 H2)
    (hd : ∀ H1, Ex H H1 → ∀ σ' H', Pv H1 ds.length σ' H' → D.nx σ' H') : tFor (iTup K tl) g tu D σ H := by
  refine h H (Ex.refl H) _ fun v H1 e1 p => ?_
  cases p with
  | tup ho hda =>
    rename_i a xs
    have hlen := dpAll_len hda
    refine ⟨a, rfl, ⟨xs, ho⟩, for_tup (K := K) (a := a) (xs := xs) (Pv H1) (h0 H1 e1) (fun i σ' H' _ p => ex_t (hx H1 i σ' H' p) ho) (fun i x σ' H' hx' p => ?_) (fun σ' H' p => hd H1 e1 σ' H' (by rw [← hlen]; exact p))⟩
    obtain ⟨d, hd1, hd2⟩ := dpAll_getV hda hx'
    exact hs H1 e1 i d x σ' H' hd1 (dp_ex (hx H1 i σ' H' p) hd2) p
theorem q_forD (h : EvD K tl σ H (.list ds)) (Pv : Hp → Nat → L2.St → Hp → Prop) (h0 : ∀ H1, Ex H H1 → Pv H1 0 σ H1) (hx : ∀ H1 i σ' H', Pv H1 i σ' H' → Ex H1 H')
    (hs : ∀ H1, Ex H H1 → ∀ i d x σ' H', ds[i]? = some d → Dp K H' x d → Pv H1 i σ' H' → g x σ' H' fun σ2 H2 => tu { D with nx := Pv H1 (i + 1), ct := Pv H1 (i + 1), bk := tz D } σ2 H2)
    (hd : ∀ H1, Ex H H1 → ∀ σ' H', Pv H1 ds.length σ' H' → tz D σ' H') : tSeq (tFor (iList K tl) g tu) tz D σ H := s_forD (D := { D with nx := tz D }) h Pv h0 hx hs hd
theorem q_forU (h : EvD K tl σ H (.tuple ds)) (Pv : Hp → Nat → L2.St → Hp → Prop) (h0 : ∀ H1, Ex H H1 → Pv H1 0 σ H1) (hx : ∀ H1 i σ' H', Pv H1 i σ' H' → Ex H1 H')
    (hs : ∀ H1, Ex H H1 → ∀ i d x σ' H', ds[i]? = some d → Dp K H' x d → Pv H1 i σ' H' → g x σ' H' fun σ2 H2 => tu { D with nx := Pv H1 (i + 1), ct := Pv H1 (i + 1), bk := tz D } σ2 H2)
    (hd : ∀ H1, Ex H H1 → ∀ σ' H', Pv H1 ds.length σ' H' → tz D σ' H') : tSeq (tFor (iTup K tl) g tu) tz D σ H := s_forU (D := { D with nx := tz D }) h Pv h0 hx hs hd
/-! ### a call whose value is dropped; arguments of data -/
theorem s_dropC {sp : Sp} {E : XK} (h : EaD K tr σ H ds) (k : ∀ vs H1, Ex H H1 → DpAll K H1 vs ds → sp vs H1 (fun _ H2 => D.nx σ H2) E) : tDrop (tCall sp [] E tr) D σ H := h H (Ex.refl H) _ fun vs H1 e1 p => by
  show sp (vs ++ []) H1 _ E
  rw [List.append_nil]
  exact k vs H1 e1 p
theorem q_dropC {sp : Sp} {E : XK} (h : EaD K tr σ H ds) (k : ∀ vs H1, Ex H H1 → DpAll K H1 vs ds → sp vs H1 (fun _ H2 => tz D σ H2) E) : tSeq (tDrop (tCall sp [] E tr)) tz D σ H := s_dropC (D := { D with nx := tz D }) h k
/-- x = f(..) -/
theorem s_asgC {sp : Sp} {E : XK} {i : Nat} (h : EaD K tr σ H ds) (k : ∀ vs H1, Ex H H1 → DpAll K H1 vs ds → sp vs H1 (fun v H2 => D.nx (σ.set i (some v)) H2) E) : tAsg (tCall sp [] E tr) (gName i) D σ H := h H (Ex.refl H) _ fun vs H1 e1 p => by
  show sp (vs ++ []) H1 _ E
  rw [List.append_nil]
  exact k vs H1 e1 p
theorem q_asgC {sp : Sp} {E : XK} {i : Nat} (h : EaD K tr σ H ds) (k : ∀ vs H1, Ex H H1 → DpAll K H1 vs ds → sp vs H1 (fun v H2 => tz D (σ.set i (some v)) H2) E) : tSeq (tAsg (tCall sp [] E tr) (gName i)) tz D σ H := s_asgC (D := { D with nx := tz D }) h k
theorem s_retC {sp : Sp} {E : XK} (h : EaD K tr σ H ds) (k : ∀ vs H1, Ex H H1 → DpAll K H1 vs ds → sp vs H1 D.rt E) : tRet (tCall sp [] E tr) D σ H := h H (Ex.refl H) _ fun vs H1 e1 p => by
  show sp (vs ++ []) H1 _ E
  rw [List.append_nil]
  exact k vs H1 e1 p
/-! ### slices of tuples -/
theorem dpAll_drop : ∀ {ds : List PyData} {vs : List V} (n : Nat), DpAll K H vs ds → DpAll K H (vs.drop n) (ds.drop n)
  | _, _, 0, h => h
  | [], _, n + 1, .nil => .nil
  | _ :: _, _, n + 1, .cons _ b => dpAll_drop n b
theorem dpAll_take : ∀ {ds : List PyData} {vs : List V} (n : Nat), DpAll K H vs ds → DpAll K H (vs.take n) (ds.take n)
  | _, _, 0, _ => by simp only [List.take_zero]; exact .nil
  | [], _, n + 1, .nil => .nil
  | _ :: _, _, n + 1, .cons a b => .cons a (dpAll_take n b)
def cutD (ds : List PyData) (lo hi : Option Int) : List PyData := (ds.drop (HT.sIx ds.length 0 lo)).take (HT.sIx ds.length ds.length hi - HT.sIx ds.length 0 lo)
theorem ed_slU {lo hi : Option Int} {t1 t2 : TO} (h : EvD K te σ H (.tuple ds)) (h1 : EvO t1 σ H lo) (h2 : EvO t2 σ H hi) : EvD K (tSl (rSlA K) te t1 t2) σ H (.tuple (cutD ds lo hi)) := fun H1 e Q q => h H1 e _ fun v H2 e2 p => h1 H2 (e.trans e2) _ fun H3 e3 => h2 H3 ((e.trans e2).trans e3) _ fun H4 e4 => by
  have p4 := dp_ex (e3.trans e4) p
  have e24 := (e2.trans e3).trans e4
  cases p4 with
  | tup ho hd =>
    rename_i a xs
    have hlen := dpAll_len hd
    refine ⟨a, xs, rfl, ho, fun hw => ?_, fun hw r nr => ?_⟩
    · have ec : cutD ds lo hi = ds := by
        unfold cutD
        rw [← hlen, hw.1, hw.2, List.drop_zero, hlen, Nat.sub_zero, List.take_length]
      exact q _ H4 e24 (by rw [ec]; exact .tup ho hd)
    · refine q _ _ (e24.trans (Ex.new nr)) (.tup (SqT.of upd_same) ?_)
      unfold cutD cutV
      rw [hlen]
      exact dpAll_ex (Ex.new nr) (dpAll_take _ (dpAll_drop _ hd))
/-! ### xs.count(True) of a list of truth values -/
theorem td_bls : ∀ bs : List Bool, TdAll H (bs.map V.bl) (bs.map PyData.bool)
  | [] => .nil
  | b :: r => .cons (.bl b) (td_bls r)
theorem tdAll_bls : ∀ {bs : List Bool} {vs : List V}, TdAll H vs (bs.map PyData.bool) → vs = bs.map V.bl
  | [], _, .nil => rfl
  | b :: r, _, .cons h q => by
    cases h
    rw [tdAll_bls q]
    rfl
theorem count_bls (bs : List Bool) : (bs.map V.bl).countP (fun z => eqV z (.bl true)) = bs.countP id := by
  induction bs with
  | nil => rfl
  | cons b r ih =>
    rw [List.map_cons, List.countP_cons, List.countP_cons, ih]
    cases b <;> rfl
theorem flat_bls : ∀ bs : List Bool, (bs.map V.bl).all flatV = true
  | [] => rfl
  | _ :: r => by simp [flatV, flat_bls r]
theorem ev_countT {l : Addr} {bs : List Bool} (ha : Ev ta σ H (.ref l)) (hl : LstT H l (bs.map PyData.bool)) : Ev (tBM K "list" (rCntF K) ta (tCons (tC (.bl true)) tNil)) σ H (.int (bs.countP id : Nat)) := fun H1 e Q q => ha H1 e _ fun H2 e2 => by
  obtain ⟨xs, hx, hd⟩ := hl.ex (e.trans e2)
  have ex := tdAll_bls hd
  subst ex
  refine ⟨.inl ⟨rfl, _, SqL.of hx⟩, l, _, _, rfl, rfl, SqL.of hx, rfl, flat_bls bs, ?_⟩
  rw [count_bls]
  exact q H2 e2
end
section
variable {K : PySem.W.Frag} {σ : L2.St} {H H' : Hp} {ta tb te : TE} {d : PyData} {ds : List PyData}
theorem lt_listU (ha : EvTd ta σ H (.tuple ds)) : EvLT (tCB (fun xs H Q => ∃ p ys, xs = [.ref p] ∧ (SqL K H p ys ∨ SqT K H p ys) ∧ ∀ l, H l = none → Q (.ref l) (upd H l (.lst ys))) (tCons ta tNil)) σ H ds := fun H1 x Q q => ha H1 x _ fun v H2 x2 p => by
  cases p with
  | tup ho hd =>
    rename_i a xs
    exact ⟨a, xs, rfl, .inr (SqT.of ho), fun l hl => q _ _ (fresh_back x2 hl) (x2.trans (Ex.new hl)) ⟨xs, upd_same, hd.ex (Ex.new hl)⟩⟩
theorem td_ixLV {l : Addr} {i : Int} (ha : Ev ta σ H (.ref l)) (hl : LstT H l ds) (hb : Ev tb σ H (.int i)) (h : atI ds i = some d) : EvTd (tOp (rIxL K) ta tb) σ H d := fun H1 e Q q => ha H1 e _ fun H2 e2 => hb H2 (e.trans e2) _ fun H3 e3 => by
  obtain ⟨xs, ho, hd⟩ := hl.ex ((e.trans e2).trans e3)
  obtain ⟨j, h1, h2, h3, _⟩ := atI_get h
  obtain ⟨w, h4, h5⟩ := hd.get h2
  refine ⟨_, xs, i, w, rfl, rfl, SqL.of ho, ?_, q w H3 (e2.trans e3) h5⟩
  have : atI xs i = some w := by
    unfold atI at h ⊢
    rw [hd.len]
    cases e5 : ixN ds.length i with
    | none => rw [e5] at h; cases h
    | some k =>
      have hk := (ixN_seq e5).1
      rw [hk] at h1
      cases h1
      exact h4
  exact this
theorem LstT.upd_ne {l p : Addr} {xs : List V} {o : HO} (h : LstT H p ds) (hl : H l = some (.lst xs)) (ne : p ≠ l) : LstT (L2.upd H l o) p ds := by
  obtain ⟨ys, a, b⟩ := h
  exact ⟨ys, by rw [L2.upd_ne ne]; exact a, b.upd hl⟩
theorem ev_inW {i : Int} {ns : List Int} (ha : Ev ta σ H (.int i)) (hb : EvTd tb σ H (.tuple (ns.map PyData.int))) : Ev (tOp (rIn K false) ta tb) σ H (.bl (decide (i ∈ ns))) := ev_inI ha (.inl (ed_td hb))
theorem ev_niW {i : Int} {ns : List Int} (ha : Ev ta σ H (.int i)) (hb : EvTd tb σ H (.tuple (ns.map PyData.int))) : Ev (tOp (rIn K true) ta tb) σ H (.bl (!decide (i ∈ ns))) := ev_niI ha (.inl (ed_td hb))
end
section
variable {K : PySem.W.Frag} {σ : L2.St} {H H' : Hp} {ta tb te : TE} {d : PyData} {ds : List PyData} {tr : TA} {v : V} {P : V → Hp → Prop} {R : List V → Hp → Prop}
/-! ### arguments and tuples, part by part -/
theorem ea_pn (h : ∀ H1, Ex H H1 → R [] H1) : EaP tNil σ H R := fun H1 e Q q => q [] H1 (Ex.refl H1) (h H1 e)
theorem ea_pc (h : EvP te σ H P) (k : ∀ v H1, Ex H H1 → P v H1 → EaP tr σ H1 (fun vs H' => R (v :: vs) H')) : EaP (tCons te tr) σ H R := fun H1 e Q q => h H1 e _ fun v H2 e2 p => k v H2 (e.trans e2) p H2 (Ex.refl H2) _ fun vs H3 e3 r => q _ H3 (e2.trans e3) r
theorem ea_pv (h : Ev te σ H v) (k : ∀ H1, Ex H H1 → EaP tr σ H1 (fun vs H' => R (v :: vs) H')) : EaP (tCons te tr) σ H R := fun H1 e Q q => h H1 e _ fun H2 e2 => k H2 (e.trans e2) H2 (Ex.refl H2) _ fun vs H3 e3 r => q _ H3 (e2.trans e3) r
theorem ea_pl (h : EvLT te σ H ds) (k : ∀ p H1, Ex H H1 → H p = none → LstT H1 p ds → EaP tr σ H1 (fun vs H' => R (.ref p :: vs) H')) : EaP (tCons te tr) σ H R := fun H1 e Q q => h H1 e _ fun p H2 np e2 r => k p H2 (e.trans e2) (fresh_back e np) r H2 (Ex.refl H2) _ fun vs H3 e3 r => q _ H3 (e2.trans e3) r
theorem ep_tupP (h : EaP tr σ H R) (hl : ∀ vs H', R vs H' → vs.length ≤ 100000) : EvP (tTup tr) σ H (fun v H' => ∃ p vs H0, v = .ref p ∧ H' p = some (.tup vs) ∧ Ex H H0 ∧ Ex H0 H' ∧ R vs H0) := fun H1 e Q q => h H1 e _ fun vs H2 e2 r => ⟨sz_of (hl vs H2 r), fun p np => q _ _ (e2.trans (Ex.new np)) ⟨p, vs, H2, rfl, upd_same, e.trans e2, Ex.new np, r⟩⟩
end
theorem et_yes {σ : L2.St} {H : Hp} : EvT tYes σ H true := fun H1 _ Q q => q H1 (Ex.refl H1)
end Mz
namespace Mz
open PySem PySem.Spec PyProof.Rows L2 Evl
def topS (i : Nat) : Stmt := PySem.Challenge.pw_mazeguide_k09_whole_walk_or_shut.main.body.getD i (.Pass ⟨0, 0, 0, 0⟩)
abbrev s_need_room : Stmt := topS 5
theorem sc_need_room : FnScope ["maze", "room"] ["maze", "room"] (defScope s_need_room) := ⟨rfl, rfl, rfl, by decide +kernel, rfl, by decide +kernel, by decide +kernel⟩
abbrev s_taken : Stmt := topS 6
theorem sc_taken : FnScope ["maze", "room", "held", "kind"] ["maze", "room", "held"] (defScope s_taken) := ⟨rfl, rfl, rfl, by decide +kernel, rfl, by decide +kernel, by decide +kernel⟩
abbrev s_opens : Stmt := topS 8
theorem sc_opens : FnScope ["door", "held"] ["door", "held"] (defScope s_opens) := ⟨rfl, rfl, rfl, by decide +kernel, rfl, by decide +kernel, by decide +kernel⟩
abbrev s_steps : Stmt := topS 9
theorem sc_steps : FnScope ["maze", "room", "held", "found", "door"] ["maze", "room", "held"] (defScope s_steps) := ⟨rfl, rfl, rfl, by decide +kernel, rfl, by decide +kernel, by decide +kernel⟩
abbrev s_room_more : Stmt := topS 11
theorem sc_room_more : FnScope ["maze", "rooms", "held", "door"] ["maze", "rooms", "held"] (defScope s_room_more) := ⟨rfl, rfl, rfl, by decide +kernel, rfl, by decide +kernel, by decide +kernel⟩
abbrev s_come : Stmt := topS 12
theorem sc_come : FnScope ["maze", "start", "rooms", "held", "more"] ["maze", "start"] (defScope s_come) := ⟨rfl, rfl, rfl, by decide +kernel, rfl, by decide +kernel, by decide +kernel⟩
abbrev s_hand : Stmt := topS 13
theorem sc_hand : FnScope ["maze", "rooms", "held", "room"] ["maze", "rooms"] (defScope s_hand) := ⟨rfl, rfl, rfl, by decide +kernel, rfl, by decide +kernel, by decide +kernel⟩
abbrev s_least : Stmt := topS 14
theorem sc_least : FnScope ["ways", "goal", "walks", "state"] ["ways", "goal"] (defScope s_least) := ⟨rfl, rfl, rfl, by decide +kernel, rfl, by decide +kernel, by decide +kernel⟩
abbrev s_onward : Stmt := topS 15
theorem sc_onward : FnScope ["maze", "ways", "seen", "found", "state", "other", "longer"] ["maze", "ways", "seen"] (defScope s_onward) := ⟨rfl, rfl, rfl, by decide +kernel, rfl, by decide +kernel, by decide +kernel⟩
abbrev s_guide : Stmt := topS 16
theorem sc_guide : FnScope ["maze", "start", "goal", "first", "seen", "ways", "best", "rooms"] ["maze", "start", "goal"] (defScope s_guide) := ⟨rfl, rfl, rfl, by decide +kernel, rfl, by decide +kernel, by decide +kernel⟩
abbrev s_behind : Stmt := topS 18
theorem sc_behind : FnScope ["maze", "layer", "seen", "found", "state", "other"] ["maze", "layer", "seen"] (defScope s_behind) := ⟨rfl, rfl, rfl, by decide +kernel, rfl, by decide +kernel, by decide +kernel⟩
abbrev s_layers : Stmt := topS 19
theorem sc_layers : FnScope ["maze", "start", "layer", "seen", "found"] ["maze", "start"] (defScope s_layers) := ⟨rfl, rfl, rfl, by decide +kernel, rfl, by decide +kernel, by decide +kernel⟩
abbrev s_l_mix : Stmt := topS 21
theorem sc_l_mix : FnScope ["_law_cell", "_law_k", "_law_number"] ["_law_cell", "_law_k"] (defScope s_l_mix) := ⟨rfl, rfl, rfl, by decide +kernel, rfl, by decide +kernel, by decide +kernel⟩
abbrev s_l_whole : Stmt := topS 22
theorem sc_l_whole : FnScope ["_law_found"] ["_law_found"] (defScope s_l_whole) := ⟨rfl, rfl, rfl, by decide +kernel, rfl, by decide +kernel, by decide +kernel⟩
abbrev s_l_cell_at : Stmt := topS 23
theorem sc_l_cell_at : FnScope ["_law_script", "_law_k"] ["_law_script", "_law_k"] (defScope s_l_cell_at) := ⟨rfl, rfl, rfl, by decide +kernel, rfl, by decide +kernel, by decide +kernel⟩
abbrev s_l_size : Stmt := topS 24
theorem sc_l_size : FnScope ["_law_script", "_law_first", "_law_number", "_law_some"] ["_law_script"] (defScope s_l_size) := ⟨rfl, rfl, rfl, by decide +kernel, rfl, by decide +kernel, by decide +kernel⟩
abbrev s_l_lock : Stmt := topS 25
theorem sc_l_lock : FnScope ["_law_number"] ["_law_number"] (defScope s_l_lock) := ⟨rfl, rfl, rfl, by decide +kernel, rfl, by decide +kernel, by decide +kernel⟩
abbrev s_l_rank : Stmt := topS 26
theorem sc_l_rank : FnScope ["_law_place", "_law_size_here"] ["_law_place", "_law_size_here"] (defScope s_l_rank) := ⟨rfl, rfl, rfl, by decide +kernel, rfl, by decide +kernel, by decide +kernel⟩
abbrev s_l_ranks : Stmt := topS 27
theorem sc_l_ranks : FnScope ["_law_first", "_law_size_here", "_law_number", "_law_name", "_law_made", "_law_one", "_law_other", "_law_rank_here", "_law_door"] ["_law_first", "_law_size_here"] (defScope s_l_ranks) := ⟨rfl, rfl, rfl, by decide +kernel, rfl, by decide +kernel, by decide +kernel⟩
abbrev s_l_many : Stmt := topS 28
theorem sc_l_many : FnScope ["_law_first", "_law_size_here", "_law_number", "_law_made", "_law_k", "_law_near", "_law_lock_here"] ["_law_first", "_law_size_here"] (defScope s_l_many) := ⟨rfl, rfl, rfl, by decide +kernel, rfl, by decide +kernel, by decide +kernel⟩
abbrev s_l_mixed : Stmt := topS 29
theorem sc_l_mixed : FnScope ["_law_first", "_law_size_here", "_law_number", "_law_made", "_law_k", "_law_lock_here", "_law_one"] ["_law_first", "_law_size_here"] (defScope s_l_mixed) := ⟨rfl, rfl, rfl, by decide +kernel, rfl, by decide +kernel, by decide +kernel⟩
abbrev s_l_built : Stmt := topS 30
theorem sc_l_built : FnScope ["_law_first", "_law_size_here", "_law_made", "_law_k", "_law_one", "_law_other", "_law_locks", "_law_turn"] ["_law_first", "_law_size_here"] (defScope s_l_built) := ⟨rfl, rfl, rfl, by decide +kernel, rfl, by decide +kernel, by decide +kernel⟩
abbrev s_l_doors : Stmt := topS 31
theorem sc_l_doors : FnScope ["_law_script", "_law_size_here", "_law_first", "_law_made", "_law_k", "_law_cell", "_law_one"] ["_law_script", "_law_size_here"] (defScope s_l_doors) := ⟨rfl, rfl, rfl, by decide +kernel, rfl, by decide +kernel, by decide +kernel⟩
abbrev s_l_lying : Stmt := topS 32
theorem sc_l_lying : FnScope ["_law_script", "_law_size_here", "_law_first", "_law_turn", "_law_made", "_law_k"] ["_law_script", "_law_size_here"] (defScope s_l_lying) := ⟨rfl, rfl, rfl, by decide +kernel, rfl, by decide +kernel, by decide +kernel⟩
abbrev s_l_taken : Stmt := topS 33
theorem sc_l_taken : FnScope ["_law_lying_here", "_law_room", "_law_held", "_law_made", "_law_kind"] ["_law_lying_here", "_law_room", "_law_held"] (defScope s_l_taken) := ⟨rfl, rfl, rfl, by decide +kernel, rfl, by decide +kernel, by decide +kernel⟩
abbrev s_l_steps : Stmt := topS 34
theorem sc_l_steps : FnScope ["_law_doors_here", "_law_lying_here", "_law_room", "_law_held", "_law_made", "_law_one", "_law_other", "_law_lock_here"] ["_law_doors_here", "_law_lying_here", "_law_room", "_law_held"] (defScope s_l_steps) := ⟨rfl, rfl, rfl, by decide +kernel, rfl, by decide +kernel, by decide +kernel⟩
abbrev s_l_hand : Stmt := topS 35
theorem sc_l_hand : FnScope ["_law_found", "_law_due", "_law_kind"] ["_law_found", "_law_due"] (defScope s_l_hand) := ⟨rfl, rfl, rfl, by decide +kernel, rfl, by decide +kernel, by decide +kernel⟩
abbrev s_l_walks : Stmt := topS 36
theorem sc_l_walks : FnScope ["_law_doors_here", "_law_lying_here", "_law_walk", "_law_start", "_law_goal_here", "_law_held", "_law_k", "_law_here", "_law_ways"] ["_law_doors_here", "_law_lying_here", "_law_walk", "_law_start", "_law_goal_here"] (defScope s_l_walks) := ⟨rfl, rfl, rfl, by decide +kernel, rfl, by decide +kernel, by decide +kernel⟩
abbrev s_l_is_state : Stmt := topS 37
theorem sc_l_is_state : FnScope ["_law_found"] ["_law_found"] (defScope s_l_is_state) := ⟨rfl, rfl, rfl, by decide +kernel, rfl, by decide +kernel, by decide +kernel⟩
abbrev s_l_none_shorter : Stmt := topS 38
theorem sc_l_none_shorter : FnScope ["_law_doors_here", "_law_lying_here", "_law_rows", "_law_first", "_law_goal_here", "_law_many_here", "_law_row", "_law_state", "_law_ahead", "_law_k", "_law_other"] ["_law_doors_here", "_law_lying_here", "_law_rows", "_law_first", "_law_goal_here", "_law_many_here"] (defScope s_l_none_shorter) := ⟨rfl, rfl, rfl, by decide +kernel, rfl, by decide +kernel, by decide +kernel⟩
abbrev s_l_shut : Stmt := topS 39
theorem sc_l_shut : FnScope ["_law_doors_here", "_law_lying_here", "_law_found", "_law_start", "_law_goal_here", "_law_rooms", "_law_held", "_law_keys", "_law_k", "_law_ways", "_law_one", "_law_other", "_law_lock_here"] ["_law_doors_here", "_law_lying_here", "_law_found", "_law_start", "_law_goal_here"] (defScope s_l_shut) := ⟨rfl, rfl, rfl, by decide +kernel, rfl, by decide +kernel, by decide +kernel⟩
abbrev s_l_goal : Stmt := topS 40
theorem sc_l_goal : FnScope ["_law_script", "_law_size_here", "_law_first"] ["_law_script", "_law_size_here"] (defScope s_l_goal) := ⟨rfl, rfl, rfl, by decide +kernel, rfl, by decide +kernel, by decide +kernel⟩
abbrev s_law : Stmt := topS 41
theorem sc_law : FnScope ["_law_script", "_law_size_here", "_law_doors_here", "_law_lying_here", "_law_start", "_law_goal_here", "_law_handed", "_law_found", "_law_first", "_law_told"] ["_law_script"] (defScope s_law) := ⟨rfl, rfl, rfl, by decide +kernel, rfl, by decide +kernel, by decide +kernel⟩
structure Txt (K : PySem.W.Frag) (mg : Str → Option Value) : Prop where
  n_bool : mg "bool" = none
  n_int : mg "int" = none
  n_isinstance : mg "isinstance" = none
  n_len : mg "len" = none
  n_list : mg "list" = none
  n_min : mg "min" = none
  n_range : mg "range" = none
  n_sorted : mg "sorted" = none
  n_tuple : mg "tuple" = none
  i_KINDS : ∃ tk, mg "KINDS" = some (.int 5 tk)
  e_MazeError : ExcT K mg "MazeError"
  e_NoRoom : ExcT K mg "NoRoom"
  m_NoRoom_MazeError : PySem.W.exmOne K (.ref (He.ga K "NoRoom")) (.ref (He.ga K "MazeError")) = some true
  m_NoRoom_NoRoom : PySem.W.exmOne K (.ref (He.ga K "NoRoom")) (.ref (He.ga K "NoRoom")) = some true
  d_need_room : Dfn K mg "need_room" s_need_room ["maze", "room"]
  d_taken : Dfn K mg "taken" s_taken ["maze", "room", "held"]
  d_opens : Dfn K mg "opens" s_opens ["door", "held"]
  d_steps : Dfn K mg "steps" s_steps ["maze", "room", "held"]
  d_room_more : Dfn K mg "room_more" s_room_more ["maze", "rooms", "held"]
  d_come : Dfn K mg "come" s_come ["maze", "start"]
  d_hand : Dfn K mg "hand" s_hand ["maze", "rooms"]
  d_least : Dfn K mg "least" s_least ["ways", "goal"]
  d_onward : Dfn K mg "onward" s_onward ["maze", "ways", "seen"]
  d_guide : Dfn K mg "guide" s_guide ["maze", "start", "goal"]
  d_behind : Dfn K mg "behind" s_behind ["maze", "layer", "seen"]
  d_layers : Dfn K mg "layers" s_layers ["maze", "start"]
  d_l_mix : Dfn K mg "_law_mix" s_l_mix ["_law_cell", "_law_k"]
  d_l_whole : Dfn K mg "_law_whole" s_l_whole ["_law_found"]
  d_l_cell_at : Dfn K mg "_law_cell_at" s_l_cell_at ["_law_script", "_law_k"]
  d_l_size : Dfn K mg "_law_size" s_l_size ["_law_script"]
  d_l_lock : Dfn K mg "_law_lock" s_l_lock ["_law_number"]
  d_l_rank : Dfn K mg "_law_rank" s_l_rank ["_law_place", "_law_size_here"]
  d_l_ranks : Dfn K mg "_law_ranks" s_l_ranks ["_law_first", "_law_size_here"]
  d_l_many : Dfn K mg "_law_many" s_l_many ["_law_first", "_law_size_here"]
  d_l_mixed : Dfn K mg "_law_mixed" s_l_mixed ["_law_first", "_law_size_here"]
  d_l_built : Dfn K mg "_law_built" s_l_built ["_law_first", "_law_size_here"]
  d_l_doors : Dfn K mg "_law_doors" s_l_doors ["_law_script", "_law_size_here"]
  d_l_lying : Dfn K mg "_law_lying" s_l_lying ["_law_script", "_law_size_here"]
  d_l_taken : Dfn K mg "_law_taken" s_l_taken ["_law_lying_here", "_law_room", "_law_held"]
  d_l_steps : Dfn K mg "_law_steps" s_l_steps ["_law_doors_here", "_law_lying_here", "_law_room", "_law_held"]
  d_l_hand : Dfn K mg "_law_hand" s_l_hand ["_law_found", "_law_due"]
  d_l_walks : Dfn K mg "_law_walks" s_l_walks ["_law_doors_here", "_law_lying_here", "_law_walk", "_law_start", "_law_goal_here"]
  d_l_is_state : Dfn K mg "_law_is_state" s_l_is_state ["_law_found"]
  d_l_none_shorter : Dfn K mg "_law_none_shorter" s_l_none_shorter ["_law_doors_here", "_law_lying_here", "_law_rows", "_law_first", "_law_goal_here", "_law_many_here"]
  d_l_shut : Dfn K mg "_law_shut" s_l_shut ["_law_doors_here", "_law_lying_here", "_law_found", "_law_start", "_law_goal_here"]
  d_l_goal : Dfn K mg "_law_goal" s_l_goal ["_law_script", "_law_size_here"]
  d_law : Dfn K mg "law" s_law ["_law_script"]
end Mz
namespace Mz
open PySem PySem.Spec PyProof.Rows L2 Evl
/-! ### the tactics of the readings -/
local macro_rules | `(tactic| walk_at "mz side") => `(tactic| first
  | assumption
  | omega
  | decide
  | exact Or.inl ⟨by omega, by omega⟩
  | exact Or.inr ⟨by omega, by omega⟩
  | exact ⟨by omega, by omega⟩
  | exact ⟨by decide, by decide, by decide⟩)
local macro_rules | `(tactic| walk_at "mz ev1") => `(tactic| first
  | exact ev_c
  | exact ev_var rfl
  | with_reducible apply ev_op
  | with_reducible exact rv_I0
  | ((with_reducible refine rv_I ?_); walk_at "mz side")
  | with_reducible exact rv_eqI
  | with_reducible exact rv_neI
  | with_reducible exact rv_isN
  | with_reducible exact rv_notN
  | with_reducible apply ev_un
  | with_reducible exact ru_neg
  | with_reducible apply ev_abs
  | with_reducible apply et_test
  | with_reducible apply et_B
  | with_reducible apply et_not
  | with_reducible apply et_and
  | with_reducible apply et_or
  | with_reducible apply ev_andV
  | with_reducible apply ev_orV
  | with_reducible apply ev_notV
  | with_reducible exact ea_nil
  | with_reducible apply ea_cons
  | with_reducible exact ea_tn
  | with_reducible apply ea_tc
  | with_reducible refine td_tup ?_ (by first | decide | simp)
  | with_reducible exact et_yes
  | ((with_reducible show ((_ : Bool) = (_ : Bool)) → _); intro _))
local macro_rules | `(tactic| walk_at "mz ev") => `(tactic| repeat' walk_at "mz ev1")
/-! ### data of a heap that stands below -/
section
variable {K : PySem.W.Frag} {σ : L2.St} {H H' H0 : Hp} {ta tb te tl : TE} {t : TT} {tu tz : TS} {D : Ends} {g : TG} {d : PyData} {ds : List PyData} {v : V} {tr : TA}
theorem ev_of_tdN (h : EvTd te σ H .none) : Ev te σ H .non := fun H1 e Q q => h H1 e Q fun v H2 e2 p => by cases p; exact q H2 e2
theorem ev_of_edN (h : EvD K te σ H .none) : Ev te σ H .non := fun H1 e Q q => h H1 e Q fun v H2 e2 p => by cases p; exact q H2 e2
theorem atI_len {α β : Type} {xs : List α} {ys : List β} (hl : xs.length = ys.length) {i : Int} {y : β} {j : Nat} (h : atI ys i = some y) (h1 : ixN ys.length i = some j) {x : α} (hx : xs[j]? = some x) : atI xs i = some x := by
  unfold atI
  rw [hl, h1]
  exact hx
/-- an item of data that stands -/
theorem dp_item {i : Int} (h : Dp K H0 v (.tuple ds)) (hi : atI ds i = some d) : ∃ u, Dp K H0 u d ∧ ∀ {ta tb : TE} {σ : L2.St} {H : Hp}, Ex H0 H → Ev ta σ H v → Ev tb σ H (.int i) → Ev (tOp (rIxT K) ta tb) σ H u := by
  cases h with
  | tup ho hd =>
    rename_i a xs
    obtain ⟨j, h1, h2, h3, _⟩ := atI_get hi
    obtain ⟨w, h4, h5⟩ := dpAll_get hd h2
    have hat : atI xs i = some w := by
      unfold atI at hi ⊢
      rw [dpAll_len hd]
      cases e5 : ixN ds.length i with
      | none => rw [e5] at hi; cases hi
      | some k =>
        have hk := (ixN_seq e5).1
        rw [hk] at h1
        cases h1
        exact h4
    exact ⟨w, h5, fun e h1 h2 => ev_op h1 h2 (rv_ixT (ex_t e ho) hat)⟩
theorem dp_itemL {i : Int} (h : Dp K H0 v (.list ds)) (hi : atI ds i = some d) : ∃ u, Dp K H0 u d ∧ ∀ {ta tb : TE} {σ : L2.St} {H : Hp}, Ex H0 H → Ev ta σ H v → Ev tb σ H (.int i) → Ev (tOp (rIxL K) ta tb) σ H u := by
  cases h with
  | lst ho hd =>
    rename_i a xs
    obtain ⟨j, h1, h2, h3, _⟩ := atI_get hi
    obtain ⟨w, h4, h5⟩ := dpAll_get hd h2
    have hat : atI xs i = some w := by
      unfold atI at hi ⊢
      rw [dpAll_len hd]
      cases e5 : ixN ds.length i with
      | none => rw [e5] at hi; cases hi
      | some k =>
        have hk := (ixN_seq e5).1
        rw [hk] at h1
        cases h1
        exact h4
    exact ⟨w, h5, fun e h1 h2 => ev_op h1 h2 (rv_ixL (ex_l e ho) hat)⟩
/-- loops over it -/
theorem s_forV (h : Ev tl σ H v) (hv : Dp K H0 v (.list ds)) (e0 : Ex H0 H) (Pv : Nat → L2.St → Hp → Prop) (h0 : ∀ H1, Ex H H1 → Pv 0 σ H1) (hx : ∀ i σ' H', Pv i σ' H' → Ex H0 H')
    (hs : ∀ i d x σ' H', ds[i]? = some d → Dp K H0 x d → Pv i σ' H' → g x σ' H' fun σ2 H2 => tu { D with nx := Pv (i + 1), ct := Pv (i + 1), bk := D.nx } σ2 H2)
    (hd : ∀ σ' H', Pv ds.length σ' H' → D.nx σ' H') : tFor (iList K tl) g tu D σ H := by
  cases hv with
  | lst ho hda =>
    rename_i a xs
    have hlen := dpAll_len hda
    refine s_forL h (ex_l e0 ho) Pv h0 (fun i σ' H' _ p => ex_l (hx i σ' H' p) ho) (fun i x σ' H' hx' p => ?_) (fun σ' H' p => hd σ' H' (by rw [← hlen]; exact p))
    obtain ⟨d, hd1, hd2⟩ := dpAll_getV hda hx'
    exact hs i d x σ' H' hd1 hd2 p
theorem q_forV (h : Ev tl σ H v) (hv : Dp K H0 v (.list ds)) (e0 : Ex H0 H) (Pv : Nat → L2.St → Hp → Prop) (h0 : ∀ H1, Ex H H1 → Pv 0 σ H1) (hx : ∀ i σ' H', Pv i σ' H' → Ex H0 H')
    (hs : ∀ i d x σ' H', ds[i]? = some d → Dp K H0 x d → Pv i σ' H' → g x σ' H' fun σ2 H2 => tu { D with nx := Pv (i + 1), ct := Pv (i + 1), bk := tz D } σ2 H2)
    (hd : ∀ σ' H', Pv ds.length σ' H' → tz D σ' H') : tSeq (tFor (iList K tl) g tu) tz D σ H := s_forV (D := { D with nx := tz D }) h hv e0 Pv h0 hx hs hd
/-- comprehensions over it -/
theorem filt_take {α β : Type} {xs : List α} {i : Nat} {a : α} (h : xs[i]? = some a) (p : α → Bool) (w : α → β) : ((xs.take (i + 1)).filter p).map w = ((xs.take i).filter p).map w ++ (if p a = true then [w a] else []) := by
  have e : xs.take (i + 1) = xs.take i ++ [a] := by rw [List.take_succ, h]; rfl
  rw [e, List.filter_append, List.map_append]
  by_cases hp : p a = true
  · simp [hp]
  · simp [hp]
theorem lt_lcV {α : Type} {Dd : α → PyData} {xs : List α} {lv : V} {vs : List Nat} (p : α → Bool) (w : α → PyData) (h : Ev tl σ H lv) (hl : Dp K H lv (.list (xs.map Dd))) (hn : xs.length ≤ 40000)
    (hg : ∀ a, a ∈ xs → ∀ x H1, Ex H H1 → Dp K H x (Dd a) → ∀ Q : L2.St → Hp → Prop, (∀ σ2, wipe σ2 vs = wipe σ vs → EvT t σ2 H1 (p a) → (p a = true → EvTd te σ2 H1 (w a)) → Q σ2 H1) → g x (wipe σ vs) H1 Q) :
    EvLT (tLc (iList K tl) g t te vs) σ H ((xs.filter p).map w) := fun H1 e Q q => h H1 e _ fun H2 e2 => by
  cases hl with
  | lst ho hda =>
    rename_i a ys
    have hlen := dpAll_len hda
    rw [List.length_map] at hlen
    have e02 := e.trans e2
    refine ⟨a, rfl, ⟨ys, ex_l e02 ho⟩, fun Dl hD => lc_list (K := K) (a := a) (xs := ys) (fun i H' => H2 Dl = none ∧ Ex H2 H' ∧ LstT H' Dl (((xs.take i).filter p).map w)) ⟨hD, Ex.new hD, ⟨[], upd_same, .nil⟩⟩ (fun i H' _ pp => ex_l (e02.trans pp.2.1) ho) (fun i x H' hx pp => ?_) (fun H' pp => ?_)⟩
    · obtain ⟨p1, p2, zs, p3, p4⟩ := pp
      obtain ⟨d, hd1, hd2⟩ := dpAll_getV hda hx
      rw [List.getElem?_map] at hd1
      obtain ⟨b, hb, rfl⟩ := Option.map_eq_some_iff.mp hd1
      have hil : i < xs.length := (List.getElem?_eq_some_iff.mp hb).1
      refine hg b (List.mem_of_getElem? hb) x H' (e02.trans p2) hd2 _ fun σ2 hw ht he => ⟨hw, ht H' (Ex.refl H') _ fun H3 e3 => ?_⟩
      cases hf : p b with
      | true =>
        show te σ2 H3 fun y H4 => ∃ acc, H4 Dl = some (.lst acc) ∧ acc.length < sizeLine ∧ (H2 Dl = none ∧ Ex H2 (upd H4 Dl (.lst (acc ++ [y]))) ∧ LstT (upd H4 Dl (.lst (acc ++ [y]))) Dl (((xs.take (i + 1)).filter p).map w))
        refine he hf H3 e3 _ fun y H4 e4 q4 => ⟨zs, e4 Dl _ (e3 Dl _ p3), sz_lt ?_, p1, Ex.mut ((p2.trans e3).trans e4) p1, ?_⟩
        · rw [p4.len, List.length_map]
          have h1 := List.length_filter_le p (xs.take i)
          have h2 := List.length_take_le i xs
          omega
        · rw [filt_take hb, if_pos hf]
          exact LstT.push (e4 Dl _ (e3 Dl _ p3)) (p4.ex (e3.trans e4)) q4
      | false =>
        show H2 Dl = none ∧ Ex H2 H3 ∧ LstT H3 Dl (((xs.take (i + 1)).filter p).map w)
        refine ⟨p1, p2.trans e3, ?_⟩
        rw [filt_take hb, if_neg (by rw [hf]; simp), List.append_nil]
        exact ⟨zs, e3 Dl _ p3, p4.ex e3⟩
    · obtain ⟨p1, p2, p3⟩ := pp
      rw [hlen, List.take_length] at p3
      exact q Dl H' (fresh_back e2 p1) (e2.trans p2) p3
/-- clear -/
theorem q_clear {l : Addr} {xs : List V} (ha : Ev ta σ H (.ref l)) (hl : H l = some (.lst xs)) (k : ∀ H1, Ex H H1 → H1 l = some (.lst xs) → tz D σ (upd H1 l (.lst []))) : tSeq (tDrop (tBM0 K "list" rClear ta)) tz D σ H := ha H (Ex.refl H) _ fun H1 e1 => ⟨Or.inl ⟨rfl, xs, sq_of (e1 l _ hl)⟩, l, xs, rfl, rfl, e1 l _ hl, k H1 e1 (e1 l _ hl)⟩
end
section
variable {K : PySem.W.Frag} {σ : L2.St} {H H' H0 : Hp} {ta tb te tl : TE} {v : V} {tr : TA}
theorem rv_eqB {a b : Bool} : RV rEq (.bl a) (.bl b) H (.bl (decide (a = b))) := fun H1 e Q q => ⟨rfl, by
  have e2 : decide (V.bl a = V.bl b) = decide (a = b) := by simp
  rw [e2]
  exact q H1 (Ex.refl H1)⟩
theorem rv_neB {a b : Bool} : RV rNe (.bl a) (.bl b) H (.bl (!decide (a = b))) := fun H1 e Q q => ⟨rfl, by
  have e2 : decide (V.bl a = V.bl b) = decide (a = b) := by simp
  rw [e2]
  exact q H1 (Ex.refl H1)⟩
theorem rv_eqS {a b : Str} : RV rEq (.str a) (.str b) H (.bl (decide (a = b))) := fun H1 e Q q => ⟨rfl, by
  have e2 : decide (V.str a = V.str b) = decide (a = b) := by simp
  rw [e2]
  exact q H1 (Ex.refl H1)⟩
theorem rv_neS {a b : Str} : RV rNe (.str a) (.str b) H (.bl (!decide (a = b))) := fun H1 e Q q => ⟨rfl, by
  have e2 : decide (V.str a = V.str b) = decide (a = b) := by simp
  rw [e2]
  exact q H1 (Ex.refl H1)⟩
end

/-! ### the data of mazes -/
abbrev Key2 := Int × Int
abbrev Door := Int × Int × Option Int
def lockD : Option Int → PyData
  | none => .none
  | some k => .int k
def doorD (d : Door) : PyData := .tuple [.int d.1, .int d.2.1, lockD d.2.2]
def keyD (k : Key2) : PyData := .tuple [.int k.1, .int k.2]
def intsD (ns : List Int) : PyData := .tuple (ns.map PyData.int)
mutual
def nb : PyData → Bool
  | .none => true
  | .int _ => true
  | .list xs => nbAll xs
  | .tuple xs => nbAll xs
  | _ => false
def nbAll : List PyData → Bool
  | [] => true
  | x :: xs => nb x && nbAll xs
end
mutual
theorem nb_lay : ∀ d : PyData, nb d = true → d.canLay0 = true
  | .none, _ => by simp only [PyData.canLay0]
  | .int _, _ => by simp only [PyData.canLay0]
  | .bool _, h => by simp [nb] at h
  | .str _, h => by simp [nb] at h
  | .dict _, h => by simp [nb] at h
  | .list xs, h => by simp only [PyData.canLay0]; exact nb_layAll xs (by simpa only [nb] using h)
  | .tuple xs, h => by simp only [PyData.canLay0]; exact nb_layAll xs (by simpa only [nb] using h)
theorem nb_layAll : ∀ ds : List PyData, nbAll ds = true → PyData.canLayAll0 ds = true
  | [], _ => by simp only [PyData.canLayAll0]
  | x :: xs, h => by
    simp only [nbAll, Bool.and_eq_true] at h
    simp only [PyData.canLayAll0, Bool.and_eq_true]
    exact ⟨nb_lay x h.1, nb_layAll xs h.2⟩
end
mutual
theorem eqv_nb : ∀ d e : PyData, nb d = true → nb e = true → (PyData.eqv d e = true ↔ d = e)
  | .none, .none, _, _ => by simp [PyData.eqv]
  | .none, .int _, _, _ => by simp [PyData.eqv]
  | .none, .list _, _, _ => by simp [PyData.eqv]
  | .none, .tuple _, _, _ => by simp [PyData.eqv]
  | .int _, .none, _, _ => by simp [PyData.eqv]
  | .int i, .int j, _, _ => by simp [PyData.eqv]
  | .int _, .list _, _, _ => by simp [PyData.eqv]
  | .int _, .tuple _, _, _ => by simp [PyData.eqv]
  | .list _, .none, _, _ => by simp [PyData.eqv]
  | .list _, .int _, _, _ => by simp [PyData.eqv]
  | .list xs, .list ys, h, q => by
    simp only [PyData.eqv, PyData.list.injEq]
    exact eqv_nbAll xs ys (by simpa only [nb] using h) (by simpa only [nb] using q)
  | .list _, .tuple _, _, _ => by simp [PyData.eqv]
  | .tuple _, .none, _, _ => by simp [PyData.eqv]
  | .tuple _, .int _, _, _ => by simp [PyData.eqv]
  | .tuple _, .list _, _, _ => by simp [PyData.eqv]
  | .tuple xs, .tuple ys, h, q => by
    simp only [PyData.eqv, PyData.tuple.injEq]
    exact eqv_nbAll xs ys (by simpa only [nb] using h) (by simpa only [nb] using q)
  | .bool _, _, h, _ => by simp [nb] at h
  | .str _, _, h, _ => by simp [nb] at h
  | .dict _, _, h, _ => by simp [nb] at h
  | .none, .bool _, _, h => by simp [nb] at h
  | .none, .str _, _, h => by simp [nb] at h
  | .none, .dict _, _, h => by simp [nb] at h
  | .int _, .bool _, _, h => by simp [nb] at h
  | .int _, .str _, _, h => by simp [nb] at h
  | .int _, .dict _, _, h => by simp [nb] at h
  | .list _, .bool _, _, h => by simp [nb] at h
  | .list _, .str _, _, h => by simp [nb] at h
  | .list _, .dict _, _, h => by simp [nb] at h
  | .tuple _, .bool _, _, h => by simp [nb] at h
  | .tuple _, .str _, _, h => by simp [nb] at h
  | .tuple _, .dict _, _, h => by simp [nb] at h
theorem eqv_nbAll : ∀ ds es : List PyData, nbAll ds = true → nbAll es = true → (PyData.eqvAll ds es = true ↔ ds = es)
  | [], [], _, _ => by simp [PyData.eqvAll]
  | [], _ :: _, _, _ => by simp [PyData.eqvAll]
  | _ :: _, [], _, _ => by simp [PyData.eqvAll]
  | x :: xs, y :: ys, h, q => by
    simp only [nbAll, Bool.and_eq_true] at h q
    simp only [PyData.eqvAll, Bool.and_eq_true, List.cons.injEq, eqv_nb x y h.1 q.1, eqv_nbAll xs ys h.2 q.2]
end
theorem eqv_self {d : PyData} (h : nb d = true) : PyData.eqv d d = true := (eqv_nb d d h h).mpr rfl
theorem eqv_dec {d e : PyData} {p : Prop} [Decidable p] (h : nb d = true) (q : nb e = true) (k : d = e ↔ p) : PyData.eqv d e = decide p := by
  by_cases c : p
  · rw [decide_eq_true c]
    exact (eqv_nb d e h q).mpr (k.mpr c)
  · rw [decide_eq_false c]
    cases z : PyData.eqv d e with
    | false => rfl
    | true => exact absurd (k.mp ((eqv_nb d e h q).mp z)) c
theorem nbAll_iff : ∀ {ds : List PyData}, nbAll ds = true ↔ ∀ d ∈ ds, nb d = true
  | [] => by simp [nbAll]
  | x :: xs => by simp [nbAll, nbAll_iff (ds := xs)]
theorem nbAll_map {α : Type} {f : α → PyData} (h : ∀ a, nb (f a) = true) (l : List α) : nbAll (l.map f) = true := nbAll_iff.mpr fun d hd => by
  obtain ⟨a, _, rfl⟩ := List.mem_map.mp hd
  exact h a
/-- depth -/
theorem depthAll_le {n : Nat} : ∀ {ds : List PyData}, (∀ d ∈ ds, d.depth ≤ n) → PyData.depthAll ds ≤ n
  | [], _ => by simp [PyData.depthAll]
  | x :: xs, h => by
    have h1 := h x (by simp)
    have h2 := depthAll_le (ds := xs) fun d hd => h d (by simp [hd])
    simp only [PyData.depthAll]
    omega
theorem depth_tuple {n : Nat} {ds : List PyData} (h : ∀ d ∈ ds, d.depth ≤ n) : PyData.depth (.tuple ds) ≤ n + 1 := by
  have := depthAll_le h
  simp only [PyData.depth]
  omega
theorem depth_list {n : Nat} {ds : List PyData} (h : ∀ d ∈ ds, d.depth ≤ n) : PyData.depth (.list ds) ≤ n + 1 := by
  have := depthAll_le h
  simp only [PyData.depth]
  omega
theorem depth_int (i : Int) : PyData.depth (.int i) = 0 := by simp [PyData.depth]
theorem depth_map {α : Type} {n : Nat} {f : α → PyData} (h : ∀ a, (f a).depth ≤ n) (l : List α) : ∀ d ∈ l.map f, d.depth ≤ n := fun d hd => by
  obtain ⟨a, _, rfl⟩ := List.mem_map.mp hd
  exact h a
theorem shaped_of {d : PyData} (h : nb d = true) (k : d.depth ≤ 64) : SeqAt.shaped d = true := by
  show (d.canLay0 && decide (d.depth ≤ 64)) = true
  rw [Bool.and_eq_true]
  exact ⟨nb_lay d h, decide_eq_true k⟩
theorem nb_lock (l : Option Int) : nb (lockD l) = true := by cases l <;> simp [lockD, nb]
theorem nb_door (d : Door) : nb (doorD d) = true := by simp [doorD, nb, nbAll, nb_lock]
theorem nb_key (k : Key2) : nb (keyD k) = true := by simp [keyD, nb, nbAll]
theorem nb_intD (i : Int) : nb (.int i) = true := by simp [nb]
theorem nb_ints (ns : List Int) : nb (intsD ns) = true := by simp only [intsD, nb]; exact nbAll_map nb_intD ns
theorem dep_lock (l : Option Int) : (lockD l).depth = 0 := by cases l <;> simp [lockD, PyData.depth]
theorem dep_door (d : Door) : (doorD d).depth ≤ 1 := by simp [doorD, PyData.depth, PyData.depthAll, dep_lock]
theorem dep_key (k : Key2) : (keyD k).depth ≤ 1 := by simp [keyD, PyData.depth, PyData.depthAll]
theorem dep_ints (ns : List Int) : (intsD ns).depth ≤ 1 := depth_tuple (depth_map (fun i => by simp [PyData.depth]) ns)
theorem sh_key (k : Key2) : SeqAt.shaped (keyD k) = true := shaped_of (nb_key k) (by have := dep_key k; omega)
theorem sh_ints (ns : List Int) : SeqAt.shaped (intsD ns) = true := shaped_of (nb_ints ns) (by have := dep_ints ns; omega)
theorem nb_keys (ks : List Key2) : nb (.list (ks.map keyD)) = true := by simp only [nb]; exact nbAll_map nb_key ks
theorem sh_keys (ks : List Key2) : SeqAt.shaped (.list (ks.map keyD)) = true := shaped_of (nb_keys ks) (by have := depth_list (depth_map dep_key ks); omega)
theorem nb_doors (ks : List Door) : nb (.list (ks.map doorD)) = true := by simp only [nb]; exact nbAll_map nb_door ks
theorem sh_doors (ks : List Door) : SeqAt.shaped (.list (ks.map doorD)) = true := shaped_of (nb_doors ks) (by have := depth_list (depth_map dep_door ks); omega)
theorem keyD_inj {a b : Key2} : keyD a = keyD b ↔ a = b := by
  obtain ⟨a1, a2⟩ := a
  obtain ⟨b1, b2⟩ := b
  simp [keyD]
theorem eqv_key (a b : Key2) : PyData.eqv (keyD a) (keyD b) = decide (a = b) := eqv_dec (nb_key a) (nb_key b) keyD_inj
theorem any_key (k : Key2) : ∀ ks : List Key2, ((ks.map keyD).any fun z => PyData.eqv z (keyD k)) = decide (k ∈ ks)
  | [] => by simp
  | a :: r => by
    have h := any_key k r
    rw [List.map_cons, List.any_cons, h, eqv_key]
    by_cases e : a = k
    · subst e; simp
    · have e2 : ¬ k = a := fun z => e z.symm
      simp [e, e2]
theorem map_inj {α β : Type} {f : α → β} (h : ∀ a b, f a = f b → a = b) : ∀ {l m : List α}, l.map f = m.map f → l = m
  | [], [], _ => rfl
  | [], _ :: _, e => by simp at e
  | _ :: _, [], e => by simp at e
  | a :: l, b :: m, e => by
    simp only [List.map_cons, List.cons.injEq] at e
    rw [h a b e.1, map_inj h e.2]
theorem intsD_inj {a b : List Int} : intsD a = intsD b ↔ a = b := by
  refine ⟨fun e => ?_, fun e => by rw [e]⟩
  simp only [intsD, PyData.tuple.injEq] at e
  exact map_inj (fun a b z => by simpa using z) e
theorem eqv_ints (a b : List Int) : PyData.eqv (intsD a) (intsD b) = decide (a = b) := eqv_dec (nb_ints a) (nb_ints b) intsD_inj
/-- the kinds of which p tells True, ascending -/
def kindsOf (p : Nat → Bool) : List Int := ((List.range 5).filter p).map fun (i : Nat) => (i : Int)
theorem kindsOf_data (p : Nat → Bool) : ((List.range 5).filter p).map (fun (i : Nat) => PyData.int (i : Int)) = (kindsOf p).map PyData.int := by
  unfold kindsOf
  rw [List.map_map]
  rfl
def keysIn (ks : List Key2) (room : Int) : List Int := kindsOf fun i => decide ((room, (i : Int)) ∈ ks)
def takenF (ks : List Key2) (room : Int) (held : List Int) : List Int := kindsOf fun i => decide ((i : Int) ∈ held) || decide ((room, (i : Int)) ∈ ks)
def mazeD (n : Int) (dd : List PyData) (ks : List Key2) : PyData := .tuple [.int n, .list dd, .list (ks.map keyD)]
/-- the room is there -/
abbrev Here (n room : Int) : Prop := 0 ≤ room ∧ room < n
/-- a cell of the script -/
def cellAt (ns : List Int) (k : Int) : Int := if k < ns.length then ns.getD k.toNat 0 else 0

section
variable {P : Program} {w : World} {K : PySem.W.Frag} {mg : Str → Option Value} {base : Heap}
/-! ### isinstance -/
theorem rc_isi {H : Hp} {x c : V} {t u : Value} {b : Bool} (kc : ClsV c u) (ty : ∀ H1, Ex H H1 → TyX K H1 x t) (hk : PySem.W.kitOne K t u = some b) : RC (rIsi K) [x, c] H (.bl b) := fun H1 e Q q => ⟨x, c, t, u, b, rfl, kc, ty H1 e, hk, q H1 (Ex.refl H1)⟩
theorem ty_tup {H : Hp} {v : V} {ds : List PyData} (h : Dp K H v (.tuple ds)) : TyX K H v (.type "tuple") := by
  cases h with
  | tup h _ =>
    rcases h with (h | ⟨o, h⟩) | ⟨o, its, n, h, hc, _⟩
    · exact .base (.tup h)
    · exact .fTuple h
    · exact .kTuple h hc
theorem ty_lst {H : Hp} {v : V} {ds : List PyData} (h : Dp K H v (.list ds)) : TyX K H v (.type "list") := by
  cases h with
  | lst h _ =>
    rcases h with (h | ⟨o, h⟩) | ⟨o, its, n, h, hc, _⟩
    · exact .base (.lst h)
    · exact .base (.frz h)
    · exact .kList h hc
theorem ev_isi {σ : L2.St} {H : Hp} {ta : TE} {v : V} {n m : String} {b : Bool} (h : Ev ta σ H v) (ty : ∀ H1, Ex H H1 → TyX K H1 v (.type n)) (hk : kitB n m = some b) : Ev (tCB (rIsi K) (tCons ta (tCons (tC (.ty m)) tNil))) σ H (.bl b) :=
  ev_cb (ea_cons h (ea_cons ev_c ea_nil)) (rc_isi (.ty m) ty (kit_ty hk))
theorem ev_isiD {σ : L2.St} {H : Hp} {ta : TE} {d : PyData} {n m : String} {b : Bool} (h : EvD K ta σ H d) (ty : ∀ v H1, Ex H H1 → Dp K H1 v d → TyX K H1 v (.type n)) (hk : kitB n m = some b) : Ev (tCB (rIsi K) (tCons ta (tCons (tC (.ty m)) tNil))) σ H (.bl b) := fun H1 e Q q =>
  h H1 e _ fun v H2 e2 p => ⟨v, .ty m, .type n, .type m, b, rfl, .ty m, ty v H2 (e.trans e2) p, kit_ty hk, q H2 e2⟩
theorem ev_isE {st : L2.St} {H : Hp} {ta : TE} {a D : Addr} {c : V} {cv : Value} {b : Bool} (h : Ev ta st H (.ref a)) (hc : ∀ u, L2.RelV c u → u = cv) (hk : PySem.W.kitOne K (.ref D) cv = some b) : Ev (tCB (rIsE K D a) (tCons ta (tCons (tC c) tNil))) st H (.bl b) :=
  ev_cb (ea_cons h (ea_cons ev_c ea_nil)) fun H1 _ Q q => ⟨c, cv, b, rfl, hc, hk, q H1 (Ex.refl H1)⟩
end

def mix (c k : Int) : Int := (c + 7919 * k + 1) * 48271 % 1000003 * ((c + 7919 * k + 1) * 48271 % 1000003) % 999983
theorem mix_pos (c k : Int) : 0 ≤ mix c k := Int.emod_nonneg _ (by decide)
theorem mix_lt (c k : Int) : mix c k < 999983 := Int.emod_lt_of_pos _ (by decide)
def sp_l_mix (K : PySem.W.Frag) : Sp := fun vs H Q _ => ∃ c k : Int, vs = [.int c, .int k] ∧ ∀ H2, Ex H H2 → Q (.int (mix c k)) H2
section
variable {P : Program} {w : World} {K : PySem.W.Frag} {mg : Str → Option Value} {base : Heap}
theorem ok_l_mix (T : Txt K mg) : Kept P w K mg base 1 "_law_mix" ["_law_cell", "_law_k"] (sp_l_mix K) := by
  refine T.d_l_mix.kept sc_l_mix (fun vs H Q E h => ?_) (fun cdv A outer s H vs Q E hr h => ?_)
  · obtain ⟨c, k, rfl, _⟩ := h
    rfl
  · obtain ⟨c, k, rfl, q⟩ := h
    refine ⟨_, (pss_cons (ps_set (i := 2) sc_l_mix.nd rfl (Or.inl rfl) (pe_op op_mod (pe_op op_mul (pe_op op_add (pe_op op_add (pv 0) (pe_op op_mul pe_int (pv 1))) pe_int) pe_int) pe_int))
      (pss_one (ps_ret (pe_op op_mod (pe_op op_mul (pv 2) (pv 2)) pe_int)))), ?_⟩
    refine q_asg (v := .int ((c + 7919 * k + 1) * 48271 % 1000003)) ?_ fun H1 e1 => ?_
    · walk_at "mz ev"
    refine s_ret (v := .int (mix c k)) ?_ fun H2 e2 => q _ (e1.trans e2)
    unfold mix
    walk_at "mz ev"
theorem sv_l_mix {H : Hp} {c k : Int} : SpV (sp_l_mix K) [.int c, .int k] H (.int (mix c k)) := fun H1 e Q q E => ⟨c, k, rfl, q⟩
end

section
variable {P : Program} {w : World} {K : PySem.W.Frag} {mg : Str → Option Value} {base : Heap}
/-! ### a cell of the script -/
def sp_l_cell_at (K : PySem.W.Frag) : Sp := fun vs H Q _ => ∃ (a : Addr) (ns : List Int) (k : Int), vs = [.ref a, .int k] ∧ SqL K H a (ns.map V.int) ∧ 0 ≤ k ∧ ∀ H2, Ex H H2 → Q (.int (cellAt ns k)) H2
theorem ok_l_cell_at (T : Txt K mg) : Kept P w K mg base 1 "_law_cell_at" ["_law_script", "_law_k"] (sp_l_cell_at K) := by
  refine T.d_l_cell_at.kept sc_l_cell_at (fun vs H Q E h => ?_) (fun cdv A outer s H vs Q E hr h => ?_)
  · obtain ⟨a, ns, k, rfl, _⟩ := h
    rfl
  · obtain ⟨a, ns, k, rfl, hS, h0, q⟩ := h
    refine ⟨_, (pss_cons (ps_if (pt_cmpR op_lt (pv 1) (pe_callB (call_len_seq_K (K := K) rfl) (by rfl) T.n_len (by decide +kernel) (pa_cons (pv 0) pa_nil)) (nomark _))
        (pss_one (ps_ret (pe_ix (ix_list_K (K := K) rfl) (pv 0) (pv 1) (fun _ _ => rfl))))
        pss_nil)
      (pss_one (ps_ret pe_int))), ?_⟩
    refine q_when (et_test (ev_op (ev_var rfl) (ev_lenS (ev_var rfl) hS) rv_I0)) (fun hb H1 e1 => ?_) (fun hb H1 e1 => ?_)
    · have hb' : k < (ns.map V.int).length := of_decide_eq_true hb
      rw [List.length_map] at hb'
      have e : (ns.map V.int)[k.toNat]? = some (.int (cellAt ns k)) := by
        have hl : k.toNat < ns.length := by omega
        rw [List.getElem?_map, List.getElem?_eq_getElem hl]
        simp [cellAt, hb', List.getD, List.getElem?_eq_getElem hl]
      refine s_ret (v := .int (cellAt ns k)) (ev_op (ev_var rfl) (ev_var rfl) (rv_ixL (ex_l e1 hS) ?_)) fun H2 e2 => q _ (e1.trans e2)
      exact at_of (by omega) e
    · have hb' : ¬ k < (ns.map V.int).length := of_decide_eq_false hb
      rw [List.length_map] at hb'
      have e : cellAt ns k = 0 := by simp [cellAt, hb']
      refine s_ret (v := .int 0) ev_c fun H2 e2 => ?_
      have := q _ (e1.trans e2)
      rw [e] at this
      exact this
theorem sv_l_cell_at {H : Hp} {a : Addr} {ns : List Int} {k : Int} (hS : SqL K H a (ns.map V.int)) (h0 : 0 ≤ k) : SpV (sp_l_cell_at K) [.ref a, .int k] H (.int (cellAt ns k)) := fun H1 e Q q E => ⟨a, ns, k, rfl, ex_l e hS, h0, q⟩
end

section
variable {P : Program} {w : World} {K : PySem.W.Frag} {mg : Str → Option Value} {base : Heap}
/-! ### a whole number -/
def sp_l_whole (K : PySem.W.Frag) : Sp := fun vs H Q _ => ∃ i : Int, vs = [.int i] ∧ ∀ H2, Ex H H2 → Q (.bl true) H2
theorem ok_l_whole (T : Txt K mg) : Kept P w K mg base 1 "_law_whole" ["_law_found"] (sp_l_whole K) := by
  refine T.d_l_whole.kept sc_l_whole (fun vs H Q E h => ?_) (fun cdv A outer s H vs Q E hr h => ?_)
  · obtain ⟨i, rfl, _⟩ := h
    rfl
  · obtain ⟨i, rfl, q⟩ := h
    refine ⟨_, (pss_one (ps_ret (pe_and (pe_callB (call_isi_K (K := K) rfl) (by rfl) T.n_isinstance (by decide +kernel) (pa_cons (pv 0) (pa_cons (pe_bltn (v := .ty "int") (u := .type "int") (by rfl) T.n_int (by decide +kernel) rfl) pa_nil))) (pe_one (pe_not (pe_callB (call_isi_K (K := K) rfl) (by rfl) T.n_isinstance (by decide +kernel) (pa_cons (pv 0) (pa_cons (pe_bltn (v := .ty "bool") (u := .type "bool") (by rfl) T.n_bool (by decide +kernel) rfl) pa_nil)))))))), ?_⟩
    refine s_ret (v := .bl (true && !false)) (ev_andV (ev_isi (n := "int") (ev_var rfl) (fun _ _ => .base (.int i)) (by decide +kernel)) fun _ => ev_notV (ev_isi (n := "int") (ev_var rfl) (fun _ _ => .base (.int i)) (by decide +kernel))) fun H1 e1 => q _ e1
theorem sv_l_whole {H : Hp} {i : Int} : SpV (sp_l_whole K) [.int i] H (.bl true) := fun H1 e Q q E => ⟨i, rfl, q⟩
end

/-! ### of laws -/
section
variable {K : PySem.W.Frag}
theorem cut_ints (ns : List Int) (lo hi : Option Int) : ∃ ms : List Int, cutV (ns.map V.int) lo hi = ms.map V.int ∧ ms.length ≤ ns.length := by
  refine ⟨(ns.drop (HT.sIx ns.length 0 lo)).take (HT.sIx ns.length ns.length hi - HT.sIx ns.length 0 lo), ?_, ?_⟩
  · unfold cutV
    simp [List.map_take, List.map_drop]
  · rw [List.length_take, List.length_drop]
    omega
theorem mod_here {n : Int} (h : 0 < n) (x : Int) : Here n (x % n) := ⟨Int.emod_nonneg _ (by omega), Int.emod_lt_of_pos _ h⟩
def sp_law (K : PySem.W.Frag) : Sp := fun vs H Q _ => ∃ (a : Addr) (ns : List Int), vs = [.ref a] ∧ SqL K H a (ns.map V.int) ∧ ns.length ≤ 63 ∧ ∀ H', Q (.bl true) H'
end

def mazeF (n : Int) (ds : List Door) (ks : List Key2) : PyData := mazeD n (ds.map doorD) ks
theorem nb_maze (n : Int) (ds : List Door) (ks : List Key2) : nb (mazeF n ds ks) = true := by
  have h1 := nb_doors ds
  have h2 := nb_keys ks
  simp only [mazeF, mazeD, nb, nbAll, Bool.and_eq_true, Bool.and_true, Bool.true_and]
  simp only [nb] at h1 h2
  exact ⟨h1, h2⟩
theorem sh_maze (n : Int) (ds : List Door) (ks : List Key2) : SeqAt.shaped (mazeF n ds ks) = true := shaped_of (nb_maze n ds ks) (by
  have h1 := depth_list (depth_map dep_door ds)
  have h2 := depth_list (depth_map dep_key ks)
  have := depth_tuple (n := 2) (ds := [.int n, .list (ds.map doorD), .list (ks.map keyD)]) (by
    intro d hd
    simp at hd
    rcases hd with rfl | rfl | rfl
    · simp [PyData.depth]
    · omega
    · omega)
  exact Nat.le_trans this (by decide))

section
variable {P : Program} {w : World} {K : PySem.W.Frag} {mg : Str → Option Value} {base : Heap}
/-! ### need_room -/
abbrev cNoRoom (K : PySem.W.Frag) : Value := .ref (He.ga K "NoRoom")
def sp_need_room (K : PySem.W.Frag) : Sp := fun vs H Q E => ∃ (v : V) (n room : Int) (rest : List PyData), vs = [v, .int room] ∧ Dp K H v (.tuple (.int n :: rest)) ∧ (Here n room → ∀ H2, Ex H H2 → Q .non H2) ∧ (¬ Here n room → ∀ H2, Ex H H2 → E (cNoRoom K) none H2)
theorem ok_need_room (T : Txt K mg) : Kept P w K mg base 1 "need_room" ["maze", "room"] (sp_need_room K) := by
  refine T.d_need_room.kept sc_need_room (fun vs H Q E h => ?_) (fun cdv A outer s H vs Q E hr h => ?_)
  · obtain ⟨v, n, room, rest, rfl, _⟩ := h
    rfl
  · obtain ⟨v, n, room, rest, rfl, hv, q, qe⟩ := h
    refine ⟨_, (pss_one (ps_if (PW.pt (pw_or (pt_cmpR op_lt (pv 1) pe_int (nomark _)) (pw_or1 (pt_cmpR op_ge (pv 1) (pe_ix (ix_tup_K (K := K) rfl) (pv 0) pe_int (fun _ _ => rfl)) (nomark _)))))
        (pss_one (ps_raise rfl (takes_of rfl rfl rfl rfl) (pmk_own PySem.F.excBase_ValueError T.e_NoRoom.xC T.e_NoRoom.gC T.e_NoRoom.kC (raises_own T.e_NoRoom.bC T.e_NoRoom.tC) rfl)))
        pss_nil)), ?_⟩
    refine s_when (b := decide (room < 0) || decide (n ≤ room)) (et_or (et_test (ev_op (ev_var rfl) ev_c rv_I0)) fun _ => et_test (ev_op (ev_var rfl) (ev_of_ed (ed_ixT (ed_any (ev_var rfl) hv) ev_c atI0)) rv_I0)) (fun hb H1 e1 => ?_) (fun hb H1 e1 => ?_)
    · refine qe (fun z => ?_) H1 e1
      obtain ⟨z1, z2⟩ := z
      simp at hb
      omega
    · refine q ?_ H1 e1
      simp at hb
      exact ⟨by omega, by omega⟩
end

section
variable {P : Program} {w : World} {K : PySem.W.Frag} {mg : Str → Option Value} {base : Heap}
/-! ### taken -/
def sp_taken (K : PySem.W.Frag) : Sp := fun vs H Q E => ∃ (v hv : V) (n room : Int) (dd : List PyData) (ks : List Key2) (held : List Int), vs = [v, .int room, hv] ∧ Dp K H v (mazeD n dd ks) ∧ Dp K H hv (intsD held) ∧ (Here n room → ∀ v H2, Ex H H2 → Td H2 v (intsD (takenF ks room held)) → Q v H2) ∧ (¬ Here n room → ∀ H2, Ex H H2 → E (cNoRoom K) none H2)
theorem taken_data (ks : List Key2) (room : Int) (held : List Int) : ((List.range (5 : Int).toNat).filter fun (i : Nat) => decide ((i : Int) ∈ held) || ((ks.map keyD).any fun z => PyData.eqv z (keyD (room, (i : Int))))).map (fun (i : Nat) => PyData.int (i : Int)) = (takenF ks room held).map PyData.int := by
  rw [show (5 : Int).toNat = 5 from rfl, kindsOf_data]
  unfold takenF
  congr 2
  funext i
  rw [any_key]
theorem ok_taken (T : Txt K mg) : Kept P w K mg base 2 "taken" ["maze", "room", "held"] (sp_taken K) := by
  refine T.d_taken.kept sc_taken (fun vs H Q E h => ?_) (fun cdv A outer s H vs Q E hr h => ?_)
  · obtain ⟨v, hv, n, room, dd, ks, held, rfl, _⟩ := h
    rfl
  · obtain ⟨v, hv, n, room, dd, ks, held, rfl, hm, hh, q, qe⟩ := h
    refine ⟨_, (pss_cons (ps_expr (pe_fn (ok_need_room (K := K) T) (hr.mono (by decide)) (passR (takes_of rfl rfl rfl rfl)) (by rfl) (pa_cons (pv 0) (pa_cons (pv 1) pa_nil))))
      (pss_one (ps_ret (pe_callTy (call_tuple_of_K (K := K) rfl) (by rfl) T.n_tuple (by decide +kernel) (pa_cons (pe_lc (own := [("kind", 3)]) (g := gName 3) rfl sc_taken.nd (pi_range1 (by rfl) T.n_range (pa_cons (pe_gint T.i_KINDS (by rfl)) pa_nil)) (blkOk_by (own := [("kind", 3)]) (N := ["maze", "room", "held", "kind"]) (sc := defScope s_taken) (by decide +kernel)) (fun _ _ _ _ _ => (pg_name (i := 3) sc_taken.nd rfl (Or.inl rfl))) (fun _ _ _ _ _ => pts_one (PW.pt (pw_or (pt_cmpR (op_in_seq_K (K := K) rfl) (pv 3) (pv 2) (by rfl)) (pw_or1 (pt_cmpR (op_inD_K (K := K) rfl (u65 hr)) (pe_tup (pa_cons (pv 1) (pa_cons (pv 3) pa_nil))) (pe_ix (ix_tup_K (K := K) rfl) (pv 0) pe_int (fun _ _ => rfl)) (by rfl)))))) (fun _ _ _ _ _ => (pv 3))) pa_nil))))), ?_⟩
    refine ⟨_, rfl, _, rfl, v, n, room, _, rfl, hm, fun hr1 H1 e1 => ?_, qe⟩
    have hm1 := dp_ex e1 hm
    have hh1 := dp_ex e1 hh
    dsimp only
    refine s_retP (P := fun v H' => Td H' v (intsD (takenF ks room held))) ?_ ?_
    rotate_left
    · exact fun v H2 e2 p => q hr1 v H2 (e1.trans e2) p
    unfold intsD
    rw [← taken_data]
    refine td_tupleL (lt_lcR1 (n := 5) (fun (i : Nat) => decide ((i : Int) ∈ held) || ((ks.map keyD).any fun z => PyData.eqv z (keyD (room, (i : Int))))) (fun (i : Nat) => PyData.int (i : Int)) (ea_cons ev_c ea_nil) (by decide) (fun x => rfl) (fun i H2 e2 hi => ?_) (fun i H2 e2 hi _ => td_int (ev_var rfl)))
    refine et_or (et_test (ev_inI (ev_var rfl) (.inl (ed_any (ev_var rfl) (dp_ex e2 hh1))))) fun _ => ?_
    exact et_test (ev_inD (ed_td (td_tup (ea_tc (td_int (ev_var rfl)) (ea_tc (td_int (ev_var rfl)) ea_tn)) (by simp))) (ed_ixT (ed_any (ev_var rfl) (dp_ex e2 hm1)) ev_c rfl) (sh_key _) (sh_keys ks))
end

/-! ### doors that open -/
def opensF (d : Door) (held : List Int) : Bool := match d.2.2 with
  | none => true
  | some k => decide (k ∈ held)
section
variable {P : Program} {w : World} {K : PySem.W.Frag} {mg : Str → Option Value} {base : Heap}
def sp_opens (K : PySem.W.Frag) : Sp := fun vs H Q _ => ∃ (v hv : V) (d : Door) (held : List Int), vs = [v, hv] ∧ Dp K H v (doorD d) ∧ Dp K H hv (intsD held) ∧ ∀ H2, Ex H H2 → Q (.bl (opensF d held)) H2
/-- l is None or l in held -/
theorem ev_open {σ : L2.St} {H : Hp} {t1 t2 t3 : TE} {l : Option Int} {d1 d2 : Int} {held : List Int} (h1 : EvD K t1 σ H (lockD l)) (h2 : EvD K t2 σ H (lockD l)) (h3 : EvD K t3 σ H (intsD held)) : Ev (tOrV (tOp (fun x y H Q => y = .non ∧ Q (.bl (decide (x = .non))) H) t1 (tC .non)) (tOp (rIn K false) t2 t3)) σ H (.bl (opensF (d1, d2, l) held)) := by
  cases l with
  | none => exact ev_is (ev_orV (b := true) (ev_isN (ev_of_edN h1)) (fun z => by simp at z)) (by simp [opensF])
  | some k => exact ev_is (ev_orV (ev_isN (ev_of_ed h1)) (fun _ => ev_inI (ev_of_ed h2) (.inl h3))) (by simp [opensF])
theorem et_open {σ : L2.St} {H : Hp} {t1 t2 t3 : TE} {l : Option Int} {d1 d2 : Int} {held : List Int} (h1 : EvD K t1 σ H (lockD l)) (h2 : EvD K t2 σ H (lockD l)) (h3 : EvD K t3 σ H (intsD held)) : EvT (tOr (tTest (tOp (fun x y H Q => y = .non ∧ Q (.bl (decide (x = .non))) H) t1 (tC .non))) (tTest (tOp (rIn K false) t2 t3))) σ H (opensF (d1, d2, l) held) := by
  cases l with
  | none =>
    have h := et_or (b := true) (u := tTest (tOp (rIn K false) t2 t3)) (et_test (ev_isN (ev_of_edN h1))) (fun z => by simp at z)
    simpa [opensF] using h
  | some k =>
    have h := et_or (et_test (ev_isN (ev_of_ed h1))) (fun _ => et_test (ev_inI (ev_of_ed h2) (.inl h3)))
    simpa [opensF] using h
theorem ok_opens (T : Txt K mg) : Kept P w K mg base 1 "opens" ["door", "held"] (sp_opens K) := by
  refine T.d_opens.kept sc_opens (fun vs H Q E h => ?_) (fun cdv A outer s H vs Q E hr h => ?_)
  · obtain ⟨v, hv, d, held, rfl, _⟩ := h
    rfl
  · obtain ⟨v, hv, ⟨d1, d2, l⟩, held, rfl, hd, hh, q⟩ := h
    refine ⟨_, (pss_one (ps_ret (pe_or (pe_cmpR op_isN (pe_ix (ix_tup_K (K := K) rfl) (pv 0) pe_int (fun _ _ => rfl)) pe_non (nomark _)) (pe_one (pe_cmpR (op_in_seq_K (K := K) rfl) (pe_ix (ix_tup_K (K := K) rfl) (pv 0) pe_int (fun _ _ => rfl)) (pv 1) (by rfl)))))), ?_⟩
    exact s_ret (ev_open (d1 := d1) (d2 := d2) (ed_ixT (ed_any (ev_var rfl) hd) ev_c atI2) (ed_ixT (ed_any (ev_var rfl) hd) ev_c atI2) (ed_any (ev_var rfl) hh)) fun H2 e2 => q H2 e2
theorem sv_opens {H : Hp} {v hv : V} {d : Door} {held : List Int} (h1 : Dp K H v (doorD d)) (h2 : Dp K H hv (intsD held)) : SpV (sp_opens K) [v, hv] H (.bl (opensF d held)) := fun H1 e Q q E => ⟨v, hv, d, held, rfl, dp_ex e h1, dp_ex e h2, q⟩
theorem td_takenC {σ : L2.St} {H : Hp} {tr : TA} {E : XK} {v hv : V} {n room : Int} {dd : List PyData} {ks : List Key2} {held : List Int} (h : EvA tr σ H [v, .int room, hv]) (hm : Dp K H v (mazeD n dd ks)) (hh : Dp K H hv (intsD held)) (hr : Here n room) : EvTd (tCall (sp_taken K) [] E tr) σ H (intsD (takenF ks room held)) := fun H1 e Q q => h H1 e _ fun H2 e2 => ⟨v, hv, n, room, dd, ks, held, rfl, dp_ex (e.trans e2) hm, dp_ex (e.trans e2) hh, fun _ v H3 e3 p => q v H3 (e2.trans e3) p, fun z => absurd hr z⟩
end

section
variable {P : Program} {w : World} {K : PySem.W.Frag} {mg : Str → Option Value} {base : Heap}
/-! ### the keys taken, as the law has it -/
def sp_l_taken (K : PySem.W.Frag) : Sp := fun vs H Q _ => ∃ (v hv : V) (room : Int) (ks : List Key2) (held : List Int), vs = [v, .int room, hv] ∧ Dp K H v (.list (ks.map keyD)) ∧ Dp K H hv (intsD held) ∧ ∀ v H2, Ex H H2 → Td H2 v (intsD (takenF ks room held)) → Q v H2
theorem ok_l_taken (T : Txt K mg) : Kept P w K mg base 1 "_law_taken" ["_law_lying_here", "_law_room", "_law_held"] (sp_l_taken K) := by
  refine T.d_l_taken.kept sc_l_taken (fun vs H Q E h => ?_) (fun cdv A outer s H vs Q E hr h => ?_)
  · obtain ⟨v, hv, room, ks, held, rfl, _⟩ := h
    rfl
  · obtain ⟨v, hv, room, ks, held, rfl, hm, hh, q⟩ := h
    refine ⟨_, (pss_cons (ps_setLc (i := 3) (own := [("_law_kind", 4)]) (g := gName 4) rfl sc_l_taken.nd rfl rfl (sw_true rfl rfl rfl (by decide +kernel)) (pi_range1 (by rfl) T.n_range (pa_cons pe_int pa_nil)) (blkOk_by (own := [("_law_kind", 4)]) (N := ["_law_lying_here", "_law_room", "_law_held", "_law_made", "_law_kind"]) (sc := defScope s_l_taken) (by decide +kernel)) (fun _ _ _ _ _ => (pg_name (i := 4) sc_l_taken.nd rfl (Or.inl rfl))) (fun _ _ _ _ _ => pts_one (PW.pt (pw_or (pt_cmpR (op_in_seq_K (K := K) rfl) (pv 4) (pv 2) (by rfl)) (pw_or1 (pt_cmpR (op_inD_K (K := K) rfl (u65 hr)) (pe_tup (pa_cons (pv 1) (pa_cons (pv 4) pa_nil))) (pv 0) (by rfl)))))) (fun _ _ _ _ _ => (pv 4)))
      (pss_one (ps_ret (pe_callTy (call_tuple_of_K (K := K) rfl) (by rfl) T.n_tuple (by decide +kernel) (pa_cons (pv 3) pa_nil))))), ?_⟩
    refine q_asgLT (ds := (takenF ks room held).map PyData.int) ?_ fun l H1 nl e1 hl => ?_
    · rw [← taken_data]
      refine lt_lcR1 (n := 5) (fun (i : Nat) => decide ((i : Int) ∈ held) || ((ks.map keyD).any fun z => PyData.eqv z (keyD (room, (i : Int))))) (fun (i : Nat) => PyData.int (i : Int)) (ea_cons ev_c ea_nil) (by decide) (fun x => rfl) (fun i H2 e2 hi => ?_) (fun i H2 e2 hi _ => td_int (ev_var rfl))
      refine et_or (et_test (ev_inI (ev_var rfl) (.inl (ed_any (ev_var rfl) (dp_ex e2 hh))))) fun _ => ?_
      exact et_test (ev_inD (ed_td (td_tup (ea_tc (td_int (ev_var rfl)) (ea_tc (td_int (ev_var rfl)) ea_tn)) (by simp))) (ed_any (ev_var rfl) (dp_ex e2 hm)) (sh_key _) (sh_keys ks))
    · exact s_retP (td_tupleV (ev_var rfl) hl) fun v H2 e2 p => q v H2 (e1.trans e2) p
theorem td_l_takenC {σ : L2.St} {H : Hp} {tr : TA} {E : XK} {v hv : V} {room : Int} {ks : List Key2} {held : List Int} (h : EvA tr σ H [v, .int room, hv]) (hm : Dp K H v (.list (ks.map keyD))) (hh : Dp K H hv (intsD held)) : EvTd (tCall (sp_l_taken K) [] E tr) σ H (intsD (takenF ks room held)) := fun H1 e Q q => h H1 e _ fun H2 e2 => ⟨v, hv, room, ks, held, rfl, dp_ex (e.trans e2) hm, dp_ex (e.trans e2) hh, fun v H3 e3 p => q v H3 (e2.trans e3) p⟩
end

/-! ### kinds, in plain -/
theorem kindsOf_lt (p : Nat → Bool) : (kindsOf p).Pairwise (· < ·) := by
  unfold kindsOf
  exact List.Pairwise.map _ (fun a b h => Int.ofNat_lt.mpr h) (List.Pairwise.filter _ List.pairwise_lt_range)
theorem mem_kindsOf {p : Nat → Bool} {x : Int} : x ∈ kindsOf p ↔ ∃ i : Nat, i < 5 ∧ p i = true ∧ x = (i : Int) := by
  unfold kindsOf
  simp only [List.mem_map, List.mem_filter, List.mem_range]
  constructor
  · rintro ⟨i, ⟨h1, h2⟩, rfl⟩
    exact ⟨i, h1, h2, rfl⟩
  · rintro ⟨i, h1, h2, rfl⟩
    exact ⟨i, ⟨h1, h2⟩, rfl⟩
theorem mem_kinds {p : Nat → Bool} {i : Nat} (h : i < 5) : (i : Int) ∈ kindsOf p ↔ p i = true := by
  rw [mem_kindsOf]
  constructor
  · rintro ⟨j, h1, h2, h3⟩
    have : i = j := by omega
    subst this
    exact h2
  · intro z
    exact ⟨i, h, z, rfl⟩
theorem kindsOf_congr {p q : Nat → Bool} (h : ∀ i, i < 5 → p i = q i) : kindsOf p = kindsOf q := by
  unfold kindsOf
  congr 1
  exact List.filter_congr fun i hi => h i (List.mem_range.mp hi)
theorem nodup_of_lt {l : List Int} (h : l.Pairwise (· < ·)) : l.Nodup := h.imp fun h => by omega
theorem le_of_lt_ {l : List Int} (h : l.Pairwise (· < ·)) : l.Pairwise (· ≤ ·) := h.imp fun h => by omega
/-- no more of them than there are -/
theorem nodup_sub_len {α : Type} [DecidableEq α] : ∀ {l m : List α}, l.Nodup → (∀ x ∈ l, x ∈ m) → l.length ≤ m.length
  | [], m, _, _ => by simp
  | a :: r, m, h, s => by
    have h1 := List.nodup_cons.mp h
    have ha : a ∈ m := s a (by simp)
    have h2 := nodup_sub_len (m := m.erase a) h1.2 fun x hx => by
      have hne : x ≠ a := fun z => h1.1 (by rw [← z]; exact hx)
      exact (List.mem_erase_of_ne hne).mpr (s x (by simp [hx]))
    rw [List.length_erase_of_mem ha] at h2
    have h3 : 0 < m.length := List.length_pos_of_mem ha
    simp only [List.length_cons]
    omega
def upTo (n : Int) : List Int := (List.range n.toNat).map fun (i : Nat) => (i : Int)
theorem mem_upTo {n x : Int} : x ∈ upTo n ↔ Here n x := by
  unfold upTo
  simp only [List.mem_map, List.mem_range]
  constructor
  · rintro ⟨i, h, rfl⟩
    exact ⟨by omega, by omega⟩
  · rintro ⟨h1, h2⟩
    exact ⟨x.toNat, by omega, by omega⟩
theorem upTo_len (n : Int) : (upTo n).length = n.toNat := by simp [upTo]
theorem here_len {n : Int} {l : List Int} (hd : l.Nodup) (h : ∀ x ∈ l, Here n x) : l.length ≤ n.toNat := by
  have := nodup_sub_len (m := upTo n) hd fun x hx => mem_upTo.mpr (h x hx)
  rw [upTo_len] at this
  exact this
theorem takenF_mem {ks : List Key2} {room : Int} {held : List Int} {i : Nat} (h : i < 5) : (i : Int) ∈ takenF ks room held ↔ (i : Int) ∈ held ∨ (room, (i : Int)) ∈ ks := by
  unfold takenF
  rw [mem_kinds h]
  simp

/-! ### how the mazes are built -/
def SizeOk (f n : Int) : Prop := 1 ≤ n ∧ n ≤ 60 ∧ (f % 12 = 4 → 40 ≤ n) ∧ (f % 12 = 10 → 20 ≤ n ∧ n ≤ 40) ∧ (f % 12 = 7 → 12 ≤ n) ∧ (f % 12 = 5 → 8 ≤ n) ∧ (f % 12 = 9 → 15 ≤ n) ∧ (f % 12 = 6 ∨ f % 12 = 8 → 11 ≤ n ∧ n ≤ 23) ∧ (f % 6 = 2 → 2 ≤ n) ∧ (f % 6 = 3 → 2 ≤ n ∧ (f % 12 = 9 ∨ n ≤ 6))
def lockOk : Option Int → Bool
  | none => true
  | some k => decide (0 ≤ k) && decide (k < 5)
def WfD (n : Int) (d : Door) : Prop := Here n d.1 ∧ Here n d.2.1 ∧ lockOk d.2.2 = true
def DoorsOk (n : Int) (ds : List Door) : Prop := (∀ d ∈ ds, WfD n d) ∧ ds.length ≤ 1000
def KeysOk (n : Int) (ks : List Key2) : Prop := (∀ k ∈ ks, Here n k.1 ∧ Here 5 k.2) ∧ ks.length ≤ 100
theorem lockOk_getD {ls : List (Option Int)} (h : ls.all lockOk = true) (i : Nat) : lockOk (ls.getD i none) = true := by
  rw [List.getD_eq_getElem?_getD]
  cases e : ls[i]? with
  | none => rfl
  | some l =>
    have := List.all_eq_true.mp h l (List.mem_of_getElem? e)
    exact this
theorem wfd_append {n : Int} {ds : List Door} {d : Door} (h : ∀ d ∈ ds, WfD n d) (hd : WfD n d) : ∀ x ∈ ds ++ [d], WfD n x := fun x hx => by
  rcases List.mem_append.mp hx with h1 | h1
  · exact h x h1
  · simp at h1
    subst h1
    exact hd
section
variable {P : Program} {w : World} {K : PySem.W.Frag} {mg : Str → Option Value} {base : Heap}
/-- an item of a written list of locks -/
theorem td_ixLocks {σ : L2.St} {H : Hp} {tr : TA} {tb : TE} {ls : List (Option Int)} {i : Int} (h : EaTd tr σ H (ls.map lockD)) (hb : Ev tb σ H (.int i)) (h0 : 0 ≤ i) (h1 : i < (ls.length : Int)) (hl : ls.length ≤ 100000 := by first | decide | simp) : EvTd (tOp (rIxL K) (tLst tr) tb) σ H (lockD (ls.getD i.toNat none)) := by
  refine td_ixL (lt_lst h (by rw [List.length_map]; exact hl)) hb ?_
  have hl2 : i.toNat < ls.length := by omega
  have := at0 (ds := ls.map lockD) (j := i.toNat) (d := lockD (ls.getD i.toNat none)) (by rw [List.getElem?_map, List.getD_eq_getElem?_getD, List.getElem?_eq_getElem hl2]; rfl)
  rw [show ((i.toNat : Nat) : Int) = i by omega] at this
  exact this
theorem td_ixLocksV {σ : L2.St} {H : Hp} {ta tb : TE} {l : Addr} {ls : List (Option Int)} {i : Int} (ha : Ev ta σ H (.ref l)) (hl : LstT H l (ls.map lockD)) (hb : Ev tb σ H (.int i)) (h0 : 0 ≤ i) (h1 : i < (ls.length : Int)) : EvTd (tOp (rIxL K) ta tb) σ H (lockD (ls.getD i.toNat none)) := by
  refine td_ixLV ha hl hb ?_
  have hl2 : i.toNat < ls.length := by omega
  have := at0 (ds := ls.map lockD) (j := i.toNat) (d := lockD (ls.getD i.toNat none)) (by rw [List.getElem?_map, List.getD_eq_getElem?_getD, List.getElem?_eq_getElem hl2]; rfl)
  rw [show ((i.toNat : Nat) : Int) = i by omega] at this
  exact this
theorem td_door {σ : L2.St} {H : Hp} {t1 t2 t3 : TE} {a b : Int} {l : Option Int} (h1 : Ev t1 σ H (.int a)) (h2 : Ev t2 σ H (.int b)) (h3 : EvTd t3 σ H (lockD l)) : EvTd (tTup (tCons t1 (tCons t2 (tCons t3 tNil)))) σ H (doorD (a, b, l)) := td_tup (ea_tc (td_int h1) (ea_tc (td_int h2) (ea_tc h3 ea_tn))) (by simp)
theorem td_key {σ : L2.St} {H : Hp} {t1 t2 : TE} {a b : Int} (h1 : Ev t1 σ H (.int a)) (h2 : Ev t2 σ H (.int b)) : EvTd (tTup (tCons t1 (tCons t2 tNil))) σ H (keyD (a, b)) := td_tup (ea_tc (td_int h1) (ea_tc (td_int h2) ea_tn)) (by simp)
theorem td_lock0 {σ : L2.St} {H : Hp} {te : TE} (h : Ev te σ H .non) : EvTd te σ H (lockD none) := td_non h
theorem td_lock1 {σ : L2.St} {H : Hp} {te : TE} {i : Int} (h : Ev te σ H (.int i)) : EvTd te σ H (lockD (some i)) := td_int h
theorem ev_intB {σ : L2.St} {H : Hp} {ta : TE} {b : Bool} (h : Ev ta σ H (.bl b)) : Ev (tCB (fun xs H Q => (∃ i, xs = [.int i] ∧ Q (.int i) H) ∨ ∃ k, xs = [.bl k] ∧ Q (.int (if k then 1 else 0)) H) (tCons ta tNil)) σ H (.int (if b then 1 else 0)) := fun H1 e Q q => h H1 e _ fun H2 e2 => .inr ⟨b, rfl, q H2 e2⟩
theorem ev_min2 {σ : L2.St} {H : Hp} {ta tb : TE} {i j : Int} (ha : Ev ta σ H (.int i)) (hb : Ev tb σ H (.int j)) : Ev (tCB (fun xs H Q => ∃ i j, xs = [.int i, .int j] ∧ Q (.int (if j < i then j else i)) H) (tCons ta (tCons tb tNil))) σ H (.int (if j < i then j else i)) := fun H1 e Q q => ha H1 e _ fun H2 e2 => hb H2 (e.trans e2) _ fun H3 e3 => ⟨i, j, rfl, q H3 (e2.trans e3)⟩
theorem ev_in2 {σ : L2.St} {H : Hp} {ta : TE} {i a b : Int} (h : Ev ta σ H (.int i)) : Ev (tOp (rIn K false) ta (tTup (tCons (tC (.int a)) (tCons (tC (.int b)) tNil)))) σ H (.bl (decide (i ∈ [a, b]))) := ev_inW h (td_tup (ds := [.int a, .int b]) (ea_tc (td_int ev_c) (ea_tc (td_int ev_c) ea_tn)) (by simp))
theorem ev_ni2 {σ : L2.St} {H : Hp} {ta : TE} {i a b : Int} (h : Ev ta σ H (.int i)) : Ev (tOp (rIn K true) ta (tTup (tCons (tC (.int a)) (tCons (tC (.int b)) tNil)))) σ H (.bl (!decide (i ∈ [a, b]))) := ev_niW h (td_tup (ds := [.int a, .int b]) (ea_tc (td_int ev_c) (ea_tc (td_int ev_c) ea_tn)) (by simp))
/-! ### the size -/
def sp_l_size (K : PySem.W.Frag) : Sp := fun vs H Q _ => ∃ (a : Addr) (ns : List Int), vs = [.ref a] ∧ SqL K H a (ns.map V.int) ∧ ∀ n, SizeOk (cellAt ns 0) n → ∀ H2, Ex H H2 → Q (.int n) H2
theorem ok_l_size (T : Txt K mg) : Kept P w K mg base 2 "_law_size" ["_law_script"] (sp_l_size K) := by
  refine T.d_l_size.kept sc_l_size (fun vs H Q E h => ?_) (fun cdv A outer s H vs Q E hr h => ?_)
  · obtain ⟨a, ns, rfl, _⟩ := h
    rfl
  · obtain ⟨a, ns, rfl, hS, q⟩ := h
    refine ⟨_, (pss_cons (ps_set (i := 1) sc_l_size.nd rfl (Or.inl rfl) (pe_fn (ok_l_cell_at (K := K) T) (hr.mono (by decide)) passL (by rfl) (pa_cons (pv 0) (pa_cons pe_int pa_nil))))
      (pss_cons (ps_set (i := 2) sc_l_size.nd rfl (Or.inl rfl) (pe_fn (ok_l_mix (K := K) T) (hr.mono (by decide)) passL (by rfl) (pa_cons (pv 1) (pa_cons pe_int pa_nil))))
      (pss_cons (ps_if (pt_cmpR op_eq (pe_op op_mod (pv 1) pe_int) pe_int (nomark _))
        (pss_one (ps_ret (pe_op op_add pe_int (pe_op op_mod (pv 2) pe_int))))
        pss_nil)
      (pss_cons (ps_if (pt_cmpR op_eq (pe_op op_mod (pv 1) pe_int) pe_int (nomark _))
        (pss_one (ps_ret (pe_op op_add pe_int (pe_op op_mod (pv 2) pe_int))))
        pss_nil)
      (pss_cons (ps_if (pt_cmpR op_eq (pe_op op_mod (pv 1) pe_int) pe_int (nomark _))
        (pss_one (ps_ret (pe_op op_add pe_int (pe_op op_mod (pv 2) pe_int))))
        pss_nil)
      (pss_cons (ps_if (pt_cmpR op_eq (pe_op op_mod (pv 1) pe_int) pe_int (nomark _))
        (pss_one (ps_ret (pe_op op_add pe_int (pe_op op_mod (pv 2) pe_int))))
        pss_nil)
      (pss_cons (ps_if (pt_cmpR op_eq (pe_op op_mod (pv 1) pe_int) pe_int (nomark _))
        (pss_one (ps_ret (pe_op op_add pe_int (pe_op op_mod (pv 2) pe_int))))
        pss_nil)
      (pss_cons (ps_if (pt_cmpR (op_in_seq_K (K := K) rfl) (pe_op op_mod (pv 1) pe_int) (pe_tup (pa_cons pe_int (pa_cons pe_int pa_nil))) (by rfl))
        (pss_one (ps_ret (pe_ix (ix_list_K (K := K) rfl) (pe_lst (pa_cons pe_int (pa_cons pe_int (pa_cons pe_int pa_nil)))) (pe_op op_mod (pv 2) pe_int) (fun _ _ => rfl))))
        pss_nil)
      (pss_cons (ps_set (i := 3) sc_l_size.nd rfl (Or.inl rfl) (pe_lst (pa_cons pe_int (pa_cons pe_int (pa_cons pe_int (pa_cons pe_int (pa_cons pe_int (pa_cons pe_int pa_nil))))))))
      (pss_one (ps_ret (pe_op op_add (pe_op op_add pe_int (pe_op op_mod (pv 2) (pe_ix (ix_list_K (K := K) rfl) (pv 3) (pe_op op_mod (pv 1) pe_int) (fun _ _ => rfl)))) (pe_callTy call_int1 (by rfl) T.n_int (by decide +kernel) (pa_cons (pe_cmpR (op_in_seq_K (K := K) rfl) (pe_op op_mod (pv 1) pe_int) (pe_tup (pa_cons pe_int (pa_cons pe_int pa_nil))) (by rfl)) pa_nil)))))))))))))), ?_⟩
    obtain ⟨f, ef⟩ : ∃ f, cellAt ns 0 = f := ⟨_, rfl⟩
    rw [ef] at q
    refine q_asg (v := .int f) ?_ fun H1 e1 => ?_
    · rw [← ef]
      exact ev_call0 (ea_cons (ev_var rfl) (ea_cons ev_c ea_nil)) (sv_l_cell_at hS (by decide))
    obtain ⟨m, em⟩ : ∃ m, mix f 0 = m := ⟨_, rfl⟩
    have hm0 : 0 ≤ m := by rw [← em]; exact mix_pos _ _
    refine q_asg (v := .int m) ?_ fun H2 e2 => ?_
    · rw [← em]
      exact ev_call0 (ea_cons (ev_var rfl) (ea_cons ev_c ea_nil)) sv_l_mix
    have e12 := e1.trans e2
    refine q_when (b := decide (f % 12 = 4)) (by walk_at "mz ev") (fun hb H3 e3 => s_ret (v := .int (40 + m % 21)) (by walk_at "mz ev") fun H4 e4 => q _ ?_ H4 ((e12.trans e3).trans e4)) (fun hb H3 e3 => ?_)
    · have := of_decide_eq_true hb
      unfold SizeOk
      omega
    refine q_when (b := decide (f % 12 = 10)) (by walk_at "mz ev") (fun hb2 H4 e4 => s_ret (v := .int (20 + m % 21)) (by walk_at "mz ev") fun H5 e5 => q _ ?_ H5 (((e12.trans e3).trans e4).trans e5)) (fun hb2 H4 e4 => ?_)
    · have := of_decide_eq_true hb2
      unfold SizeOk
      omega
    refine q_when (b := decide (f % 12 = 7)) (by walk_at "mz ev") (fun hb3 H5 e5 => s_ret (v := .int (12 + m % 9)) (by walk_at "mz ev") fun H6 e6 => q _ ?_ H6 ((((e12.trans e3).trans e4).trans e5).trans e6)) (fun hb3 H5 e5 => ?_)
    · have := of_decide_eq_true hb3
      unfold SizeOk
      omega
    have e15 := ((e12.trans e3).trans e4).trans e5
    refine q_when (b := decide (f % 12 = 5)) (by walk_at "mz ev") (fun hb4 H6 e6 => s_ret (v := .int (8 + m % 7)) (by walk_at "mz ev") fun H7 e7 => q _ ?_ H7 ((e15.trans e6).trans e7)) (fun hb4 H6 e6 => ?_)
    · have := of_decide_eq_true hb4
      unfold SizeOk
      omega
    refine q_when (b := decide (f % 12 = 9)) (by walk_at "mz ev") (fun hb5 H7 e7 => s_ret (v := .int (15 + m % 16)) (by walk_at "mz ev") fun H8 e8 => q _ ?_ H8 (((e15.trans e6).trans e7).trans e8)) (fun hb5 H7 e7 => ?_)
    · have := of_decide_eq_true hb5
      unfold SizeOk
      omega
    have e17 := (e15.trans e6).trans e7
    simp only [decide_eq_false_iff_not] at hb hb2 hb3 hb4 hb5
    refine q_when (b := decide (f % 12 ∈ [6, 8])) (et_test (ev_in2 (by walk_at "mz ev"))) (fun hb6 H8 e8 => s_ret (v := .int (([11, 17, 23] : List Int).getD (m % 3).toNat 0)) (ev_ixInts (ea_tc (td_int ev_c) (ea_tc (td_int ev_c) (ea_tc (td_int ev_c) ea_tn))) (by walk_at "mz ev") (by omega) (by simp; omega)) fun H9 e9 => q _ ?_ H9 ((e17.trans e8).trans e9)) (fun hb6 H8 e8 => ?_)
    · simp only [decide_eq_true_eq, List.mem_cons, List.not_mem_nil, or_false] at hb6
      rcases (show m % 3 = 0 ∨ m % 3 = 1 ∨ m % 3 = 2 by omega) with h | h | h <;> rw [h] <;> unfold SizeOk <;> simp <;> omega
    simp only [decide_eq_false_iff_not, List.mem_cons, List.not_mem_nil, or_false] at hb6
    refine q_asgLT (ds := ([7, 60, 30, 5, 1, 7] : List Int).map PyData.int) (lt_lst (ea_tc (td_int ev_c) (ea_tc (td_int ev_c) (ea_tc (td_int ev_c) (ea_tc (td_int ev_c) (ea_tc (td_int ev_c) (ea_tc (td_int ev_c) ea_tn)))))) (by simp)) fun p H9 np e9 hp => ?_
    obtain ⟨g, hg, hg2⟩ : ∃ g : Int, ([7, 60, 30, 5, 1, 7] : List Int).getD (f % 6).toNat 0 = g ∧ (0 < g ∧ (f % 6 = 0 → g = 7) ∧ (f % 6 = 1 → g = 60) ∧ (f % 6 = 2 → g = 30) ∧ (f % 6 = 3 → g = 5) ∧ (f % 6 = 4 → g = 1) ∧ (f % 6 = 5 → g = 7)) := by
      refine ⟨_, rfl, ?_⟩
      rcases (show f % 6 = 0 ∨ f % 6 = 1 ∨ f % 6 = 2 ∨ f % 6 = 3 ∨ f % 6 = 4 ∨ f % 6 = 5 by omega) with h | h | h | h | h | h <;> rw [h] <;> simp
    have hix : Ev (tOp (rIxL K) (tVar 3) (tOp (rI (fun x j => 0 < j) fun i j => V.int (i % j)) (tVar 1) (tC (.int 6)))) [some (.ref a), some (.int f), some (.int m), some (.ref p)] H9 (.int g) := by
      have h := td_ixLV (K := K) (σ := [some (.ref a), some (.int f), some (.int m), some (.ref p)]) (ta := tVar 3) (tb := tOp (rI (fun x j => 0 < j) fun i j => V.int (i % j)) (tVar 1) (tC (.int 6))) (d := .int g) (i := f % 6) (ev_var rfl) hp (by walk_at "mz ev") (by
        have h6 : (f % 6).toNat < 6 := by omega
        have h := at0 (ds := ([7, 60, 30, 5, 1, 7] : List Int).map PyData.int) (j := (f % 6).toNat) (d := .int g) (by
          rw [List.getElem?_map, ← hg, List.getD_eq_getElem?_getD, List.getElem?_eq_getElem (by simpa using h6)]
          rfl)
        rw [show (((f % 6).toNat : Nat) : Int) = f % 6 by omega] at h
        exact h)
      exact ev_of_td h
    refine s_ret (v := .int (1 + m % g + if decide (f % 6 ∈ [2, 3]) then 1 else 0)) (ev_op (ev_op ev_c (ev_op (ev_var rfl) hix (rv_I (by omega))) rv_I0) (ev_intB (ev_in2 (by walk_at "mz ev"))) rv_I0) fun H10 e10 => q _ ?_ H10 (((e17.trans e8).trans e9).trans e10)
    have h1 : 0 ≤ m % g := Int.emod_nonneg _ (by omega)
    have h2 : m % g < g := Int.emod_lt_of_pos _ (by omega)
    unfold SizeOk
    by_cases h : f % 6 = 2 ∨ f % 6 = 3
    · have : decide (f % 6 ∈ ([2, 3] : List Int)) = true := by simp [h]
      rw [this, if_pos rfl]
      omega
    · have : decide (f % 6 ∈ ([2, 3] : List Int)) = false := by simp; omega
      rw [this, if_neg (by simp)]
      omega
/-! ### locks -/
def lockF (x : Int) : Option Int := ([none, none, none, some 0, some 1, some 2, some 3, some 4] : List (Option Int)).getD (x % 8).toNat none
theorem lockF_ok (x : Int) : lockOk (lockF x) = true := lockOk_getD (by decide) _
def sp_l_lock (K : PySem.W.Frag) : Sp := fun vs H Q _ => ∃ x : Int, vs = [.int x] ∧ ∀ v H2, Ex H H2 → Td H2 v (lockD (lockF x)) → Q v H2
theorem ok_l_lock (T : Txt K mg) : Kept P w K mg base 1 "_law_lock" ["_law_number"] (sp_l_lock K) := by
  refine T.d_l_lock.kept sc_l_lock (fun vs H Q E h => ?_) (fun cdv A outer s H vs Q E hr h => ?_)
  · obtain ⟨x, rfl, _⟩ := h
    rfl
  · obtain ⟨x, rfl, q⟩ := h
    refine ⟨_, (pss_one (ps_ret (pe_ix (ix_list_K (K := K) rfl) (pe_lst (pa_cons pe_non (pa_cons pe_non (pa_cons pe_non (pa_cons pe_int (pa_cons pe_int (pa_cons pe_int (pa_cons pe_int (pa_cons pe_int pa_nil))))))))) (pe_op op_mod (pv 0) pe_int) (fun _ _ => rfl)))), ?_⟩
    exact s_retP (td_ixLocks (K := K) (ls := [none, none, none, some 0, some 1, some 2, some 3, some 4]) (i := x % 8) (ea_tc (td_lock0 ev_c) (ea_tc (td_lock0 ev_c) (ea_tc (td_lock0 ev_c) (ea_tc (td_lock1 ev_c) (ea_tc (td_lock1 ev_c) (ea_tc (td_lock1 ev_c) (ea_tc (td_lock1 ev_c) (ea_tc (td_lock1 ev_c) ea_tn)))))))) (by walk_at "mz ev") (by omega) (by simp; omega)) fun v H2 e2 p => q v H2 e2 p
theorem td_l_lock {σ : L2.St} {H : Hp} {ta : TE} {x : Int} {E : XK} (h : Ev ta σ H (.int x)) : EvTd (tCall (sp_l_lock K) [] E (tCons ta tNil)) σ H (lockD (lockF x)) := fun H1 e Q q => h H1 e _ fun H2 e2 => ⟨x, rfl, fun v H3 e3 p => q v H3 (e2.trans e3) p⟩
/-! ### ranks -/
def rankF (i n : Int) : Int := if i = n - 1 then (n - 2) / 3 + 1 else (i + 2) / 3
def sp_l_rank (K : PySem.W.Frag) : Sp := fun vs H Q _ => ∃ i n : Int, vs = [.int i, .int n] ∧ ∀ H2, Ex H H2 → Q (.int (rankF i n)) H2
theorem ok_l_rank (T : Txt K mg) : Kept P w K mg base 1 "_law_rank" ["_law_place", "_law_size_here"] (sp_l_rank K) := by
  refine T.d_l_rank.kept sc_l_rank (fun vs H Q E h => ?_) (fun cdv A outer s H vs Q E hr h => ?_)
  · obtain ⟨i, n, rfl, _⟩ := h
    rfl
  · obtain ⟨i, n, rfl, q⟩ := h
    refine ⟨_, (pss_cons (ps_if (pt_cmpR op_eq (pv 0) (pe_op op_sub (pv 1) pe_int) (nomark _))
        (pss_one (ps_ret (pe_op op_add (pe_op op_fdiv (pe_op op_sub (pv 1) pe_int) pe_int) pe_int)))
        pss_nil)
      (pss_one (ps_ret (pe_op op_fdiv (pe_op op_add (pv 0) pe_int) pe_int)))), ?_⟩
    unfold rankF at q
    refine q_when (b := decide (i = n - 1)) (by walk_at "mz ev") (fun hb H1 e1 => ?_) (fun hb H1 e1 => ?_)
    · rw [if_pos (of_decide_eq_true hb)] at q
      exact s_ret (v := .int ((n - 2) / 3 + 1)) (by walk_at "mz ev") fun H2 e2 => q _ (e1.trans e2)
    · rw [if_neg (of_decide_eq_false hb)] at q
      exact s_ret (v := .int ((i + 2) / 3)) (by walk_at "mz ev") fun H2 e2 => q _ (e1.trans e2)
theorem sv_l_rank {H : Hp} {i n : Int} : SpV (sp_l_rank K) [.int i, .int n] H (.int (rankF i n)) := fun H1 e Q q E => ⟨i, n, rfl, q⟩
/-- doors made -/
def spDoors (K : PySem.W.Frag) : Sp := fun vs H Q _ => ∃ f n : Int, vs = [.int f, .int n] ∧ 2 ≤ n ∧ n ≤ 60 ∧ ∀ ds, DoorsOk n ds → ds.length ≤ 900 → ∀ p H2, H p = none → Ex H H2 → LstT H2 p (ds.map doorD) → Q (.ref p) H2
abbrev sp_l_ranks (K : PySem.W.Frag) : Sp := fun vs H Q _ => ∃ f n : Int, vs = [.int f, .int n] ∧ 2 ≤ n ∧ n ≤ 23 ∧ ∀ ds, DoorsOk n ds → ds.length ≤ 900 → ∀ p H2, H p = none → Ex H H2 → LstT H2 p (ds.map doorD) → Q (.ref p) H2
theorem ok_l_ranks (T : Txt K mg) : Kept P w K mg base 2 "_law_ranks" ["_law_first", "_law_size_here"] (sp_l_ranks K) := by
  refine T.d_l_ranks.kept sc_l_ranks (fun vs H Q E h => ?_) (fun cdv A outer s H vs Q E hr h => ?_)
  · obtain ⟨f, n, rfl, _⟩ := h
    rfl
  · obtain ⟨f, n, rfl, hn2, hn23, q⟩ := h
    refine ⟨_, (pss_cons (ps_set (i := 2) sc_l_ranks.nd rfl (Or.inl rfl) (pe_fn (ok_l_mix (K := K) T) (hr.mono (by decide)) passL (by rfl) (pa_cons (pv 0) (pa_cons pe_int pa_nil))))
      (pss_cons (ps_set (i := 3) sc_l_ranks.nd rfl (Or.inl rfl) (pe_op op_add pe_int (pe_op op_mod (pv 2) (pe_op op_sub (pv 1) pe_int))))
      (pss_cons (ps_set (i := 4) sc_l_ranks.nd rfl (Or.inl rfl) (pe_lst pa_nil))
      (pss_cons (ps_for (passes_of rfl) rfl (pi_range1 (by rfl) T.n_range (pa_cons (pv 1) pa_nil)) (pg_name (i := 5) sc_l_ranks.nd rfl (Or.inl rfl))
        (pss_one (ps_for (passes_of rfl) rfl (pi_range1 (by rfl) T.n_range (pa_cons (pv 1) pa_nil)) (pg_name (i := 6) sc_l_ranks.nd rfl (Or.inl rfl))
        (pss_cons (ps_set (i := 7) sc_l_ranks.nd rfl (Or.inl rfl) (pe_fn (ok_l_rank (K := K) T) (hr.mono (by decide)) passL (by rfl) (pa_cons (pv 5) (pa_cons (pv 1) pa_nil))))
      (pss_one (ps_if (pt_cmpR op_eq (pe_fn (ok_l_rank (K := K) T) (hr.mono (by decide)) passL (by rfl) (pa_cons (pv 6) (pa_cons (pv 1) pa_nil))) (pe_op op_add (pv 7) pe_int) (nomark _))
        (pss_cons (ps_set (i := 8) sc_l_ranks.nd rfl (Or.inl rfl) (pe_tup (pa_cons (pe_op op_mod (pe_op op_mul (pv 5) (pv 3)) (pv 1)) (pa_cons (pe_op op_mod (pe_op op_mul (pv 6) (pv 3)) (pv 1)) (pa_cons pe_int pa_nil)))))
      (pss_one (ps_if (PW.pt (pw_or (pt_cmpR op_eq (pv 5) pe_int (nomark _)) (pw_or (pt_cmpR op_eq (pv 6) (pe_op op_sub (pv 1) pe_int) (nomark _)) (pw_or1 (pt_cmpR op_eq (pe_op op_mod (pe_op op_add (pe_op op_add (pe_op op_sub (pv 6) (pv 5)) (pe_op op_fdiv (pv 2) pe_int)) (pe_op op_mul (pv 7) (pv 7))) pe_int) pe_int (nomark _))))))
        (pss_one (ps_expr (pe_bm_K (K := K) rfl PySem.F.plainAttrs_list PySem.F.slot_list_append PySem.F.type_list_append mt_append (pv 4) (pa_cons (pe_tup (pa_cons (pe_ix (ix_tup_K (K := K) rfl) (pv 8) pe_int (fun _ _ => rfl)) (pa_cons (pe_ix (ix_tup_K (K := K) rfl) (pv 8) pe_int (fun _ _ => rfl)) (pa_cons pe_non pa_nil)))) pa_nil))))
        (pss_one (ps_if (pt_cmpR op_eq (pe_op op_mod (pe_op op_add (pe_op op_mul (pv 5) (pv 6)) (pv 2)) pe_int) pe_int (nomark _))
        (pss_one (ps_expr (pe_bm_K (K := K) rfl PySem.F.plainAttrs_list PySem.F.slot_list_append PySem.F.type_list_append mt_append (pv 4) (pa_cons (pv 8) pa_nil))))
        pss_nil)))))
        pss_nil))))))
      (pss_one (ps_ret (pv 4))))))), ?_⟩
    obtain ⟨m, em⟩ : ∃ m, mix f 0 = m := ⟨_, rfl⟩
    have hm0 : 0 ≤ m := by rw [← em]; exact mix_pos _ _
    refine q_asg (v := .int m) ?_ fun H1 e1 => ?_
    · rw [← em]
      exact ev_call0 (ea_cons (ev_var rfl) (ea_cons ev_c ea_nil)) sv_l_mix
    obtain ⟨nm, enm⟩ : ∃ nm, 1 + m % (n - 1) = nm := ⟨_, rfl⟩
    have hnm : 1 ≤ nm ∧ nm ≤ n := by
      have h1 : 0 ≤ m % (n - 1) := Int.emod_nonneg _ (by omega)
      have h2 : m % (n - 1) < n - 1 := Int.emod_lt_of_pos _ (by omega)
      omega
    refine q_asg (v := .int nm) (by rw [← enm]; walk_at "mz ev") fun H2 e2 => ?_
    refine q_asgLT (ds := []) (lt_lst ea_tn (by simp)) fun l H3 nl e3 hl => ?_
    have e12 := e1.trans e2
    have nlH : H l = none := fresh_back e12 nl
    refine q_forR1 (n := n) (ea_cons (ev_var rfl) ea_nil) ⟨by omega, by omega⟩ (fun i σ' H' => Ex H H' ∧ ∃ (y5 y6 y7 y8 : Option V) (ds : List Door), σ' = [some (.int f), some (.int n), some (.int m), some (.int nm), some (.ref l), y5, y6, y7, y8] ∧ LstT H' l (ds.map doorD) ∧ (∀ d ∈ ds, WfD n d) ∧ ds.length ≤ i * 23) (fun H4 e4 => ⟨(e12.trans e3).trans e4, none, none, none, none, [], rfl, hl.ex e4, (fun d hd => by cases hd), by simp⟩) (fun i σ' H' hi hP => ?_) (fun σ' H' hP => ?_)
    · obtain ⟨eH, y5, y6, y7, y8, ds, rfl, hL, hwf, hlen⟩ := hP
      refine s_forR1 (n := n) (ea_cons (ev_var rfl) ea_nil) ⟨by omega, by omega⟩ (fun j σ' H' => Ex H H' ∧ ∃ (y6 y7 y8 : Option V) (ds : List Door), σ' = [some (.int f), some (.int n), some (.int m), some (.int nm), some (.ref l), some (.int i), y6, y7, y8] ∧ LstT H' l (ds.map doorD) ∧ (∀ d ∈ ds, WfD n d) ∧ ds.length ≤ i * 23 + j) (fun H4 e4 => ⟨eH.trans e4, y6, y7, y8, ds, rfl, hL.ex e4, hwf, by omega⟩) (fun j σ' H' hj hP => ?_) (fun σ' H' hP => ?_)
      · obtain ⟨eH, y6, y7, y8, ds, rfl, hL, hwf, hlen⟩ := hP
        have hi23 : i < 23 := by omega
        have hlen2 : ds.length < 900 := by omega
        obtain ⟨rk, erk⟩ : ∃ rk, rankF i n = rk := ⟨_, rfl⟩
        have hrk : 0 ≤ rk ∧ rk ≤ 100 := by
          rw [← erk]
          unfold rankF
          split <;> omega
        refine q_asg (v := .int rk) ?_ fun H4 e4 => ?_
        · rw [← erk]
          exact ev_call0 (ea_cons (ev_var rfl) (ea_cons (ev_var rfl) ea_nil)) sv_l_rank
        refine s_when (b := decide (rankF j n = rk + 1)) (et_test (ev_op (ev_call0 (ea_cons (ev_var rfl) (ea_cons (ev_var rfl) ea_nil)) sv_l_rank) (ev_op (ev_var rfl) ev_c rv_I0) rv_eqI)) (fun hb H5 e5 => ?_) (fun hb H5 e5 => ⟨(eH.trans e4).trans e5, _, _, y8, ds, rfl, hL.ex (e4.trans e5), hwf, by omega⟩)
        have eH5 := (eH.trans e4).trans e5
        have hL5 := hL.ex (e4.trans e5)
        have hd : ∀ l : Option Int, lockOk l = true → WfD n ((i : Int) * nm % n, (j : Int) * nm % n, l) := fun l hl => ⟨mod_here (n := n) (by omega) _, mod_here (n := n) (by omega) _, hl⟩
        refine q_asgP (P := fun v H' => Td H' v (doorD ((i : Int) * nm % n, (j : Int) * nm % n, some 0))) (td_door (by walk_at "mz ev") (by walk_at "mz ev") (td_lock1 ev_c)) fun dv H6 e6 hdv => ?_
        have eH6 := eH5.trans e6
        have hL6 := hL5.ex e6
        refine tif_cases (b := decide ((i : Int) = 0) || (decide ((j : Int) = n - 1) || decide (((j : Int) - (i : Int) + m / 3 + rk * rk) % 3 = 0))) ?_ (fun _ H7 e7 => ?_) (fun _ H7 e7 => ?_)
        · walk_at "mz ev"
        · have hdv7 := hdv.ex e7
          refine s_appT (d := doorD ((i : Int) * nm % n, (j : Int) * nm % n, none)) (hL6.ex e7) (ev_var rfl) (td_door (ev_of_td (td_ixT (td_any (ev_var rfl) hdv7) ev_c atI0)) (ev_of_td (td_ixT (td_any (ev_var rfl) hdv7) ev_c atI1)) (td_lock0 ev_c)) (by rw [List.length_map]; omega) fun H8 xs v e8 hx8 hp8 => ⟨Ex.mut ((eH6.trans e7).trans e8) nlH, _, _, _, ds ++ [((i : Int) * nm % n, (j : Int) * nm % n, none)], rfl, by rw [List.map_append]; exact hp8, wfd_append hwf (hd none rfl), by simp; omega⟩
        · refine s_when (b := decide (((i : Int) * (j : Int) + m) % 4 = 0)) (by walk_at "mz ev") (fun _ H8 e8 => ?_) (fun _ H8 e8 => ⟨(eH6.trans e7).trans e8, _, _, _, ds, rfl, hL6.ex (e7.trans e8), hwf, by omega⟩)
          refine s_appT (d := doorD ((i : Int) * nm % n, (j : Int) * nm % n, some 0)) (hL6.ex (e7.trans e8)) (ev_var rfl) (td_any (ev_var rfl) (hdv.ex (e7.trans e8))) (by rw [List.length_map]; omega) fun H9 xs v e9 hx9 hp9 => ⟨Ex.mut (((eH6.trans e7).trans e8).trans e9) nlH, _, _, _, ds ++ [((i : Int) * nm % n, (j : Int) * nm % n, some 0)], rfl, by rw [List.map_append]; exact hp9, wfd_append hwf (hd (some 0) rfl), by simp; omega⟩
      · obtain ⟨eH, y6, y7, y8, ds, rfl, hL, hwf, hlen⟩ := hP
        exact ⟨eH, _, y6, y7, y8, ds, rfl, hL, hwf, by omega⟩
    · obtain ⟨eH, y5, y6, y7, y8, ds, rfl, hL, hwf, hlen⟩ := hP
      exact s_ret (ev_var rfl) fun H5 e5 => q ds ⟨hwf, by omega⟩ (by omega) l H5 nlH (eH.trans e5) (hL.ex e5)
abbrev sp_l_many (K : PySem.W.Frag) : Sp := spDoors K
theorem ok_l_many (T : Txt K mg) : Kept P w K mg base 2 "_law_many" ["_law_first", "_law_size_here"] (sp_l_many K) := by
  refine T.d_l_many.kept sc_l_many (fun vs H Q E h => ?_) (fun cdv A outer s H vs Q E hr h => ?_)
  · obtain ⟨f, n, rfl, _⟩ := h
    rfl
  · obtain ⟨f, n, rfl, hn2, hn60, q⟩ := h
    refine ⟨_, (pss_cons (ps_set (i := 2) sc_l_many.nd rfl (Or.inl rfl) (pe_fn (ok_l_mix (K := K) T) (hr.mono (by decide)) passL (by rfl) (pa_cons (pv 0) (pa_cons pe_int pa_nil))))
      (pss_cons (ps_set (i := 3) sc_l_many.nd rfl (Or.inl rfl) (pe_lst pa_nil))
      (pss_cons (ps_for (passes_of rfl) rfl (pi_range1 (by rfl) T.n_range (pa_cons (pe_op op_add pe_int (pe_op op_mod (pe_op op_fdiv (pv 2) pe_int) pe_int)) pa_nil)) (pg_name (i := 4) sc_l_many.nd rfl (Or.inl rfl))
        (pss_cons (ps_set (i := 5) sc_l_many.nd rfl (Or.inl rfl) (pe_op op_mod (pv 4) (pe_op op_sub (pv 1) pe_int)))
      (pss_cons (ps_set (i := 6) sc_l_many.nd rfl (Or.inl rfl) (pe_op op_add (pe_op op_mul (pv 5) (pe_op op_add pe_int (pe_op op_mod (pe_op op_fdiv (pv 2) pe_int) pe_int))) (pe_op op_fdiv (pv 2) pe_int)))
      (pss_cut (ps_if (pt_cmpR op_eq (pe_op op_mod (pe_op op_fdiv (pv 4) (pe_op op_sub (pv 1) pe_int)) pe_int) pe_int (nomark _))
        (pss_one (ps_set (i := 6) sc_l_many.nd rfl (Or.inl rfl) (pe_op op_add (pv 6) (pe_op op_mod (pv 2) pe_int))))
        pss_nil)
      (pss_cons (ps_set (i := 6) sc_l_many.nd rfl (Or.inl rfl) (pe_op op_mod (pv 6) pe_int))
      (pss_one (ps_if (pt_cmpR op_eq (pe_op op_mod (pv 4) pe_int) pe_int (nomark _))
        (pss_one (ps_expr (pe_bm_K (K := K) rfl PySem.F.plainAttrs_list PySem.F.slot_list_append PySem.F.type_list_append mt_append (pv 3) (pa_cons (pe_tup (pa_cons (pe_op op_mod (pe_op op_mul (pv 4) (pv 4)) (pv 1)) (pa_cons (pe_op op_mod (pe_op op_mul (pv 4) pe_int) (pv 1)) (pa_cons (pe_ix (ix_list_K (K := K) rfl) (pe_lst (pa_cons pe_int (pa_cons pe_int (pa_cons pe_int (pa_cons pe_int (pa_cons pe_int (pa_cons pe_non pa_nil))))))) (pe_op op_mod (pv 4) pe_int) (fun _ _ => rfl)) pa_nil)))) pa_nil))))
        (pss_one (ps_expr (pe_bm_K (K := K) rfl PySem.F.plainAttrs_list PySem.F.slot_list_append PySem.F.type_list_append mt_append (pv 3) (pa_cons (pe_tup (pa_cons (pv 5) (pa_cons (pe_op op_add (pv 5) pe_int) (pa_cons (pe_ix (ix_list_K (K := K) rfl) (pe_lst (pa_cons pe_int (pa_cons pe_int (pa_cons pe_int (pa_cons pe_int (pa_cons pe_int (pa_cons pe_non pa_nil))))))) (pv 6) (fun _ _ => rfl)) pa_nil)))) pa_nil)))))))))))
      (pss_one (ps_ret (pv 3)))))), ?_⟩
    obtain ⟨m, em⟩ : ∃ m, mix f 0 = m := ⟨_, rfl⟩
    have hm0 : 0 ≤ m ∧ m < 999983 := by rw [← em]; exact ⟨mix_pos _ _, mix_lt _ _⟩
    refine q_asg (v := .int m) ?_ fun H1 e1 => ?_
    · rw [← em]
      exact ev_call0 (ea_cons (ev_var rfl) (ea_cons ev_c ea_nil)) sv_l_mix
    refine q_asgLT (ds := []) (lt_lst ea_tn (by simp)) fun l H3 nl e3 hl => ?_
    have nlH : H l = none := fresh_back e1 nl
    refine q_forR1 (n := 65 + m / 7 % 26) (by walk_at "mz ev") ⟨by omega, by omega⟩ (fun i σ' H' => Ex H H' ∧ ∃ (y4 y5 y6 : Option V) (ds : List Door), σ' = [some (.int f), some (.int n), some (.int m), some (.ref l), y4, y5, y6] ∧ LstT H' l (ds.map doorD) ∧ (∀ d ∈ ds, WfD n d) ∧ ds.length = i) (fun H4 e4 => ⟨(e1.trans e3).trans e4, none, none, none, [], rfl, hl.ex e4, (fun d hd => by cases hd), by simp⟩) (fun i σ' H' hi hP => ?_) (fun σ' H' hP => ?_)
    · obtain ⟨eH, y4, y5, y6, ds, rfl, hL, hwf, hlen⟩ := hP
      obtain ⟨nr, enr⟩ : ∃ nr, (i : Int) % (n - 1) = nr := ⟨_, rfl⟩
      have hnr : 0 ≤ nr ∧ nr < n - 1 := by
        have h1 : 0 ≤ (i : Int) % (n - 1) := Int.emod_nonneg _ (by omega)
        have h2 : (i : Int) % (n - 1) < n - 1 := Int.emod_lt_of_pos _ (by omega)
        omega
      refine q_asg (v := .int nr) (by rw [← enr]; walk_at "mz ev") fun H4 e4 => ?_
      refine q_asg (v := .int (nr * (1 + m / 182 % 5) + m / 910)) (by walk_at "mz ev") fun H5 e5 => ?_
      have eH5 := (eH.trans e4).trans e5
      have hL5 := hL.ex (e4.trans e5)
      refine q_cut (M := fun σ' H' => Ex H H' ∧ ∃ x : Int, σ' = [some (.int f), some (.int n), some (.int m), some (.ref l), some (.int i), some (.int nr), some (.int x)] ∧ LstT H' l (ds.map doorD)) ?_ ?_
      · refine s_when (b := decide ((i : Int) / (n - 1) % 2 = 1)) (by walk_at "mz ev") (fun _ H6 e6 => ?_) (fun _ H6 e6 => ⟨eH5.trans e6, _, rfl, hL5.ex e6⟩)
        exact s_asg (v := .int (nr * (1 + m / 182 % 5) + m / 910 + m % 3)) (by walk_at "mz ev") fun H7 e7 => ⟨(eH5.trans e6).trans e7, _, rfl, hL5.ex (e6.trans e7)⟩
      · rintro σ' H6 ⟨eH6, x, rfl, hL6⟩
        refine q_asg (v := .int (x % 6)) (by walk_at "mz ev") fun H7 e7 => ?_
        have eH7 := eH6.trans e7
        have hL7 := hL6.ex e7
        have hlk : ∀ k : Nat, lockOk (([some 0, some 1, some 2, some 3, some 4, none] : List (Option Int)).getD k none) = true := fun k => lockOk_getD (by decide) k
        have ea : ∀ {σ' : L2.St} {H' : Hp}, EaTd (tCons (tC (.int 0)) (tCons (tC (.int 1)) (tCons (tC (.int 2)) (tCons (tC (.int 3)) (tCons (tC (.int 4)) (tCons (tC .non) tNil)))))) σ' H' (([some 0, some 1, some 2, some 3, some 4, none] : List (Option Int)).map lockD) :=
          ea_tc (td_lock1 ev_c) (ea_tc (td_lock1 ev_c) (ea_tc (td_lock1 ev_c) (ea_tc (td_lock1 ev_c) (ea_tc (td_lock1 ev_c) (ea_tc (td_lock0 ev_c) ea_tn)))))
        refine tif_cases (b := decide ((i : Int) % 13 = 12)) (by walk_at "mz ev") (fun _ H8 e8 => ?_) (fun _ H8 e8 => ?_)
        · refine s_appT (hL7.ex e8) (ev_var rfl) (td_door (a := (i : Int) * i % n) (b := (i : Int) * 3 % n) (by walk_at "mz ev") (by walk_at "mz ev") (td_ixLocks (K := K) (i := (i : Int) % 6) ea (by walk_at "mz ev") (by omega) (by simp; omega))) (by rw [List.length_map]; omega) fun H9 xs v e9 hx9 hp9 => ⟨Ex.mut ((eH7.trans e8).trans e9) nlH, _, _, _, ds ++ [_], rfl, by rw [List.map_append]; exact hp9, wfd_append hwf ⟨mod_here (n := n) (by omega) _, mod_here (n := n) (by omega) _, hlk _⟩, by simp [hlen]⟩
        · refine s_appT (hL7.ex e8) (ev_var rfl) (td_door (a := nr) (b := nr + 1) (by walk_at "mz ev") (by walk_at "mz ev") (td_ixLocks (K := K) (i := x % 6) ea (by walk_at "mz ev") (by omega) (by simp; omega))) (by rw [List.length_map]; omega) fun H9 xs v e9 hx9 hp9 => ⟨Ex.mut ((eH7.trans e8).trans e9) nlH, _, _, _, ds ++ [_], rfl, by rw [List.map_append]; exact hp9, wfd_append hwf ⟨⟨by omega, by omega⟩, ⟨by show 0 ≤ nr + 1; omega, by show nr + 1 < n; omega⟩, hlk _⟩, by simp [hlen]⟩
    · obtain ⟨eH, y4, y5, y6, ds, rfl, hL, hwf, hlen⟩ := hP
      exact s_ret (ev_var rfl) fun H5 e5 => q ds ⟨hwf, by omega⟩ (by omega) l H5 nlH (eH.trans e5) (hL.ex e5)
abbrev sp_l_mixed (K : PySem.W.Frag) : Sp := spDoors K
theorem ok_l_mixed (T : Txt K mg) : Kept P w K mg base 2 "_law_mixed" ["_law_first", "_law_size_here"] (sp_l_mixed K) := by
  refine T.d_l_mixed.kept sc_l_mixed (fun vs H Q E h => ?_) (fun cdv A outer s H vs Q E hr h => ?_)
  · obtain ⟨f, n, rfl, _⟩ := h
    rfl
  · obtain ⟨f, n, rfl, hn2, hn60, q⟩ := h
    refine ⟨_, (pss_cons (ps_set (i := 2) sc_l_mixed.nd rfl (Or.inl rfl) (pe_fn (ok_l_mix (K := K) T) (hr.mono (by decide)) passL (by rfl) (pa_cons (pv 0) (pa_cons pe_int pa_nil))))
      (pss_cons (ps_set (i := 3) sc_l_mixed.nd rfl (Or.inl rfl) (pe_lst pa_nil))
      (pss_cons (ps_for (passes_of rfl) rfl (pi_range1 (by rfl) T.n_range (pa_cons (pe_op op_add pe_int (pe_op op_mod (pe_op op_fdiv (pv 2) pe_int) pe_int)) pa_nil)) (pg_name (i := 4) sc_l_mixed.nd rfl (Or.inl rfl))
        (pss_cons (ps_set (i := 5) sc_l_mixed.nd rfl (Or.inl rfl) (pe_ix (ix_list_K (K := K) rfl) (pe_lst (pa_cons pe_non (pa_cons pe_int (pa_cons pe_non (pa_cons pe_int (pa_cons pe_int (pa_cons pe_non (pa_cons pe_int (pa_cons pe_int pa_nil))))))))) (pe_op op_mod (pe_op op_add (pv 4) (pe_op op_fdiv (pv 2) pe_int)) pe_int) (fun _ _ => rfl)))
      (pss_cons (ps_set (i := 6) sc_l_mixed.nd rfl (Or.inl rfl) (pe_op op_mod (pe_op op_add (pe_op op_mul (pv 4) (pe_op op_add pe_int (pe_op op_mod (pe_op op_fdiv (pv 2) pe_int) pe_int))) (pv 2)) (pv 1)))
      (pss_one (ps_expr (pe_bm_K (K := K) rfl PySem.F.plainAttrs_list PySem.F.slot_list_append PySem.F.type_list_append mt_append (pv 3) (pa_cons (pe_tup (pa_cons (pv 6) (pa_cons (pe_op op_mod (pe_op op_add (pe_op op_mul (pv 4) (pv 4)) (pe_op op_fdiv (pv 2) pe_int)) (pv 1)) (pa_cons (pv 5) pa_nil)))) pa_nil)))))))
      (pss_one (ps_ret (pv 3)))))), ?_⟩
    obtain ⟨m, em⟩ : ∃ m, mix f 0 = m := ⟨_, rfl⟩
    have hm0 : 0 ≤ m ∧ m < 999983 := by rw [← em]; exact ⟨mix_pos _ _, mix_lt _ _⟩
    refine q_asg (v := .int m) ?_ fun H1 e1 => ?_
    · rw [← em]
      exact ev_call0 (ea_cons (ev_var rfl) (ea_cons ev_c ea_nil)) sv_l_mix
    refine q_asgLT (ds := []) (lt_lst ea_tn (by simp)) fun l H3 nl e3 hl => ?_
    have nlH : H l = none := fresh_back e1 nl
    refine q_forR1 (n := 41 + m / 16 % 50) (by walk_at "mz ev") ⟨by omega, by omega⟩ (fun i σ' H' => Ex H H' ∧ ∃ (y4 y5 y6 : Option V) (ds : List Door), σ' = [some (.int f), some (.int n), some (.int m), some (.ref l), y4, y5, y6] ∧ LstT H' l (ds.map doorD) ∧ (∀ d ∈ ds, WfD n d) ∧ ds.length = i) (fun H4 e4 => ⟨(e1.trans e3).trans e4, none, none, none, [], rfl, hl.ex e4, (fun d hd => by cases hd), by simp⟩) (fun i σ' H' hi hP => ?_) (fun σ' H' hP => ?_)
    · obtain ⟨eH, y4, y5, y6, ds, rfl, hL, hwf, hlen⟩ := hP
      refine q_asgP (td_ixLocks (K := K) (ls := [none, some 0, none, some 1, some 2, none, some 3, some 4]) (i := ((i : Int) + m / 800) % 8) (ea_tc (td_lock0 ev_c) (ea_tc (td_lock1 ev_c) (ea_tc (td_lock0 ev_c) (ea_tc (td_lock1 ev_c) (ea_tc (td_lock1 ev_c) (ea_tc (td_lock0 ev_c) (ea_tc (td_lock1 ev_c) (ea_tc (td_lock1 ev_c) ea_tn)))))))) (by walk_at "mz ev") (by omega) (by simp; omega)) fun lv H4 e4 hlv => ?_
      refine q_asg (v := .int (((i : Int) * (1 + m / 6400 % 7) + m) % n)) (by walk_at "mz ev") fun H5 e5 => ?_
      refine s_appT (hL.ex (e4.trans e5)) (ev_var rfl) (td_door (a := ((i : Int) * (1 + m / 6400 % 7) + m) % n) (b := ((i : Int) * i + m / 50) % n) (by walk_at "mz ev") (by walk_at "mz ev") (td_any (ev_var rfl) (hlv.ex e5))) (by rw [List.length_map]; omega) fun H9 xs v e9 hx9 hp9 => ⟨Ex.mut (((eH.trans e4).trans e5).trans e9) nlH, _, _, _, ds ++ [_], rfl, by rw [List.map_append]; exact hp9, wfd_append hwf ⟨mod_here (n := n) (by omega) _, mod_here (n := n) (by omega) _, lockOk_getD (ls := [none, some 0, none, some 1, some 2, none, some 3, some 4]) (by decide) _⟩, by simp [hlen]⟩
    · obtain ⟨eH, y4, y5, y6, ds, rfl, hL, hwf, hlen⟩ := hP
      exact s_ret (ev_var rfl) fun H5 e5 => q ds ⟨hwf, by omega⟩ (by omega) l H5 nlH (eH.trans e5) (hL.ex e5)
end

section
variable {P : Program} {w : World} {K : PySem.W.Frag} {mg : Str → Option Value} {base : Heap}
theorem TdAll.rep {H : Hp} {ds : List PyData} {vs : List V} (h : TdAll H vs ds) : ∀ k : Nat, TdAll H (List.replicate k vs).flatten (List.replicate k ds).flatten
  | 0 => .nil
  | k + 1 => by
    rw [List.replicate_succ, List.replicate_succ, List.flatten_cons, List.flatten_cons]
    exact TdAll.append h (TdAll.rep h k)
theorem lt_rep {σ : L2.St} {H : Hp} {ta tb : TE} {ds : List PyData} {k : Int} (ha : EvLT ta σ H ds) (hb : Ev tb σ H (.int k)) (h1 : -100000 ≤ k ∧ k ≤ 100000) (h2 : ds.length * k.toNat ≤ 100000) : EvLT (tOp rRep ta tb) σ H (List.replicate k.toNat ds).flatten := fun H1 e Q q => ha H1 e _ fun l H2 nl e2 hl => hb H2 (e.trans e2) _ fun H3 e3 => by
  obtain ⟨xs, hx, hd⟩ := hl.ex e3
  exact ⟨l, k, xs, rfl, rfl, hx, by omega, by omega, sz_of (by rw [hd.len]; exact h2), fun p np => q p _ (fresh_back (e2.trans e3) np) ((e2.trans e3).trans (Ex.new np)) ⟨_, upd_same, (hd.rep _).ex (Ex.new np)⟩⟩
theorem doors_map {m : Nat} {g : Nat → Door} : (List.range m).map (fun i => doorD (g i)) = ((List.range m).map g).map doorD := by
  rw [List.map_map]
  rfl
theorem doors_ok {m : Nat} {g : Nat → Door} {n : Int} (h : ∀ i, i < m → WfD n (g i)) (hm : m ≤ 900) : DoorsOk n ((List.range m).map g) ∧ ((List.range m).map g).length ≤ 900 := by
  have hl : ((List.range m).map g).length = m := by simp
  refine ⟨⟨fun d hd => ?_, by omega⟩, by omega⟩
  obtain ⟨i, hi, rfl⟩ := List.mem_map.mp hd
  exact h i (List.mem_range.mp hi)
theorem s_retA {σ : L2.St} {H : Hp} {D : Ends} {tr : TA} {sp : Sp} {E : XK} {vs : List V} (h : EvA tr σ H vs) (k : ∀ H1, Ex H H1 → sp vs H1 D.rt E) : tRet (tCall sp [] E tr) D σ H := h H (Ex.refl H) _ fun H1 e1 => by
  show sp (vs ++ []) H1 _ E
  rw [List.append_nil]
  exact k H1 e1
theorem q_asgA {σ : L2.St} {H : Hp} {D : Ends} {tz : TS} {tr : TA} {sp : Sp} {E : XK} {vs : List V} {i : Nat} (h : EvA tr σ H vs) (k : ∀ H1, Ex H H1 → sp vs H1 (fun v H2 => tz D (σ.set i (some v)) H2) E) : tSeq (tAsg (tCall sp [] E tr) (gName i)) tz D σ H := h H (Ex.refl H) _ fun H1 e1 => by
  show sp (vs ++ []) H1 _ E
  rw [List.append_nil]
  exact k H1 e1
abbrev sp_l_built (K : PySem.W.Frag) : Sp := fun vs H Q _ => ∃ f n : Int, vs = [.int f, .int n] ∧ SizeOk f n ∧ ∀ ds, DoorsOk n ds → ds.length ≤ 900 → ∀ p H2, H p = none → Ex H H2 → LstT H2 p (ds.map doorD) → Q (.ref p) H2
theorem ok_l_built (T : Txt K mg) : Kept P w K mg base 3 "_law_built" ["_law_first", "_law_size_here"] (sp_l_built K) := by
  refine T.d_l_built.kept sc_l_built (fun vs H Q E h => ?_) (fun cdv A outer s H vs Q E hr h => ?_)
  · obtain ⟨f, n, rfl, _⟩ := h
    rfl
  · obtain ⟨f, n, rfl, hz, q⟩ := h
    obtain ⟨hz0, hz60, hz4, hz10, hz7, hz5, hz9, hz68, hz2, hz3⟩ := hz
    refine ⟨_, (pss_cons (ps_if (pt_cmpR op_eq (pe_op op_mod (pv 0) pe_int) pe_int (nomark _))
        (pss_cons (ps_set (i := 2) sc_l_built.nd rfl (Or.inl rfl) (pe_lst pa_nil))
      (pss_cons (ps_for (passes_of rfl) rfl (pi_range1 (by rfl) T.n_range (pa_cons (pe_op op_sub pe_int (pe_op op_mod (pe_op op_fdiv (pv 0) pe_int) pe_int)) pa_nil)) (pg_name (i := 3) sc_l_built.nd rfl (Or.inl rfl))
        (pss_cons (ps_set (i := 4) sc_l_built.nd rfl (Or.inl rfl) (pe_op op_mod (pe_ix (ix_list_K (K := K) rfl) (pe_lst (pa_cons (pv 3) (pa_cons (pe_op op_mul (pv 3) (pv 3)) pa_nil))) (pe_callTy call_int1 (by rfl) T.n_int (by decide +kernel) (pa_cons (pe_cmpR op_ge (pv 3) (pv 1) (nomark _)) pa_nil)) (fun _ _ => rfl)) (pv 1)))
      (pss_cons (ps_set (i := 5) sc_l_built.nd rfl (Or.inl rfl) (pe_op op_mod (pe_ix (ix_list_K (K := K) rfl) (pe_lst (pa_cons (pe_op op_add (pv 3) pe_int) (pa_cons (pe_op op_mul (pv 3) pe_int) pa_nil))) (pe_callTy call_int1 (by rfl) T.n_int (by decide +kernel) (pa_cons (pe_cmpR op_ge (pv 3) (pv 1) (nomark _)) pa_nil)) (fun _ _ => rfl)) (pv 1)))
      (pss_one (ps_expr (pe_bm_K (K := K) rfl PySem.F.plainAttrs_list PySem.F.slot_list_append PySem.F.type_list_append mt_append (pv 2) (pa_cons (pe_tup (pa_cons (pv 4) (pa_cons (pv 5) (pa_cons (pe_ix (ix_list_K (K := K) rfl) (pe_lst (pa_cons pe_non (pa_cons pe_int (pa_cons pe_non (pa_cons (pe_op op_mod (pe_op op_fdiv (pv 3) pe_int) pe_int) (pa_cons (pe_op op_mod (pe_op op_add (pe_op op_fdiv (pv 0) pe_int) (pv 3)) pe_int) pa_nil)))))) (pe_op op_mod (pv 3) pe_int) (fun _ _ => rfl)) pa_nil)))) pa_nil)))))))
      (pss_one (ps_ret (pv 2)))))
        pss_nil)
      (pss_cons (ps_if (pt_cmpR op_eq (pe_op op_mod (pv 0) pe_int) pe_int (nomark _))
        (pss_cons (ps_set (i := 6) sc_l_built.nd rfl (Or.inr rfl) (pe_op op_cat (pe_op op_cat (pe_lst (pa_cons pe_int (pa_cons pe_int pa_nil))) (pe_op op_rep (pe_lst (pa_cons pe_non pa_nil)) (pe_op op_sub (pv 1) pe_int))) (pe_lst (pa_cons pe_int (pa_cons pe_int (pa_cons pe_int pa_nil))))))
      (pss_one (ps_ret (pe_lc (own := [("_law_k", 3)]) (g := gName 3) rfl sc_l_built.nd (pi_range1 (by rfl) T.n_range (pa_cons (pe_op op_sub (pv 1) pe_int) pa_nil)) (blkOk_by (own := [("_law_k", 3)]) (N := ["_law_first", "_law_size_here", "_law_made", "_law_k", "_law_one", "_law_other", "_law_locks", "_law_turn"]) (sc := defScope s_l_built) (by decide +kernel)) (fun _ _ _ _ _ => (pg_name (i := 3) sc_l_built.nd rfl (Or.inl rfl))) (fun _ _ _ _ _ => pts_nil) (fun _ _ _ _ _ => (pe_tup (pa_cons (pv 3) (pa_cons (pe_op op_add (pv 3) pe_int) (pa_cons (pe_ix (ix_list_K (K := K) rfl) (pv 6) (pv 3) (fun _ _ => rfl)) pa_nil)))))))))
        pss_nil)
      (pss_cons (ps_if (pt_cmpR op_eq (pe_op op_mod (pv 0) pe_int) pe_int (nomark _))
        (pss_one (ps_ret (pe_lc (own := [("_law_k", 3)]) (g := gName 3) rfl sc_l_built.nd (pi_range2 (by rfl) T.n_range (pa_cons pe_int (pa_cons (pv 1) pa_nil))) (blkOk_by (own := [("_law_k", 3)]) (N := ["_law_first", "_law_size_here", "_law_made", "_law_k", "_law_one", "_law_other", "_law_locks", "_law_turn"]) (sc := defScope s_l_built) (by decide +kernel)) (fun _ _ _ _ _ => (pg_name (i := 3) sc_l_built.nd rfl (Or.inl rfl))) (fun _ _ _ _ _ => pts_nil) (fun _ _ _ _ _ => (pe_tup (pa_cons pe_int (pa_cons (pv 3) (pa_cons pe_non pa_nil))))))))
        pss_nil)
      (pss_cons (ps_if (pt_cmpR (op_in_seq_K (K := K) rfl) (pe_op op_mod (pv 0) pe_int) (pe_tup (pa_cons pe_int (pa_cons pe_int pa_nil))) (by rfl))
        (pss_one (ps_ret (pe_fn (ok_l_ranks (K := K) T) (hr.mono (by decide)) passL (by rfl) (pa_cons (pv 0) (pa_cons (pv 1) pa_nil)))))
        pss_nil)
      (pss_cons (ps_if (pt_cmpR op_eq (pe_op op_mod (pv 0) pe_int) pe_int (nomark _))
        (pss_one (ps_ret (pe_fn (ok_l_many (K := K) T) (hr.mono (by decide)) passL (by rfl) (pa_cons (pv 0) (pa_cons (pv 1) pa_nil)))))
        pss_nil)
      (pss_cons (ps_if (pt_cmpR op_eq (pe_op op_mod (pv 0) pe_int) pe_int (nomark _))
        (pss_one (ps_ret (pe_fn (ok_l_mixed (K := K) T) (hr.mono (by decide)) passL (by rfl) (pa_cons (pv 0) (pa_cons (pv 1) pa_nil)))))
        pss_nil)
      (pss_cons (ps_if (pt_cmpR op_eq (pe_op op_mod (pv 0) pe_int) pe_int (nomark _))
        (pss_cons (ps_set (i := 7) sc_l_built.nd rfl (Or.inr rfl) (pe_op op_mod (pe_op op_fdiv (pe_fn (ok_l_mix (K := K) T) (hr.mono (by decide)) passL (by rfl) (pa_cons (pv 0) (pa_cons pe_int pa_nil))) pe_int) pe_int))
      (pss_one (ps_ret (pe_lc (own := [("_law_k", 3)]) (g := gName 3) rfl sc_l_built.nd (pi_range1 (by rfl) T.n_range (pa_cons (pe_op op_sub (pv 1) pe_int) pa_nil)) (blkOk_by (own := [("_law_k", 3)]) (N := ["_law_first", "_law_size_here", "_law_made", "_law_k", "_law_one", "_law_other", "_law_locks", "_law_turn"]) (sc := defScope s_l_built) (by decide +kernel)) (fun _ _ _ _ _ => (pg_name (i := 3) sc_l_built.nd rfl (Or.inl rfl))) (fun _ _ _ _ _ => pts_nil) (fun _ _ _ _ _ => (pe_tup (pa_cons (pv 3) (pa_cons (pe_op op_add (pv 3) pe_int) (pa_cons (pe_fn (ok_l_lock (K := K) T) (hr.mono (by decide)) passL (by rfl) (pa_cons (pe_op op_mul (pe_op op_add (pv 3) pe_int) (pv 7)) pa_nil)) pa_nil)))))))))
        pss_nil)
      (pss_cons (ps_if (pt_cmpR op_eq (pe_op op_mod (pv 0) pe_int) pe_int (nomark _))
        (pss_one (ps_ret (pe_lc (own := [("_law_k", 3)]) (g := gName 3) rfl sc_l_built.nd (pi_range2 (by rfl) T.n_range (pa_cons pe_int (pa_cons (pv 1) pa_nil))) (blkOk_by (own := [("_law_k", 3)]) (N := ["_law_first", "_law_size_here", "_law_made", "_law_k", "_law_one", "_law_other", "_law_locks", "_law_turn"]) (sc := defScope s_l_built) (by decide +kernel)) (fun _ _ _ _ _ => (pg_name (i := 3) sc_l_built.nd rfl (Or.inl rfl))) (fun _ _ _ _ _ => pts_nil) (fun _ _ _ _ _ => (pe_tup (pa_cons (pv 3) (pa_cons pe_int (pa_cons (pe_ix (ix_list_K (K := K) rfl) (pe_lst (pa_cons pe_non (pa_cons pe_int (pa_cons pe_int (pa_cons pe_int (pa_cons pe_int pa_nil)))))) (pe_op op_sub (pv 3) pe_int) (fun _ _ => rfl)) pa_nil))))))))
        pss_nil)
      (pss_one (ps_ret (pe_lst pa_nil))))))))))), ?_⟩
    refine q_when (b := decide (f % 12 = 4)) (by walk_at "mz ev") (fun hb H1 e1 => ?_) (fun hb H1 e1 => ?_)
    · refine q_asgLT (ds := []) (lt_lst ea_tn (by simp)) fun l H2 nl e2 hl => ?_
      have nlH : H l = none := fresh_back e1 nl
      refine q_forR1 (n := 90 - f / 12 % 3) (by walk_at "mz ev") ⟨by omega, by omega⟩ (fun i σ' H' => Ex H H' ∧ ∃ (y3 y4 y5 : Option V) (ds : List Door), σ' = [some (.int f), some (.int n), some (.ref l), y3, y4, y5, none, none] ∧ LstT H' l (ds.map doorD) ∧ (∀ d ∈ ds, WfD n d) ∧ ds.length = i) (fun H4 e4 => ⟨(e1.trans e2).trans e4, none, none, none, [], rfl, hl.ex e4, (fun d hd => by cases hd), by simp⟩) (fun i σ' H' hi hP => ?_) (fun σ' H' hP => ?_)
      · obtain ⟨eH, y3, y4, y5, ds, rfl, hL, hwf, hlen⟩ := hP
        have hc : ∀ a b : Int, 0 ≤ (if decide (n ≤ (i : Int)) = true then (1 : Int) else 0) ∧ (if decide (n ≤ (i : Int)) = true then (1 : Int) else 0) < (([a, b] : List Int).length : Int) := by
          intro a b
          simp
          split <;> omega
        refine q_asg (v := .int ((([(i : Int), (i : Int) * (i : Int)] : List Int).getD (if decide (n ≤ (i : Int)) = true then (1 : Int) else 0).toNat 0) % n)) (ev_op (ev_ixInts (ea_tc (td_int (by walk_at "mz ev")) (ea_tc (td_int (by walk_at "mz ev")) ea_tn)) (ev_intB (ev_op (ev_var rfl) (ev_var rfl) rv_I0)) (hc 0 0).1 (hc _ _).2) (ev_var rfl) (rv_I (by omega))) fun H4 e4 => ?_
        refine q_asg (v := .int ((([(i : Int) + 1, (i : Int) * 7] : List Int).getD (if decide (n ≤ (i : Int)) = true then (1 : Int) else 0).toNat 0) % n)) (ev_op (ev_ixInts (ea_tc (td_int (by walk_at "mz ev")) (ea_tc (td_int (by walk_at "mz ev")) ea_tn)) (ev_intB (ev_op (ev_var rfl) (ev_var rfl) rv_I0)) (hc 0 0).1 (hc _ _).2) (ev_var rfl) (rv_I (by omega))) fun H5 e5 => ?_
        have eH5 := (eH.trans e4).trans e5
        refine s_appT (hL.ex (e4.trans e5)) (ev_var rfl) (td_door (ev_var rfl) (ev_var rfl) (td_ixLocks (K := K) (ls := [none, some 4, none, some ((i : Int) / 5 % 4), some ((f / 36 + (i : Int)) % 5)]) (i := (i : Int) % 5) (ea_tc (td_lock0 ev_c) (ea_tc (td_lock1 ev_c) (ea_tc (td_lock0 ev_c) (ea_tc (td_lock1 (by walk_at "mz ev")) (ea_tc (td_lock1 (by walk_at "mz ev")) ea_tn))))) (by walk_at "mz ev") (by omega) (by simp; omega))) (by rw [List.length_map]; omega) fun H9 xs v e9 hx9 hp9 => ⟨Ex.mut (eH5.trans e9) nlH, _, _, _, ds ++ [_], rfl, by rw [List.map_append]; exact hp9, wfd_append hwf ⟨mod_here (n := n) (by omega) _, mod_here (n := n) (by omega) _, lockOk_getD (ls := [none, some 4, none, some ((i : Int) / 5 % 4), some ((f / 36 + (i : Int)) % 5)]) ?_ _⟩, by simp [hlen]⟩
        simp [lockOk]
        omega
      · obtain ⟨eH, y3, y4, y5, ds, rfl, hL, hwf, hlen⟩ := hP
        exact s_ret (ev_var rfl) fun H5 e5 => q ds ⟨hwf, by omega⟩ (by omega) l H5 nlH (eH.trans e5) (hL.ex e5)
    simp only [decide_eq_false_iff_not] at hb
    refine q_when (b := decide (f % 12 = 10)) (by walk_at "mz ev") (fun hb2 H2 e2 => ?_) (fun hb2 H2 e2 => ?_)
    · have hb2 := of_decide_eq_true hb2
      obtain ⟨hn20, hn40⟩ := hz10 hb2
      have e12 := e1.trans e2
      let L : List (Option Int) := [some 3, some 1] ++ List.replicate (n - 6).toNat none ++ [some 0, some 2, some 4]
      have hL : L.map lockD = [.int 3, .int 1] ++ (List.replicate (n - 6).toNat [PyData.none]).flatten ++ [.int 0, .int 2, .int 4] := by
        simp only [L, List.map_append, List.map_replicate, List.map_cons, List.map_nil, lockD]
        congr 2
        generalize (n - 6).toNat = m
        induction m with
        | zero => rfl
        | succ m ih => rw [List.replicate_succ, List.replicate_succ, List.flatten_cons, ← ih]; rfl
      have hll : L.length = (n - 6).toNat + 5 := by simp [L]
      have hlo : L.all lockOk = true := by
        rw [List.all_eq_true]
        intro x hx
        simp only [L, List.mem_append, List.mem_cons, List.mem_replicate, List.not_mem_nil, or_false] at hx
        rcases hx with ((h | h) | h) | h | h | h
        · subst h; rfl
        · subst h; rfl
        · rw [h.2]; rfl
        · subst h; rfl
        · subst h; rfl
        · subst h; rfl
      refine q_asgLT (ds := L.map lockD) ?_ fun l H3 nl e3 hl => ?_
      · rw [hL]
        refine lt_cat2 (lt_cat2 (lt_lst (ea_tc (td_int ev_c) (ea_tc (td_int ev_c) ea_tn)) (by simp)) (lt_rep (lt_lst (ea_tc (td_non ev_c) ea_tn) (by simp)) (by walk_at "mz ev") (by omega) (by simp; omega)) ?_) (lt_lst (ea_tc (td_int ev_c) (ea_tc (td_int ev_c) (ea_tc (td_int ev_c) ea_tn))) (by simp)) ?_
        · simp; omega
        · simp; omega
      · refine s_retLT (lt_mapR1 (n := n - 1) (fun i => doorD ((i : Int), (i : Int) + 1, L.getD (i : Int).toNat none)) (by walk_at "mz ev") (by omega) (fun x => rfl) fun i H4 e4 hi => td_door (by walk_at "mz ev") (by walk_at "mz ev") (td_ixLocksV (K := K) (ev_var rfl) (hl.ex e4) (by walk_at "mz ev") (by omega) (by rw [hll]; omega))) fun p H4 np e4 hp => ?_
        rw [doors_map] at hp
        have hh := doors_ok (n := n) (m := (n - 1).toNat) (g := fun i => ((i : Int), (i : Int) + 1, L.getD (i : Int).toNat none)) (fun i hi => ⟨⟨by show 0 ≤ (i : Int); omega, by show (i : Int) < n; omega⟩, ⟨by show 0 ≤ (i : Int) + 1; omega, by show (i : Int) + 1 < n; omega⟩, lockOk_getD hlo _⟩) (by omega)
        exact q _ hh.1 hh.2 p H4 (fresh_back (e12.trans e3) np) ((e12.trans e3).trans e4) hp
    simp only [decide_eq_false_iff_not] at hb2
    have e12 := e1.trans e2
    refine q_when (b := decide (f % 12 = 7)) (by walk_at "mz ev") (fun hb3 H3 e3 => ?_) (fun hb3 H3 e3 => ?_)
    · refine s_retLT (lt_mapR2 (lo := 1) (n := n) (fun i => doorD (0, 1 + (i : Int), none)) (by walk_at "mz ev") ⟨by omega, by omega, by omega, by omega⟩ (fun x => rfl) fun i H4 e4 hi => td_door ev_c (by walk_at "mz ev") (td_lock0 ev_c)) fun p H4 np e4 hp => ?_
      rw [doors_map] at hp
      have hh := doors_ok (n := n) (m := (n - 1).toNat) (g := fun i => (0, 1 + (i : Int), none)) (fun i hi => ⟨⟨by show (0 : Int) ≤ 0; omega, by show (0 : Int) < n; omega⟩, ⟨by show 0 ≤ 1 + (i : Int); omega, by show 1 + (i : Int) < n; omega⟩, rfl⟩) (by omega)
      exact q _ hh.1 hh.2 p H4 (fresh_back (e12.trans e3) np) ((e12.trans e3).trans e4) hp
    simp only [decide_eq_false_iff_not] at hb3
    have e13 := e12.trans e3
    refine q_when (b := decide (f % 12 ∈ [6, 8])) (et_test (ev_in2 (by walk_at "mz ev"))) (fun hb6 H4 e4 => ?_) (fun hb6 H4 e4 => ?_)
    · simp only [decide_eq_true_eq, List.mem_cons, List.not_mem_nil, or_false] at hb6
      obtain ⟨hn1, hn2⟩ := hz68 hb6
      exact s_retA (vs := [.int f, .int n]) (ea_cons (ev_var rfl) (ea_cons (ev_var rfl) ea_nil)) fun H5 e5 => ⟨f, n, rfl, by omega, hn2, fun ds h1 h2 p H6 np e6 hp => q ds h1 h2 p H6 (fresh_back ((e13.trans e4).trans e5) np) (((e13.trans e4).trans e5).trans e6) hp⟩
    simp only [decide_eq_false_iff_not, List.mem_cons, List.not_mem_nil, or_false] at hb6
    have e14 := e13.trans e4
    refine q_when (b := decide (f % 12 = 5)) (by walk_at "mz ev") (fun hb5 H5 e5 => ?_) (fun hb5 H5 e5 => ?_)
    · have hb5 := of_decide_eq_true hb5
      have := hz5 hb5
      exact s_retA (vs := [.int f, .int n]) (ea_cons (ev_var rfl) (ea_cons (ev_var rfl) ea_nil)) fun H6 e6 => ⟨f, n, rfl, by omega, by omega, fun ds h1 h2 p H7 np e7 hp => q ds h1 h2 p H7 (fresh_back ((e14.trans e5).trans e6) np) (((e14.trans e5).trans e6).trans e7) hp⟩
    simp only [decide_eq_false_iff_not] at hb5
    have e15 := e14.trans e5
    refine q_when (b := decide (f % 12 = 9)) (by walk_at "mz ev") (fun hb9 H6 e6 => ?_) (fun hb9 H6 e6 => ?_)
    · have hb9 := of_decide_eq_true hb9
      have := hz9 hb9
      exact s_retA (vs := [.int f, .int n]) (ea_cons (ev_var rfl) (ea_cons (ev_var rfl) ea_nil)) fun H7 e7 => ⟨f, n, rfl, by omega, by omega, fun ds h1 h2 p H8 np e8 hp => q ds h1 h2 p H8 (fresh_back ((e15.trans e6).trans e7) np) (((e15.trans e6).trans e7).trans e8) hp⟩
    simp only [decide_eq_false_iff_not] at hb9
    have e16 := e15.trans e6
    refine q_when (b := decide (f % 6 = 2)) (by walk_at "mz ev") (fun hbb H7 e7 => ?_) (fun hbb H7 e7 => ?_)
    · refine q_asg (v := .int (mix f 0 / 30 % 8)) (ev_op (ev_op (ev_call0 (ea_cons (ev_var rfl) (ea_cons ev_c ea_nil)) sv_l_mix) ev_c (rv_I (by walk_at "mz side"))) ev_c (rv_I (by walk_at "mz side"))) fun H8 e8 => ?_
      have e18 := (e16.trans e7).trans e8
      refine s_retLT (lt_mapR1 (n := n - 1) (fun i => doorD ((i : Int), (i : Int) + 1, lockF (((i : Int) + 1) * (mix f 0 / 30 % 8)))) (by walk_at "mz ev") (by omega) (fun x => rfl) fun i H9 e9 hi => td_door (by walk_at "mz ev") (by walk_at "mz ev") (td_l_lock (by walk_at "mz ev"))) fun p H9 np e9 hp => ?_
      rw [doors_map] at hp
      have hh := doors_ok (n := n) (m := (n - 1).toNat) (g := fun i => ((i : Int), (i : Int) + 1, lockF (((i : Int) + 1) * (mix f 0 / 30 % 8)))) (fun i hi => ⟨⟨by show 0 ≤ (i : Int); omega, by show (i : Int) < n; omega⟩, ⟨by show 0 ≤ (i : Int) + 1; omega, by show (i : Int) + 1 < n; omega⟩, lockF_ok _⟩) (by omega)
      exact q _ hh.1 hh.2 p H9 (fresh_back e18 np) (e18.trans e9) hp
    simp only [decide_eq_false_iff_not] at hbb
    have e17 := e16.trans e7
    refine q_when (b := decide (f % 6 = 3)) (by walk_at "mz ev") (fun hb8 H8 e8 => ?_) (fun hb8 H8 e8 => ?_)
    · have hb8 := of_decide_eq_true hb8
      obtain ⟨hn2, hn6⟩ := hz3 hb8
      have hn6 : n ≤ 6 := by omega
      refine s_retLT (lt_mapR2 (lo := 1) (n := n) (fun i => doorD (1 + (i : Int), 0, ([none, some 0, some 1, some 2, some 3] : List (Option Int)).getD (1 + (i : Int) - 1).toNat none)) (by walk_at "mz ev") ⟨by omega, by omega, by omega, by omega⟩ (fun x => rfl) fun i H9 e9 hi => td_door (by walk_at "mz ev") ev_c (td_ixLocks (K := K) (ea_tc (td_lock0 ev_c) (ea_tc (td_lock1 ev_c) (ea_tc (td_lock1 ev_c) (ea_tc (td_lock1 ev_c) (ea_tc (td_lock1 ev_c) ea_tn))))) (by walk_at "mz ev") (by omega) (by simp; omega))) fun p H9 np e9 hp => ?_
      rw [doors_map] at hp
      have hh := doors_ok (n := n) (m := (n - 1).toNat) (g := fun i => (1 + (i : Int), 0, ([none, some 0, some 1, some 2, some 3] : List (Option Int)).getD (1 + (i : Int) - 1).toNat none)) (fun i hi => ⟨⟨by show 0 ≤ 1 + (i : Int); omega, by show 1 + (i : Int) < n; omega⟩, ⟨by show (0 : Int) ≤ 0; omega, by show (0 : Int) < n; omega⟩, lockOk_getD (by decide) _⟩) (by omega)
      exact q _ hh.1 hh.2 p H9 (fresh_back (e17.trans e8) np) ((e17.trans e8).trans e9) hp
    refine s_retLT (ds := ([] : List Door).map doorD) (lt_lst ea_tn (by simp)) fun p H9 np e9 hp => q [] ⟨(fun d hd => absurd hd (by simp)), by simp⟩ (by simp) p H9 (fresh_back (e17.trans e8) np) ((e17.trans e8).trans e9) hp
end

section
variable {P : Program} {w : World} {K : PySem.W.Frag} {mg : Str → Option Value} {base : Heap}
theorem ev_scr {σ : L2.St} {H : Hp} {ta tb : TE} {a : Addr} {ns : List Int} {k : Int} (ha : Ev ta σ H (.ref a)) (hS : SqL K H a (ns.map V.int)) (hb : Ev tb σ H (.int k)) (h0 : 0 ≤ k) (h1 : k < (ns.length : Int)) : Ev (tOp (rIxL K) ta tb) σ H (.int (ns.getD k.toNat 0)) := by
  have hl : k.toNat < ns.length := by omega
  have e : (ns.map V.int)[k.toNat]? = some (.int (ns.getD k.toNat 0)) := by
    rw [List.getElem?_map, List.getElem?_eq_getElem hl, List.getD_eq_getElem?_getD, List.getElem?_eq_getElem hl]
    rfl
  exact ev_op ha hb (rv_ixL hS (at_of (by omega) e))
theorem min_len {ns : List Int} : ∃ j : Nat, (if (27 : Int) < ((ns.map V.int).length : Int) then (27 : Int) else ((ns.map V.int).length : Int)) = (j : Int) ∧ j ≤ 27 ∧ j ≤ ns.length := by
  rw [List.length_map]
  by_cases h : (27 : Int) < (ns.length : Int)
  · exact ⟨27, by rw [if_pos h]; rfl, by omega, by omega⟩
  · exact ⟨ns.length, by rw [if_neg h], by omega, by omega⟩
theorem step3 : ∀ j : Fin 28, Builtin.Range.small 5 ((j.val : Nat) : Int) 3 = true ∧ Builtin.Range.rangeSize 5 ((j.val : Nat) : Int) 3 = (((j.val - 3) / 3 : Nat) : Int) := by decide +kernel
/-- a range by steps -/
theorem q_forR3 {σ : L2.St} {H : Hp} {ta : TA} {tu tz : TS} {D : Ends} {jj : Nat} {lo hi c : Int} {n : Nat} (h : EvA ta σ H [.int lo, .int hi, .int c]) (hn : RgC lo hi c n) (Pv : Nat → L2.St → Hp → Prop) (h0 : ∀ H1, Ex H H1 → Pv 0 σ H1)
    (hs : ∀ (i : Nat) σ' H', i < n → Pv i σ' H' → tu { D with nx := Pv (i + 1), ct := Pv (i + 1), bk := tz D } (σ'.set jj (some (.int (lo + (i : Int) * c)))) H') (hd : ∀ σ' H', Pv n σ' H' → tz D σ' H') : tSeq (tFor (iRng3 ta) (gName jj) tu) tz D σ H :=
  h H (Ex.refl H) _ fun H1 e => ⟨lo, hi, c, n, rfl, hn, for_rangeC (D := { D with nx := tz D }) Pv (h0 H1 e) (fun i σ' H' hi p => hs i σ' H' hi p) hd⟩
/-! ### the doors -/
abbrev sp_l_doors (K : PySem.W.Frag) : Sp := fun vs H Q _ => ∃ (a : Addr) (ns : List Int) (n : Int), vs = [.ref a, .int n] ∧ SqL K H a (ns.map V.int) ∧ SizeOk (cellAt ns 0) n ∧ ns.length ≤ 63 ∧ ∀ ds, DoorsOk n ds → ∀ p H2, H p = none → Ex H H2 → LstT H2 p (ds.map doorD) → Q (.ref p) H2
theorem ok_l_doors (T : Txt K mg) : Kept P w K mg base 4 "_law_doors" ["_law_script", "_law_size_here"] (sp_l_doors K) := by
  refine T.d_l_doors.kept sc_l_doors (fun vs H Q E h => ?_) (fun cdv A outer s H vs Q E hr h => ?_)
  · obtain ⟨a, ns, n, rfl, _⟩ := h
    rfl
  · obtain ⟨a, ns, n, rfl, hS, hz, hl63, q⟩ := h
    have hz1 : 1 ≤ n ∧ n ≤ 60 := ⟨hz.1, hz.2.1⟩
    refine ⟨_, (pss_cons (ps_set (i := 2) sc_l_doors.nd rfl (Or.inl rfl) (pe_fn (ok_l_cell_at (K := K) T) (hr.mono (by decide)) passL (by rfl) (pa_cons (pv 0) (pa_cons pe_int pa_nil))))
      (pss_cons (ps_set (i := 3) sc_l_doors.nd rfl (Or.inl rfl) (pe_fn (ok_l_built (K := K) T) (hr.mono (by decide)) passL (by rfl) (pa_cons (pv 2) (pa_cons (pv 1) pa_nil))))
      (pss_cons (ps_if (pt_cmpR (op_in_seq_K (K := K) rfl) (pe_op op_mod (pv 2) pe_int) (pe_tup (pa_cons pe_int (pa_cons pe_int (pa_cons pe_int (pa_cons pe_int (pa_cons pe_int (pa_cons pe_int (pa_cons pe_int pa_nil)))))))) (by rfl))
        (pss_one (ps_ret (pv 3)))
        pss_nil)
      (pss_cons (ps_for (passes_of rfl) rfl (pi_range2 (by rfl) T.n_range (pa_cons pe_int (pa_cons (pe_callB (call_min2 rfl) (by rfl) T.n_min (by decide +kernel) (pa_cons (pe_callB (call_len_seq_K (K := K) rfl) (by rfl) T.n_len (by decide +kernel) (pa_cons (pv 0) pa_nil)) (pa_cons pe_int pa_nil))) pa_nil))) (pg_name (i := 4) sc_l_doors.nd rfl (Or.inl rfl))
        (pss_cons (ps_set (i := 5) sc_l_doors.nd rfl (Or.inl rfl) (pe_ix (ix_list_K (K := K) rfl) (pv 0) (pv 4) (fun _ _ => rfl)))
      (pss_one (ps_if (PW.pt (pw_and (pt_cmpR op_ne (pe_op op_mod (pv 4) pe_int) pe_int (nomark _)) (pw_and1 (PW.pt (pw_or (pt_cmpR (op_notIn_seq_K (K := K) rfl) (pe_op op_mod (pv 2) pe_int) (pe_tup (pa_cons pe_int (pa_cons pe_int pa_nil))) (by rfl)) (pw_or1 (pt_cmpR op_gt (pv 4) pe_int (nomark _))))))))
        (pss_cons (ps_set (i := 6) sc_l_doors.nd rfl (Or.inl rfl) (pe_op op_mod (pe_fn (ok_l_mix (K := K) T) (hr.mono (by decide)) passL (by rfl) (pa_cons (pv 5) (pa_cons pe_int pa_nil))) (pv 1)))
      (pss_one (ps_expr (pe_bm_K (K := K) rfl PySem.F.plainAttrs_list PySem.F.slot_list_append PySem.F.type_list_append mt_append (pv 3) (pa_cons (pe_tup (pa_cons (pv 6) (pa_cons (pe_op op_mod (pe_fn (ok_l_mix (K := K) T) (hr.mono (by decide)) passL (by rfl) (pa_cons (pv 5) (pa_cons pe_int pa_nil))) (pv 1)) (pa_cons (pe_fn (ok_l_lock (K := K) T) (hr.mono (by decide)) passL (by rfl) (pa_cons (pe_fn (ok_l_mix (K := K) T) (hr.mono (by decide)) passL (by rfl) (pa_cons (pv 5) (pa_cons pe_int pa_nil))) pa_nil)) pa_nil)))) pa_nil)))))
        pss_nil))))
      (pss_one (ps_ret (pv 3))))))), ?_⟩
    obtain ⟨f, ef⟩ : ∃ f, cellAt ns 0 = f := ⟨_, rfl⟩
    rw [ef] at hz
    refine q_asg (v := .int f) ?_ fun H1 e1 => ?_
    · rw [← ef]
      exact ev_call0 (ea_cons (ev_var rfl) (ea_cons ev_c ea_nil)) (sv_l_cell_at hS (by decide))
    refine q_asgA (vs := [.int f, .int n]) (ea_cons (ev_var rfl) (ea_cons (ev_var rfl) ea_nil)) fun H2 e2 => ⟨f, n, rfl, hz, fun ds0 hd0 hd00 l H3 nl e3 hl => ?_⟩
    have e12 := e1.trans e2
    have nlH : H l = none := fresh_back e12 nl
    have e13 := e12.trans e3
    refine q_when (b := decide (f % 12 ∈ [4, 5, 6, 7, 8, 9, 10])) (et_test (ev_inW (ns := [4, 5, 6, 7, 8, 9, 10]) (by walk_at "mz ev") (td_tup (ds := [.int 4, .int 5, .int 6, .int 7, .int 8, .int 9, .int 10]) (ea_tc (td_int ev_c) (ea_tc (td_int ev_c) (ea_tc (td_int ev_c) (ea_tc (td_int ev_c) (ea_tc (td_int ev_c) (ea_tc (td_int ev_c) (ea_tc (td_int ev_c) ea_tn))))))) (by simp)))) (fun hb H4 e4 => s_ret (ev_var rfl) fun H5 e5 => q ds0 hd0 l H5 nlH ((e13.trans e4).trans e5) (hl.ex (e4.trans e5))) (fun hb H4 e4 => ?_)
    obtain ⟨j, ej, hj27, hjl⟩ := min_len (ns := ns)
    refine q_forR2 (lo := 3) (n := (j : Int)) (ea_cons ev_c (ea_cons (ev_is (ev_min2 (ev_lenS (ev_var rfl) (ex_l (e13.trans e4) hS)) ev_c) (by rw [ej])) ea_nil)) ⟨by omega, by omega, by omega, by omega⟩ (fun i σ' H' => Ex H H' ∧ ∃ (y4 y5 y6 : Option V) (ds : List Door), σ' = [some (.ref a), some (.int n), some (.int f), some (.ref l), y4, y5, y6] ∧ LstT H' l (ds.map doorD) ∧ (∀ d ∈ ds, WfD n d) ∧ ds.length ≤ 900 + i) (fun H5 e5 => ⟨(e13.trans e4).trans e5, none, none, none, ds0, rfl, hl.ex (e4.trans e5), hd0.1, by omega⟩) (fun i σ' H' hi hP => ?_) (fun σ' H' hP => ?_)
    · obtain ⟨eH, y4, y5, y6, ds, rfl, hL, hwf, hlen⟩ := hP
      obtain ⟨c, ec⟩ : ∃ c, ns.getD (3 + (i : Int)).toNat 0 = c := ⟨_, rfl⟩
      refine q_asg (v := .int c) (by rw [← ec]; exact ev_scr (ev_var rfl) (ex_l eH hS) (by walk_at "mz ev") (by omega) (by omega)) fun H5 e5 => ?_
      refine s_when (b := !decide ((3 + (i : Int)) % 3 = 2) && ((!decide (f % 6 ∈ [2, 3])) || decide ((20 : Int) < 3 + (i : Int)))) (et_and (by walk_at "mz ev") fun _ => et_or (et_test (ev_ni2 (by walk_at "mz ev"))) fun _ => by walk_at "mz ev") (fun _ H6 e6 => ?_) (fun _ H6 e6 => ⟨(eH.trans e5).trans e6, _, _, _, ds, rfl, hL.ex (e5.trans e6), hwf, by omega⟩)
      have eH6 := (eH.trans e5).trans e6
      have hL6 := hL.ex (e5.trans e6)
      have evm : ∀ {σ : L2.St} {H' : Hp} {ta tb : TE} {x y : Int} {E : XK}, Ev ta σ H' (.int x) → Ev tb σ H' (.int y) → Ev (tCall (sp_l_mix K) [] E (tCons ta (tCons tb tNil))) σ H' (.int (mix x y)) := fun h1 h2 => ev_call0 (ea_cons h1 (ea_cons h2 ea_nil)) sv_l_mix
      refine q_asg (v := .int (mix c 0 % n)) (ev_op (evm (ev_var rfl) ev_c) (ev_var rfl) (rv_I (by omega))) fun H7 e7 => ?_
      refine s_appT (hL6.ex e7) (ev_var rfl) (td_door (a := mix c 0 % n) (b := mix c 1 % n) (ev_var rfl) (ev_op (evm (ev_var rfl) ev_c) (ev_var rfl) (rv_I (by omega))) (td_l_lock (evm (ev_var rfl) ev_c))) (by rw [List.length_map]; omega) fun H9 xs v e9 hx9 hp9 => ⟨Ex.mut ((eH6.trans e7).trans e9) nlH, _, _, _, ds ++ [_], rfl, by rw [List.map_append]; exact hp9, wfd_append hwf ⟨mod_here (n := n) (by omega) _, mod_here (n := n) (by omega) _, lockF_ok _⟩, by simp; omega⟩
    · obtain ⟨eH, y4, y5, y6, ds, rfl, hL, hwf, hlen⟩ := hP
      exact s_ret (ev_var rfl) fun H5 e5 => q ds ⟨hwf, by omega⟩ l H5 nlH (eH.trans e5) (hL.ex e5)
/-! ### the keys that lie -/
theorem keys_map {m : Nat} {g : Nat → Key2} : (List.range m).map (fun i => keyD (g i)) = ((List.range m).map g).map keyD := by
  rw [List.map_map]
  rfl
theorem keys_mapF {m : Nat} {p : Nat → Bool} {g : Nat → Key2} : ((List.range m).filter p).map (fun i => keyD (g i)) = (((List.range m).filter p).map g).map keyD := by
  rw [List.map_map]
  rfl
abbrev KeyOk (n : Int) (k : Key2) : Prop := Here n k.1 ∧ Here 5 k.2
theorem keys_ok {m : Nat} {p : Nat → Bool} {g : Nat → Key2} {n : Int} (h : ∀ i, i < m → KeyOk n (g i)) : (∀ k ∈ ((List.range m).filter p).map g, KeyOk n k) ∧ (((List.range m).filter p).map g).length ≤ m := by
  refine ⟨fun d hd => ?_, ?_⟩
  · obtain ⟨i, hi, rfl⟩ := List.mem_map.mp hd
    exact h i (List.mem_range.mp (List.mem_filter.mp hi).1)
  · rw [List.length_map]
    exact Nat.le_trans (List.length_filter_le _ _) (by simp)
theorem keys_ok1 {m : Nat} {g : Nat → Key2} {n : Int} (h : ∀ i, i < m → KeyOk n (g i)) : (∀ k ∈ (List.range m).map g, KeyOk n k) ∧ ((List.range m).map g).length ≤ m := by
  refine ⟨fun d hd => ?_, by simp⟩
  obtain ⟨i, hi, rfl⟩ := List.mem_map.mp hd
  exact h i (List.mem_range.mp hi)
theorem keys_app {n : Int} {ks : List Key2} {k : Key2} (h : ∀ k ∈ ks, KeyOk n k) (hd : KeyOk n k) : ∀ x ∈ ks ++ [k], KeyOk n x := fun x hx => by
  rcases List.mem_append.mp hx with h1 | h1
  · exact h x h1
  · simp at h1
    subst h1
    exact hd
theorem keys_app2 {n : Int} {ks ls : List Key2} (h : ∀ k ∈ ks, KeyOk n k) (hd : ∀ k ∈ ls, KeyOk n k) : ∀ x ∈ ks ++ ls, KeyOk n x := fun x hx => by
  rcases List.mem_append.mp hx with h1 | h1
  · exact h x h1
  · exact hd x h1
theorem here5 {i : Int} (h1 : 0 ≤ i) (h2 : i < 5) : Here 5 i := ⟨h1, h2⟩
abbrev sp_l_lying (K : PySem.W.Frag) : Sp := fun vs H Q _ => ∃ (a : Addr) (ns : List Int) (n : Int), vs = [.ref a, .int n] ∧ SqL K H a (ns.map V.int) ∧ SizeOk (cellAt ns 0) n ∧ ns.length ≤ 63 ∧ ∀ ks, KeysOk n ks → ∀ p H2, H p = none → Ex H H2 → LstT H2 p (ks.map keyD) → Q (.ref p) H2
theorem ok_l_lying (T : Txt K mg) : Kept P w K mg base 2 "_law_lying" ["_law_script", "_law_size_here"] (sp_l_lying K) := by
  refine T.d_l_lying.kept sc_l_lying (fun vs H Q E h => ?_) (fun cdv A outer s H vs Q E hr h => ?_)
  · obtain ⟨a, ns, n, rfl, _⟩ := h
    rfl
  · obtain ⟨a, ns, n, rfl, hS, hz, hl63, q⟩ := h
    refine ⟨_, (pss_cons (ps_set (i := 2) sc_l_lying.nd rfl (Or.inl rfl) (pe_fn (ok_l_cell_at (K := K) T) (hr.mono (by decide)) passL (by rfl) (pa_cons (pv 0) (pa_cons pe_int pa_nil))))
      (pss_cons (ps_set (i := 3) sc_l_lying.nd rfl (Or.inr rfl) (pe_op op_fdiv (pe_fn (ok_l_cell_at (K := K) T) (hr.mono (by decide)) passL (by rfl) (pa_cons (pv 0) (pa_cons pe_int pa_nil))) pe_int))
      (pss_cons (ps_if (pt_cmpR op_eq (pe_op op_mod (pv 2) pe_int) pe_int (nomark _))
        (pss_cons (ps_setLc (i := 4) (own := [("_law_k", 5)]) (g := gName 5) rfl sc_l_lying.nd rfl rfl (sw_true rfl rfl rfl (by decide +kernel)) (pi_range1 (by rfl) T.n_range (pa_cons pe_int pa_nil)) (blkOk_by (own := [("_law_k", 5)]) (N := ["_law_script", "_law_size_here", "_law_first", "_law_turn", "_law_made", "_law_k"]) (sc := defScope s_l_lying) (by decide +kernel)) (fun _ _ _ _ _ => (pg_name (i := 5) sc_l_lying.nd rfl (Or.inl rfl))) (fun _ _ _ _ _ => pts_nil) (fun _ _ _ _ _ => (pe_tup (pa_cons (pe_op op_mod (pe_op op_add (pe_op op_mul (pv 3) (pe_op op_add (pe_op op_mul pe_int (pv 5)) pe_int)) (pv 5)) (pv 1)) (pa_cons (pv 5) pa_nil)))))
      (pss_one (ps_ret (pe_op op_cat (pv 4) (pe_lc (own := [("_law_k", 5)]) (g := gName 5) rfl sc_l_lying.nd (pi_range1 (by rfl) T.n_range (pa_cons pe_int pa_nil)) (blkOk_by (own := [("_law_k", 5)]) (N := ["_law_script", "_law_size_here", "_law_first", "_law_turn", "_law_made", "_law_k"]) (sc := defScope s_l_lying) (by decide +kernel)) (fun _ _ _ _ _ => (pg_name (i := 5) sc_l_lying.nd rfl (Or.inl rfl))) (fun _ _ _ _ _ => pts_one (pt_cmpR op_eq (pe_op op_mod (pv 5) pe_int) pe_int (nomark _))) (fun _ _ _ _ _ => (pe_tup (pa_cons (pe_op op_mod (pe_op op_add (pv 5) (pv 3)) (pv 1)) (pa_cons pe_int pa_nil)))))))))
        pss_nil)
      (pss_cons (ps_if (pt_cmpR op_eq (pe_op op_mod (pv 2) pe_int) pe_int (nomark _))
        (pss_one (ps_ret (pe_lst (pa_cons (pe_tup (pa_cons pe_int (pa_cons pe_int pa_nil))) (pa_cons (pe_tup (pa_cons (pe_op op_sub (pv 1) pe_int) (pa_cons pe_int pa_nil))) (pa_cons (pe_tup (pa_cons pe_int (pa_cons pe_int pa_nil))) (pa_cons (pe_tup (pa_cons (pe_op op_sub (pv 1) pe_int) (pa_cons pe_int pa_nil))) (pa_cons (pe_tup (pa_cons pe_int (pa_cons pe_int pa_nil))) pa_nil))))))))
        pss_nil)
      (pss_cons (ps_if (pt_cmpR op_eq (pe_op op_mod (pv 2) pe_int) pe_int (nomark _))
        (pss_one (ps_ret (pe_lc (own := [("_law_k", 5)]) (g := gName 5) rfl sc_l_lying.nd (pi_range2 (by rfl) T.n_range (pa_cons pe_int (pa_cons (pv 1) pa_nil))) (blkOk_by (own := [("_law_k", 5)]) (N := ["_law_script", "_law_size_here", "_law_first", "_law_turn", "_law_made", "_law_k"]) (sc := defScope s_l_lying) (by decide +kernel)) (fun _ _ _ _ _ => (pg_name (i := 5) sc_l_lying.nd rfl (Or.inl rfl))) (fun _ _ _ _ _ => pts_nil) (fun _ _ _ _ _ => (pe_tup (pa_cons (pv 5) (pa_cons (pe_op op_mod (pe_op op_add (pv 5) (pv 3)) pe_int) pa_nil)))))))
        pss_nil)
      (pss_cons (ps_if (pt_cmpR (op_in_seq_K (K := K) rfl) (pe_op op_mod (pv 2) pe_int) (pe_tup (pa_cons pe_int (pa_cons pe_int pa_nil))) (by rfl))
        (pss_one (ps_ret (pe_lst (pa_cons (pe_tup (pa_cons (pe_op op_mod (pv 3) (pv 1)) (pa_cons pe_int pa_nil))) (pa_cons (pe_tup (pa_cons (pe_op op_mod (pe_op op_add (pe_op op_mul (pv 3) pe_int) pe_int) (pv 1)) (pa_cons pe_int pa_nil))) pa_nil)))))
        pss_nil)
      (pss_cons (ps_if (PW.pt (pw_or (pt_cmpR op_eq (pe_op op_mod (pv 2) pe_int) pe_int (nomark _)) (pw_or1 (pt_cmpR op_eq (pe_op op_mod (pv 2) pe_int) pe_int (nomark _)))))
        (pss_one (ps_ret (pe_lc (own := [("_law_k", 5)]) (g := gName 5) rfl sc_l_lying.nd (pi_range1 (by rfl) T.n_range (pa_cons (pe_op op_add pe_int (pe_op op_mod (pv 3) pe_int)) pa_nil)) (blkOk_by (own := [("_law_k", 5)]) (N := ["_law_script", "_law_size_here", "_law_first", "_law_turn", "_law_made", "_law_k"]) (sc := defScope s_l_lying) (by decide +kernel)) (fun _ _ _ _ _ => (pg_name (i := 5) sc_l_lying.nd rfl (Or.inl rfl))) (fun _ _ _ _ _ => pts_nil) (fun _ _ _ _ _ => (pe_tup (pa_cons (pe_op op_mod (pe_op op_add (pe_op op_mul (pv 5) (pv 5)) (pv 3)) (pv 1)) (pa_cons (pe_op op_mod (pe_op op_mul (pv 5) pe_int) pe_int) pa_nil)))))))
        pss_nil)
      (pss_cons (ps_set (i := 4) sc_l_lying.nd rfl (Or.inl rfl) (pe_lst pa_nil))
      (pss_cut (ps_if (pt_cmpR op_eq (pe_op op_mod (pv 2) pe_int) pe_int (nomark _))
        (pss_one (ps_setLc (i := 4) (own := [("_law_k", 5)]) (g := gName 5) rfl sc_l_lying.nd rfl rfl (sw_true rfl rfl rfl (by decide +kernel)) (pi_range2 (by rfl) T.n_range (pa_cons pe_int (pa_cons (pv 1) pa_nil))) (blkOk_by (own := [("_law_k", 5)]) (N := ["_law_script", "_law_size_here", "_law_first", "_law_turn", "_law_made", "_law_k"]) (sc := defScope s_l_lying) (by decide +kernel)) (fun _ _ _ _ _ => (pg_name (i := 5) sc_l_lying.nd rfl (Or.inl rfl))) (fun _ _ _ _ _ => pts_nil) (fun _ _ _ _ _ => (pe_tup (pa_cons (pv 5) (pa_cons (pe_op op_sub (pv 5) pe_int) pa_nil))))))
        pss_nil)
      (pss_cons (ps_for (passes_of rfl) rfl (pi_range3 (by rfl) T.n_range (pa_cons pe_int (pa_cons (pe_callB (call_min2 rfl) (by rfl) T.n_min (by decide +kernel) (pa_cons (pe_callB (call_len_seq_K (K := K) rfl) (by rfl) T.n_len (by decide +kernel) (pa_cons (pv 0) pa_nil)) (pa_cons pe_int pa_nil))) (pa_cons pe_int pa_nil)))) (pg_name (i := 5) sc_l_lying.nd rfl (Or.inl rfl))
        (pss_one (ps_expr (pe_bm_K (K := K) rfl PySem.F.plainAttrs_list PySem.F.slot_list_append PySem.F.type_list_append mt_append (pv 4) (pa_cons (pe_tup (pa_cons (pe_op op_mod (pe_fn (ok_l_mix (K := K) T) (hr.mono (by decide)) passL (by rfl) (pa_cons (pe_ix (ix_list_K (K := K) rfl) (pv 0) (pv 5) (fun _ _ => rfl)) (pa_cons pe_int pa_nil))) (pv 1)) (pa_cons (pe_op op_mod (pe_fn (ok_l_mix (K := K) T) (hr.mono (by decide)) passL (by rfl) (pa_cons (pe_ix (ix_list_K (K := K) rfl) (pv 0) (pv 5) (fun _ _ => rfl)) (pa_cons pe_int pa_nil))) pe_int) pa_nil))) pa_nil)))))
      (pss_one (ps_ret (pv 4))))))))))))), ?_⟩
    obtain ⟨f, ef⟩ : ∃ f, cellAt ns 0 = f := ⟨_, rfl⟩
    rw [ef] at hz
    obtain ⟨hz0, hz60, hz4, hz10, hz7, hz5, hz9, hz68, hz2, hz3⟩ := hz
    refine q_asg (v := .int f) ?_ fun H1 e1 => ?_
    · rw [← ef]
      exact ev_call0 (ea_cons (ev_var rfl) (ea_cons ev_c ea_nil)) (sv_l_cell_at hS (by decide))
    obtain ⟨u, eu⟩ : ∃ u, cellAt ns 1 / 60 = u := ⟨_, rfl⟩
    refine q_asg (v := .int u) ?_ fun H2 e2 => ?_
    · rw [← eu]
      exact ev_op (ev_call0 (ea_cons (ev_var rfl) (ea_cons ev_c ea_nil)) (sv_l_cell_at (ex_l e1 hS) (by decide))) ev_c (rv_I (by walk_at "mz side"))
    have e12 := e1.trans e2
    refine q_when (b := decide (f % 12 = 4)) (by walk_at "mz ev") (fun hb H3 e3 => ?_) (fun hb H3 e3 => ?_)
    · refine q_asgLT (lt_mapR1 (n := 4) (fun i => keyD ((u * (2 * (i : Int) + 1) + (i : Int)) % n, (i : Int))) (by walk_at "mz ev") (by omega) (fun x => rfl) fun i H4 e4 hi => td_key (by walk_at "mz ev") (by walk_at "mz ev")) fun l H4 nl e4 hl => ?_
      rw [keys_map] at hl
      refine s_retLT (lt_cat (ev_var rfl) hl (lt_lcR1 (n := 60) (fun i => decide ((i : Int) % 2 = 1)) (fun i => keyD (((i : Int) + u) % n, 4)) (by walk_at "mz ev") (by omega) (fun x => rfl) (fun i H5 e5 hi => by walk_at "mz ev") (fun i H5 e5 hi _ => td_key (by walk_at "mz ev") ev_c)) ?_) fun p H5 np e5 hp => ?_
      · have := len_filt (fun i => decide ((i : Int) % 2 = 1)) (fun i => keyD (((i : Int) + u) % n, 4)) (60 : Int).toNat
        simp only [List.length_map, List.length_range] at this ⊢
        omega
      · rw [keys_mapF, ← List.map_append] at hp
        have h1 := keys_ok1 (n := n) (m := (4 : Int).toNat) (g := fun i => ((u * (2 * (i : Int) + 1) + (i : Int)) % n, (i : Int))) fun i hi => ⟨mod_here (n := n) (by omega) _, here5 (by show (0 : Int) ≤ (i : Int); omega) (by show (i : Int) < 5; omega)⟩
        have h2 := keys_ok (n := n) (m := (60 : Int).toNat) (p := fun i => decide ((i : Int) % 2 = 1)) (g := fun i => (((i : Int) + u) % n, 4)) fun i hi => ⟨mod_here (n := n) (by omega) _, here5 (by dsimp only; omega) (by dsimp only; omega)⟩
        exact q _ ⟨keys_app2 h1.1 h2.1, by rw [List.length_append]; have := h1.2; have := h2.2; omega⟩ p H5 (fresh_back ((e12.trans e3).trans e4) np) (((e12.trans e3).trans e4).trans e5) hp
    simp only [decide_eq_false_iff_not] at hb
    have e13 := e12.trans e3
    refine q_when (b := decide (f % 12 = 10)) (by walk_at "mz ev") (fun hb2 H4 e4 => ?_) (fun hb2 H4 e4 => ?_)
    · have hb2 := of_decide_eq_true hb2
      obtain ⟨hn20, hn40⟩ := hz10 hb2
      refine s_retLT (ds := ([(2, 0), (n - 3, 1), (1, 2), (n - 2, 3), (0, 4)] : List Key2).map keyD) (lt_lst (ea_tc (td_key ev_c ev_c) (ea_tc (td_key (by walk_at "mz ev") ev_c) (ea_tc (td_key ev_c ev_c) (ea_tc (td_key (by walk_at "mz ev") ev_c) (ea_tc (td_key ev_c ev_c) ea_tn))))) (by simp)) fun p H5 np e5 hp => q _ ⟨?_, by simp⟩ p H5 (fresh_back (e13.trans e4) np) ((e13.trans e4).trans e5) hp
      intro k hk
      simp only [List.mem_cons, List.not_mem_nil, or_false] at hk
      rcases hk with h | h | h | h | h <;> subst h <;> exact ⟨⟨by dsimp only; omega, by dsimp only; omega⟩, by dsimp only; omega, by dsimp only; omega⟩
    simp only [decide_eq_false_iff_not] at hb2
    have e14 := e13.trans e4
    refine q_when (b := decide (f % 12 = 7)) (by walk_at "mz ev") (fun hb3 H5 e5 => ?_) (fun hb3 H5 e5 => ?_)
    · refine s_retLT (lt_mapR2 (lo := 1) (n := n) (fun i => keyD (1 + (i : Int), (1 + (i : Int) + u) % 5)) (by walk_at "mz ev") ⟨by omega, by omega, by omega, by omega⟩ (fun x => rfl) fun i H6 e6 hi => td_key (by walk_at "mz ev") (by walk_at "mz ev")) fun p H6 np e6 hp => ?_
      rw [keys_map] at hp
      have h1 := keys_ok1 (n := n) (m := (n - 1).toNat) (g := fun i => (1 + (i : Int), (1 + (i : Int) + u) % 5)) fun i hi => ⟨⟨by show 0 ≤ 1 + (i : Int); omega, by show 1 + (i : Int) < n; omega⟩, mod_here (n := 5) (by decide) _⟩
      exact q _ ⟨h1.1, by have := h1.2; omega⟩ p H6 (fresh_back (e14.trans e5) np) ((e14.trans e5).trans e6) hp
    have e15 := e14.trans e5
    refine q_when (b := decide (f % 12 ∈ [6, 8])) (et_test (ev_in2 (by walk_at "mz ev"))) (fun hb6 H6 e6 => ?_) (fun hb6 H6 e6 => ?_)
    · refine s_retLT (ds := ([(u % n, 0), ((u * 7 + 5) % n, 0)] : List Key2).map keyD) (lt_lst (ea_tc (td_key (by walk_at "mz ev") ev_c) (ea_tc (td_key (by walk_at "mz ev") ev_c) ea_tn)) (by simp)) fun p H7 np e7 hp => q _ ⟨?_, by simp⟩ p H7 (fresh_back (e15.trans e6) np) ((e15.trans e6).trans e7) hp
      intro k hk
      simp only [List.mem_cons, List.not_mem_nil, or_false] at hk
      rcases hk with h | h <;> subst h <;> exact ⟨mod_here (n := n) (by omega) _, here5 (by dsimp only; omega) (by dsimp only; omega)⟩
    have e16 := e15.trans e6
    refine q_when (b := decide (f % 12 = 5) || decide (f % 12 = 9)) (by walk_at "mz ev") (fun hb5 H7 e7 => ?_) (fun hb5 H7 e7 => ?_)
    · refine s_retLT (lt_mapR1 (n := 5 + u % 56) (fun i => keyD (((i : Int) * (i : Int) + u) % n, (i : Int) * 3 % 5)) (by walk_at "mz ev") (by omega) (fun x => rfl) fun i H8 e8 hi => td_key (by walk_at "mz ev") (by walk_at "mz ev")) fun p H8 np e8 hp => ?_
      rw [keys_map] at hp
      have h1 := keys_ok1 (n := n) (m := (5 + u % 56).toNat) (g := fun i => (((i : Int) * (i : Int) + u) % n, (i : Int) * 3 % 5)) fun i hi => ⟨mod_here (n := n) (by omega) _, mod_here (n := 5) (by decide) _⟩
      exact q _ ⟨h1.1, by have := h1.2; omega⟩ p H8 (fresh_back (e16.trans e7) np) ((e16.trans e7).trans e8) hp
    simp only [Bool.or_eq_false_iff, decide_eq_false_iff_not] at hb5
    have e17 := e16.trans e7
    refine q_asgLT (ds := []) (lt_lst ea_tn (by simp)) fun l0 H8 nl0 e8 hl0 => ?_
    have e18 := e17.trans e8
    refine q_cut (M := fun σ' H' => Ex H H' ∧ ∃ (l : Addr) (ks : List Key2), H l = none ∧ σ' = [some (.ref a), some (.int n), some (.int f), some (.int u), some (.ref l), none] ∧ LstT H' l (ks.map keyD) ∧ (∀ k ∈ ks, KeyOk n k) ∧ ks.length ≤ 60) ?_ ?_
    · refine s_when (b := decide (f % 6 = 3)) (by walk_at "mz ev") (fun hb8 H9 e9 => ?_) (fun hb8 H9 e9 => ⟨e18.trans e9, l0, [], fresh_back e17 nl0, rfl, hl0.ex e9, (fun k hk => absurd hk (by simp)), by simp⟩)
      have hb8 := of_decide_eq_true hb8
      obtain ⟨hn2, hn6⟩ := hz3 hb8
      have hn6 : n ≤ 6 := by omega
      refine s_asgLT (lt_mapR2 (lo := 1) (n := n) (fun i => keyD (1 + (i : Int), 1 + (i : Int) - 1)) (by walk_at "mz ev") ⟨by omega, by omega, by omega, by omega⟩ (fun x => rfl) fun i H10 e10 hi => td_key (by walk_at "mz ev") (by walk_at "mz ev")) fun p H10 np e10 hp => ?_
      rw [keys_map] at hp
      have h1 := keys_ok1 (n := n) (m := (n - 1).toNat) (g := fun i => (1 + (i : Int), 1 + (i : Int) - 1)) fun i hi => ⟨⟨by show 0 ≤ 1 + (i : Int); omega, by show 1 + (i : Int) < n; omega⟩, here5 (by show (0 : Int) ≤ 1 + (i : Int) - 1; omega) (by show 1 + (i : Int) - 1 < 5; omega)⟩
      exact ⟨(e18.trans e9).trans e10, p, _, fresh_back (e18.trans e9) np, rfl, hp, h1.1, by have := h1.2; omega⟩
    · rintro σ' H9 ⟨e9, l, ks0, nlH, rfl, hl, hk0, hk60⟩
      obtain ⟨j, ej, hj27, hjl⟩ := min_len (ns := ns)
      obtain ⟨hs1, hs2⟩ := step3 ⟨j, by omega⟩
      refine q_forR3 (lo := 5) (hi := (j : Int)) (c := 3) (n := (j - 3) / 3) (ea_cons ev_c (ea_cons (ev_is (ev_min2 (ev_lenS (ev_var rfl) (ex_l e9 hS)) ev_c) (by rw [ej])) (ea_cons ev_c ea_nil))) ⟨by decide, by decide, hs1, hs2⟩ (fun i σ' H' => Ex H H' ∧ ∃ (y5 : Option V) (ks : List Key2), σ' = [some (.ref a), some (.int n), some (.int f), some (.int u), some (.ref l), y5] ∧ LstT H' l (ks.map keyD) ∧ (∀ k ∈ ks, KeyOk n k) ∧ ks.length ≤ 60 + i) (fun H10 e10 => ⟨e9.trans e10, none, ks0, rfl, hl.ex e10, hk0, by omega⟩) (fun i σ' H' hi hP => ?_) (fun σ' H' hP => ?_)
      · obtain ⟨eH, y5, ks, rfl, hL, hwf, hlen⟩ := hP
        have hcell : ∀ {ta : TE} {H' : Hp}, Ex H H' → Ev (tOp (rIxL K) (tVar 0) (tVar 5)) [some (.ref a), some (.int n), some (.int f), some (.int u), some (.ref l), some (.int (5 + (i : Int) * 3))] H' (.int (ns.getD (5 + (i : Int) * 3).toNat 0)) := fun e => ev_scr (ev_var rfl) (ex_l e hS) (ev_var rfl) (by omega) (by omega)
        refine s_appT hL (ev_var rfl) (td_key (a := mix (ns.getD (5 + (i : Int) * 3).toNat 0) 0 % n) (b := mix (ns.getD (5 + (i : Int) * 3).toNat 0) 2 % 5) (ev_op (ev_call0 (ea_cons (hcell (ta := tVar 0) eH) (ea_cons ev_c ea_nil)) sv_l_mix) (ev_var rfl) (rv_I (by omega))) (ev_op (ev_call0 (ea_cons (hcell (ta := tVar 0) eH) (ea_cons ev_c ea_nil)) sv_l_mix) ev_c (rv_I (by walk_at "mz side")))) (by rw [List.length_map]; omega) fun H11 xs v e11 hx11 hp11 => ⟨Ex.mut (eH.trans e11) nlH, _, ks ++ [_], rfl, by rw [List.map_append]; exact hp11, keys_app hwf ⟨mod_here (n := n) (by omega) _, mod_here (n := 5) (by decide) _⟩, by simp; omega⟩
      · obtain ⟨eH, y5, ks, rfl, hL, hwf, hlen⟩ := hP
        exact s_ret (ev_var rfl) fun H10 e10 => q ks ⟨hwf, by omega⟩ l H10 nlH (eH.trans e10) (hL.ex e10)
end

/-! ### the steps out of a state -/
abbrev State := Int × List Int
def stateD (s : State) : PyData := .tuple [.int s.1, intsD s.2]
def stepF (ks : List Key2) (room : Int) (held : List Int) (d : Door) : List State :=
  if opensF d held = true then (if d.1 = room then [(d.2.1, takenF ks d.2.1 held)] else if d.2.1 = room then [(d.1, takenF ks d.1 held)] else []) else []
def stepsF (ds : List Door) (ks : List Key2) (room : Int) (held : List Int) : List State := ds.flatMap (stepF ks room held)
theorem stepsF_take {ds : List Door} {ks : List Key2} {room : Int} {held : List Int} {i : Nat} {d : Door} (h : ds[i]? = some d) : stepsF (ds.take (i + 1)) ks room held = stepsF (ds.take i) ks room held ++ stepF ks room held d := by
  have e : ds.take (i + 1) = ds.take i ++ [d] := by rw [List.take_succ, h]; rfl
  unfold stepsF
  rw [e, List.flatMap_append]
  simp
theorem stepF_len (ks : List Key2) (room : Int) (held : List Int) (d : Door) : (stepF ks room held d).length ≤ 1 := by
  unfold stepF
  split
  · split
    · simp
    · split <;> simp
  · simp
theorem stepsF_len (ks : List Key2) (room : Int) (held : List Int) : ∀ ds : List Door, (stepsF ds ks room held).length ≤ ds.length
  | [] => by simp [stepsF]
  | d :: ds => by
    have h1 := stepsF_len ks room held ds
    have h2 := stepF_len ks room held d
    simp only [stepsF, List.flatMap_cons, List.length_append, List.length_cons] at *
    omega
section
variable {P : Program} {w : World} {K : PySem.W.Frag} {mg : Str → Option Value} {base : Heap}
theorem td_state {σ : L2.St} {H : Hp} {t1 t2 : TE} {a : Int} {hs : List Int} (h1 : Ev t1 σ H (.int a)) (h2 : EvTd t2 σ H (intsD hs)) : EvTd (tTup (tCons t1 (tCons t2 tNil))) σ H (stateD (a, hs)) := td_tup (ea_tc (td_int h1) (ea_tc h2 ea_tn)) (by simp)
def sp_steps (K : PySem.W.Frag) : Sp := fun vs H Q E => ∃ (v hv : V) (n room : Int) (ds : List Door) (ks : List Key2) (held : List Int), vs = [v, .int room, hv] ∧ Dp K H v (mazeF n ds ks) ∧ Dp K H hv (intsD held) ∧ DoorsOk n ds ∧
  (Here n room → ∀ p H2, H p = none → Ex H H2 → LstT H2 p ((stepsF ds ks room held).map stateD) → Q (.ref p) H2) ∧ (¬ Here n room → ∀ H2, Ex H H2 → E (cNoRoom K) none H2)
theorem ok_steps (T : Txt K mg) : Kept P w K mg base 3 "steps" ["maze", "room", "held"] (sp_steps K) := by
  refine T.d_steps.kept sc_steps (fun vs H Q E h => ?_) (fun cdv A outer s H vs Q E hr h => ?_)
  · obtain ⟨v, hv, n, room, ds, ks, held, rfl, _⟩ := h
    rfl
  · obtain ⟨v, hv, n, room, ds, ks, held, rfl, hm, hh, hok, q, qe⟩ := h
    refine ⟨_, (pss_cons (ps_expr (pe_fn (ok_need_room (K := K) T) (hr.mono (by decide)) (passR (takes_of rfl rfl rfl rfl)) (by rfl) (pa_cons (pv 0) (pa_cons (pv 1) pa_nil))))
      (pss_cons (ps_set (i := 3) sc_steps.nd rfl (Or.inl rfl) (pe_lst pa_nil))
      (pss_cons (ps_for (passes_of rfl) rfl (pi_list_K (K := K) rfl (pe_ix (ix_tup_K (K := K) rfl) (pv 0) pe_int (fun _ _ => rfl))) (pg_name (i := 4) sc_steps.nd rfl (Or.inl rfl))
        (pss_one (ps_if (pt_val (pe_fn (ok_opens (K := K) T) (hr.mono (by decide)) passL (by rfl) (pa_cons (pv 4) (pa_cons (pv 2) pa_nil))))
        (pss_one (ps_if (pt_cmpR op_eq (pe_ix (ix_tup_K (K := K) rfl) (pv 4) pe_int (fun _ _ => rfl)) (pv 1) (nomark _))
        (pss_one (ps_expr (pe_bm_K (K := K) rfl PySem.F.plainAttrs_list PySem.F.slot_list_append PySem.F.type_list_append mt_append (pv 3) (pa_cons (pe_tup (pa_cons (pe_ix (ix_tup_K (K := K) rfl) (pv 4) pe_int (fun _ _ => rfl)) (pa_cons (pe_fn (ok_taken (K := K) T) (hr.mono (by decide)) (passR (takes_of rfl rfl rfl rfl)) (by rfl) (pa_cons (pv 0) (pa_cons (pe_ix (ix_tup_K (K := K) rfl) (pv 4) pe_int (fun _ _ => rfl)) (pa_cons (pv 2) pa_nil)))) pa_nil))) pa_nil))))
        (pss_one (ps_if (pt_cmpR op_eq (pe_ix (ix_tup_K (K := K) rfl) (pv 4) pe_int (fun _ _ => rfl)) (pv 1) (nomark _))
        (pss_one (ps_expr (pe_bm_K (K := K) rfl PySem.F.plainAttrs_list PySem.F.slot_list_append PySem.F.type_list_append mt_append (pv 3) (pa_cons (pe_tup (pa_cons (pe_ix (ix_tup_K (K := K) rfl) (pv 4) pe_int (fun _ _ => rfl)) (pa_cons (pe_fn (ok_taken (K := K) T) (hr.mono (by decide)) (passR (takes_of rfl rfl rfl rfl)) (by rfl) (pa_cons (pv 0) (pa_cons (pe_ix (ix_tup_K (K := K) rfl) (pv 4) pe_int (fun _ _ => rfl)) (pa_cons (pv 2) pa_nil)))) pa_nil))) pa_nil))))
        pss_nil))))
        pss_nil)))
      (pss_one (ps_ret (pv 3)))))), ?_⟩
    refine ⟨_, rfl, _, rfl, v, n, room, _, rfl, hm, fun hr1 H1 e1 => ?_, qe⟩
    dsimp only
    refine q_asgLT (ds := []) (lt_lst ea_tn (by simp)) fun l H2 nl e2 hl => ?_
    have nlH : H l = none := fresh_back e1 nl
    have e12 := e1.trans e2
    obtain ⟨dv, hdv, edv⟩ := dp_item hm atI1
    refine q_forV (edv e12 (ev_var rfl) ev_c) hdv e12 (fun i σ' H' => Ex H H' ∧ ∃ y, σ' = [some v, some (.int room), some hv, some (.ref l), y] ∧ LstT H' l ((stepsF (ds.take i) ks room held).map stateD)) (fun H3 e3 => ⟨e12.trans e3, none, rfl, by simpa [stepsF] using hl.ex e3⟩) (fun i σ' H' hP => hP.1) (fun i d x σ' H' hdi hx hP => ?_) (fun σ' H' hP => ?_)
    · obtain ⟨eH, y, rfl, hL⟩ := hP
      rw [List.getElem?_map] at hdi
      obtain ⟨⟨d1, d2, d3⟩, hd1, rfl⟩ := Option.map_eq_some_iff.mp hdi
      have hwf := hok.1 _ (List.mem_of_getElem? hd1)
      have hlen : ((stepsF (ds.take i) ks room held).map stateD).length < 100000 := by
        rw [List.length_map]
        have h1 := stepsF_len ks room held (ds.take i)
        have h2 := List.length_take_le i ds
        have h3 := hok.2
        have h4 : (ds.take i).length ≤ ds.length := by rw [List.length_take]; omega
        omega
      show tIfS _ _ _ _ _ _
      refine s_when (b := opensF (d1, d2, d3) held) (et_B (ev_call0 (ea_cons (ev_var rfl) (ea_cons (ev_var rfl) ea_nil)) (sv_opens (dp_ex eH hx) (dp_ex eH hh)))) (fun hb H3 e3 => ?_) (fun hb H3 e3 => ⟨eH.trans e3, _, rfl, ?_⟩)
      · have eH3 := eH.trans e3
        have x0 : ∀ {σ : L2.St} {H' : Hp}, Ex H H' → σ[4]? = some (some x) → Ev (tOp (rIxT K) (tVar 4) (tC (.int 0))) σ H' (.int d1) := fun e h => ev_of_ed (ed_ixT (ed_any (ev_var h) (dp_ex e hx)) ev_c atI0)
        have x1 : ∀ {σ : L2.St} {H' : Hp}, Ex H H' → σ[4]? = some (some x) → Ev (tOp (rIxT K) (tVar 4) (tC (.int 1))) σ H' (.int d2) := fun e h => ev_of_ed (ed_ixT (ed_any (ev_var h) (dp_ex e hx)) ev_c atI1)
        refine tif_cases (b := decide (d1 = room)) (et_test (ev_op (x0 eH3 rfl) (ev_var rfl) rv_eqI)) (fun hb2 H4 e4 => ?_) (fun hb2 H4 e4 => ?_)
        · have eH4 := eH3.trans e4
          refine s_appT (d := stateD (d2, takenF ks d2 held)) (hL.ex (e3.trans e4)) (ev_var rfl) (td_state (x1 eH4 rfl) (td_takenC (ea_cons (ev_var rfl) (ea_cons (x1 eH4 rfl) (ea_cons (ev_var rfl) ea_nil))) (dp_ex eH4 hm) (dp_ex eH4 hh) hwf.2.1)) hlen fun H5 xs v5 e5 hx5 hp5 => ⟨Ex.mut (eH4.trans e5) nlH, _, rfl, ?_⟩
          rw [stepsF_take hd1]
          simp only [stepF, if_pos hb, if_pos (of_decide_eq_true hb2), List.map_append]
          exact hp5
        · have eH4 := eH3.trans e4
          refine s_when (b := decide (d2 = room)) (et_test (ev_op (x1 eH4 rfl) (ev_var rfl) rv_eqI)) (fun hb3 H5 e5 => ?_) (fun hb3 H5 e5 => ⟨eH4.trans e5, _, rfl, ?_⟩)
          · have eH5 := eH4.trans e5
            refine s_appT (d := stateD (d1, takenF ks d1 held)) (hL.ex ((e3.trans e4).trans e5)) (ev_var rfl) (td_state (x0 eH5 rfl) (td_takenC (ea_cons (ev_var rfl) (ea_cons (x0 eH5 rfl) (ea_cons (ev_var rfl) ea_nil))) (dp_ex eH5 hm) (dp_ex eH5 hh) hwf.1)) hlen fun H6 xs v5 e6 hx5 hp5 => ⟨Ex.mut (eH5.trans e6) nlH, _, rfl, ?_⟩
            rw [stepsF_take hd1]
            simp only [stepF, if_pos hb, if_neg (of_decide_eq_false hb2), if_pos (of_decide_eq_true hb3), List.map_append]
            exact hp5
          · rw [stepsF_take hd1]
            simp only [stepF, if_pos hb, if_neg (of_decide_eq_false hb2), if_neg (of_decide_eq_false hb3), List.append_nil]
            exact hL.ex ((e3.trans e4).trans e5)
      · rw [stepsF_take hd1]
        simp only [stepF, hb, Bool.false_eq_true, if_false, List.append_nil]
        exact hL.ex e3
    · obtain ⟨eH, y, rfl, hL⟩ := hP
      rw [List.length_map, List.take_length] at hL
      exact s_ret (ev_var rfl) fun H3 e3 => q hr1 l H3 nlH (eH.trans e3) (hL.ex e3)
end

section
variable {P : Program} {w : World} {K : PySem.W.Frag} {mg : Str → Option Value} {base : Heap}
/-! ### the steps, as the law has them -/
def sp_l_steps (K : PySem.W.Frag) : Sp := fun vs H Q E => ∃ (dv lv hv : V) (room : Int) (ds : List Door) (ks : List Key2) (held : List Int), vs = [dv, lv, .int room, hv] ∧ Dp K H dv (.list (ds.map doorD)) ∧ Dp K H lv (.list (ks.map keyD)) ∧ Dp K H hv (intsD held) ∧ ds.length ≤ 1000 ∧
  (∀ p H2, H p = none → Ex H H2 → LstT H2 p ((stepsF ds ks room held).map stateD) → Q (.ref p) H2)
theorem ok_l_steps (T : Txt K mg) : Kept P w K mg base 2 "_law_steps" ["_law_doors_here", "_law_lying_here", "_law_room", "_law_held"] (sp_l_steps K) := by
  refine T.d_l_steps.kept sc_l_steps (fun vs H Q E h => ?_) (fun cdv A outer s H vs Q E hr h => ?_)
  · obtain ⟨dv, lv, hv, room, ds, ks, held, rfl, _⟩ := h
    rfl
  · obtain ⟨dv, lv, hv, room, ds, ks, held, rfl, hd, hm, hh, hok, q⟩ := h
    refine ⟨_, (pss_cons (ps_set (i := 4) sc_l_steps.nd rfl (Or.inl rfl) (pe_lst pa_nil))
      (pss_cons (ps_for (passes_of rfl) rfl (pi_list_K (K := K) rfl (pv 0)) (pg_tup_K (K := K) rfl (by rfl) (pgs_cons (pg_name (i := 5) sc_l_steps.nd rfl (Or.inl rfl)) (pgs_cons (pg_name (i := 6) sc_l_steps.nd rfl (Or.inl rfl)) (pgs_cons (pg_name (i := 7) sc_l_steps.nd rfl (Or.inl rfl)) pgs_nil))))
        (pss_one (ps_if (PW.pt (pw_or (pt_cmpR op_isN (pv 7) pe_non (nomark _)) (pw_or1 (pt_cmpR (op_in_seq_K (K := K) rfl) (pv 7) (pv 3) (by rfl)))))
        (pss_one (ps_if (pt_cmpR op_eq (pv 5) (pv 2) (nomark _))
        (pss_one (ps_expr (pe_bm_K (K := K) rfl PySem.F.plainAttrs_list PySem.F.slot_list_append PySem.F.type_list_append mt_append (pv 4) (pa_cons (pe_tup (pa_cons (pv 6) (pa_cons (pe_fn (ok_l_taken (K := K) T) (hr.mono (by decide)) passL (by rfl) (pa_cons (pv 1) (pa_cons (pv 6) (pa_cons (pv 3) pa_nil)))) pa_nil))) pa_nil))))
        (pss_one (ps_if (pt_cmpR op_eq (pv 6) (pv 2) (nomark _))
        (pss_one (ps_expr (pe_bm_K (K := K) rfl PySem.F.plainAttrs_list PySem.F.slot_list_append PySem.F.type_list_append mt_append (pv 4) (pa_cons (pe_tup (pa_cons (pv 5) (pa_cons (pe_fn (ok_l_taken (K := K) T) (hr.mono (by decide)) passL (by rfl) (pa_cons (pv 1) (pa_cons (pv 5) (pa_cons (pv 3) pa_nil)))) pa_nil))) pa_nil))))
        pss_nil))))
        pss_nil)))
      (pss_one (ps_ret (pv 4))))), ?_⟩
    refine q_asgLT (ds := []) (lt_lst ea_tn (by simp)) fun l H2 nlH e12 hl => ?_
    refine q_forV (ev_var rfl) hd e12 (fun i σ' H' => Ex H H' ∧ ∃ y5 y6 y7, σ' = [some dv, some lv, some (.int room), some hv, some (.ref l), y5, y6, y7] ∧ LstT H' l ((stepsF (ds.take i) ks room held).map stateD)) (fun H3 e3 => ⟨e12.trans e3, none, none, none, rfl, by simpa [stepsF] using hl.ex e3⟩) (fun i σ' H' hP => hP.1) (fun i d x σ' H' hdi hx hP => ?_) (fun σ' H' hP => ?_)
    · obtain ⟨eH, y5, y6, y7, rfl, hL⟩ := hP
      rw [List.getElem?_map] at hdi
      obtain ⟨⟨d1, d2, d3⟩, hd1, rfl⟩ := Option.map_eq_some_iff.mp hdi
      have hlen : ((stepsF (ds.take i) ks room held).map stateD).length < 100000 := by
        rw [List.length_map]
        have h1 := stepsF_len ks room held (ds.take i)
        have h4 : (ds.take i).length ≤ ds.length := by rw [List.length_take]; omega
        omega
      cases hx with
      | tup ho hda =>
        rename_i b xs
        obtain ⟨x1, x2, x3, rfl, h1, h2, h3⟩ := dpAll3 hda
        cases dp_int_inv h1
        cases dp_int_inv h2
        refine ⟨b, _, rfl, ex_t eH ho, rfl, _, _, rfl, _, _, rfl, _, _, rfl, rfl, ?_⟩
        dsimp only
        refine s_when (b := opensF (d1, d2, d3) held) (et_open (ed_any (ev_var rfl) (dp_ex eH h3)) (ed_any (ev_var rfl) (dp_ex eH h3)) (ed_any (ev_var rfl) (dp_ex eH hh))) (fun hb H3 e3 => ?_) (fun hb H3 e3 => ⟨eH.trans e3, _, _, _, rfl, ?_⟩)
        · have eH3 := eH.trans e3
          refine tif_cases (b := decide (d1 = room)) (by walk_at "mz ev") (fun hb2 H4 e4 => ?_) (fun hb2 H4 e4 => ?_)
          · have eH4 := eH3.trans e4
            refine s_appT (d := stateD (d2, takenF ks d2 held)) (hL.ex (e3.trans e4)) (ev_var rfl) (td_state (ev_var rfl) (td_l_takenC (ea_cons (ev_var rfl) (ea_cons (ev_var rfl) (ea_cons (ev_var rfl) ea_nil))) (dp_ex eH4 hm) (dp_ex eH4 hh))) hlen fun H5 xs v5 e5 hx5 hp5 => ⟨Ex.mut (eH4.trans e5) nlH, _, _, _, rfl, ?_⟩
            rw [stepsF_take hd1]
            simp only [stepF, if_pos hb, if_pos (of_decide_eq_true hb2), List.map_append]
            exact hp5
          · have eH4 := eH3.trans e4
            refine s_when (b := decide (d2 = room)) (by walk_at "mz ev") (fun hb3 H5 e5 => ?_) (fun hb3 H5 e5 => ⟨eH4.trans e5, _, _, _, rfl, ?_⟩)
            · have eH5 := eH4.trans e5
              refine s_appT (d := stateD (d1, takenF ks d1 held)) (hL.ex ((e3.trans e4).trans e5)) (ev_var rfl) (td_state (ev_var rfl) (td_l_takenC (ea_cons (ev_var rfl) (ea_cons (ev_var rfl) (ea_cons (ev_var rfl) ea_nil))) (dp_ex eH5 hm) (dp_ex eH5 hh))) hlen fun H6 xs v5 e6 hx5 hp5 => ⟨Ex.mut (eH5.trans e6) nlH, _, _, _, rfl, ?_⟩
              rw [stepsF_take hd1]
              simp only [stepF, if_pos hb, if_neg (of_decide_eq_false hb2), if_pos (of_decide_eq_true hb3), List.map_append]
              exact hp5
            · rw [stepsF_take hd1]
              simp only [stepF, if_pos hb, if_neg (of_decide_eq_false hb2), if_neg (of_decide_eq_false hb3), List.append_nil]
              exact hL.ex ((e3.trans e4).trans e5)
        · rw [stepsF_take hd1]
          simp only [stepF, hb, Bool.false_eq_true, if_false, List.append_nil]
          exact hL.ex e3
    · obtain ⟨eH, y5, y6, y7, rfl, hL⟩ := hP
      rw [List.length_map, List.take_length] at hL
      exact s_ret (ev_var rfl) fun H3 e3 => q l H3 nlH (eH.trans e3) (hL.ex e3)
end

theorem nb_state (s : State) : nb (stateD s) = true := by
  have := nb_ints s.2
  simp [stateD, nb, nbAll, this]
theorem dep_state (s : State) : (stateD s).depth ≤ 2 := by
  have := dep_ints s.2
  simp only [stateD, PyData.depth, PyData.depthAll]
  omega
theorem nb_states (ss : List State) : nb (.list (ss.map stateD)) = true := by simp only [nb]; exact nbAll_map nb_state ss
theorem sh_states (ss : List State) : SeqAt.shaped (.list (ss.map stateD)) = true := shaped_of (nb_states ss) (by have := depth_list (depth_map dep_state ss); omega)

/-! ### dicts whose keys are states -/
def nkS (s : State) : NestedKey := .tup [.num s.1, .tup (s.2.map .num)]
theorem nkS_inj {a b : State} : nkS a = nkS b ↔ a = b := by
  refine ⟨fun e => ?_, fun e => by rw [e]⟩
  obtain ⟨a1, a2⟩ := a
  obtain ⟨b1, b2⟩ := b
  simp only [nkS, NestedKey.tup.injEq, List.cons.injEq, NestedKey.num.injEq, and_true] at e
  rw [e.1, map_inj (f := NestedKey.num) (fun a b z => by simpa using z) e.2]
theorem nk_depth : ∀ hs : List Int, NestedKey.depthAll (hs.map .num) = 0
  | [] => by simp [NestedKey.depthAll]
  | x :: r => by simp [NestedKey.depthAll, NestedKey.depth, nk_depth r]
theorem nkS_depth (s : State) : (nkS s).depth ≤ 8 := by
  simp [nkS, NestedKey.depth, NestedKey.depthAll, nk_depth]
abbrev Ent := State × Addr × V
def PN (p : Ent) (q : NestedKey × Addr × Value) : Prop := q.1 = nkS p.1 ∧ q.2.1 = p.2.1 ∧ RelV p.2.2 q.2.2
def RawN (P : Program) (w : World) (h : Heap) (a : Addr) (L : List Ent) : Prop := L.length ≤ sizeLine ∧ (a == sysModules) = false ∧ ∃ xs, Paired PN L xs ∧
  ∃ o es ep, h.get? a = some o ∧ o.ExactDict ∧ o.data = .dict es ep ∧ es.toList = xs.map (entryOfKey (nestedKind P w)) ∧ (xs.map (·.1)).Nodup
def DN (P : Program) (w : World) (a : Addr) (L : List Ent) : HO := .ext fun h => RawN P w h a L
def KeysT (H : Hp) (L : List Ent) : Prop := ∀ p ∈ L, Td H (.ref p.2.1) (stateD p.1)
def hasN (L : List Ent) (k : State) : Bool := L.any fun p => decide (p.1 = k)
def getN (L : List Ent) (k : State) : Option V := (L.find? fun p => decide (p.1 = k)).map (·.2.2)
def putN (L : List Ent) (k : State) (b : Addr) (v : V) : List Ent := if hasN L k = true then L.map (fun p => if p.1 = k then (p.1, p.2.1, v) else p) else L ++ [(k, b, v)]
section
variable {P : Program} {w : World} {H : Hp} {h : Heap} {a : Addr} {L : List Ent}
theorem rawN_keep {h' : Heap} (r : RawN P w h a L) (k : ∀ o, h.get? a = some o → h'.get? a = some o) : RawN P w h' a L := by
  obtain ⟨z, y, xs, p, o, es, ep, e, q⟩ := r
  exact ⟨z, y, xs, p, o, es, ep, k o e, q⟩
theorem dn_new (r : RawN P w h a L) : ObjOk P w H h a (DN P w a L) := by
  have r0 := r
  obtain ⟨_, _, _, _, o, _, _, e, _⟩ := r0
  exact ⟨r, ⟨o, e⟩, fun h1 h2 p k => rawN_keep p k⟩
theorem dn_ok (ok : HOk P w H h) (e : Rd H a (DN P w a L)) : RawN P w h a L := by
  have x : ObjOk P w H h a (DN P w a L) := e.ok ok
  exact x.1
theorem nested_ints : ∀ {hs : List Int} {us : List Value}, Vals (hs.map V.int) us → NestedAll h (hs.map .num) us
  | [], _, .nil => .nil
  | n :: r, _, .cons hu t => by
    obtain ⟨tk, rfl⟩ := hu
    exact .cons (.int n tk) (nested_ints t)
theorem nested_state (ok : HOk P w H h) {b : Addr} {s : State} (t : Td H (.ref b) (stateD s)) : (nestedKind P w).is h (nkS s) b := by
  refine ⟨?_, nkS_depth s⟩
  unfold stateD at t
  cases t with
  | tup ho hd =>
    rename_i xs
    cases hd with
    | cons h1 h2 =>
      cases h2 with
      | cons h3 h4 =>
        cases h4
        cases h1
        unfold intsD at h3
        cases h3 with
        | tup ho2 hd2 =>
          rename_i c ys
          have ey := tdAll_ints hd2
          subst ey
          obtain ⟨_, its, rv, o, e1, e2, n, e3⟩ := (show ObjOk P w H h b (.tup [.int s.1, .ref c]) from ok b _ ho)
          obtain ⟨_, its2, rv2, o2, f1, f2, n2, f3⟩ := (show ObjOk P w H h c (.tup (s.2.map V.int)) from ok c _ ho2)
          cases rv with
          | cons r1 rv =>
            cases rv with
            | cons r2 rv =>
              cases rv
              obtain ⟨tk, rfl⟩ := r1
              cases r2
              exact .tup e1 e2 e3 (.cons (.int _ tk) (.cons (.tup f1 f2 f3 (by simpa using nested_ints rv2)) .nil))
theorem dictOf_n (ok : HOk P w H h) (e : Rd H a (DN P w a L)) (hk : KeysT H L) : L.length ≤ sizeLine ∧ (a == sysModules) = false ∧ ∃ xs, Paired PN L xs ∧ h.DictOfH (nestedKind P w) a xs := by
  obtain ⟨z, y, xs, r, o, es, ep, h1, h2, h3, h4, h5⟩ := dn_ok ok e
  refine ⟨z, y, xs, r, o, es, ep, h1, h2, h3, h4, ?_, h5⟩
  have all : ∀ {l : List Ent} {m : List (NestedKey × Addr × Value)}, Paired PN l m → (∀ p ∈ l, Td H (.ref p.2.1) (stateD p.1)) → ∀ x ∈ m, (nestedKind P w).is h x.1 x.2.1 := by
    intro l m q
    induction q with
    | nil => intro _ x hx; exact nomatch hx
    | @cons p q ps qs hq t ih =>
      intro hk x hx
      rcases List.mem_cons.mp hx with e | hx
      · subst e
        rw [hq.1, hq.2.1]
        exact nested_state ok (hk p (by simp))
      · exact ih (fun p hp => hk p (by simp [hp])) x hx
  exact all r hk
theorem pn_at {L : List Ent} {xs : List (NestedKey × Addr × Value)} (r : Paired PN L xs) (k : State) : RelO (getN L k) ((atKey xs (nkS k)).map (·.2)) := by
  induction r with
  | nil => exact True.intro
  | @cons p q ps qs hq t ih =>
    unfold getN atKey at *
    by_cases c : p.1 = k
    · have c2 : q.1 = nkS k := by rw [hq.1, c]
      simp only [List.find?_cons, c, c2, decide_true, Option.map_some]
      exact hq.2.2
    · have c2 : ¬ q.1 = nkS k := fun z => c (nkS_inj.mp (by rw [← hq.1]; exact z))
      simp only [List.find?_cons, c, c2, decide_false]
      exact ih
theorem hasN_get (L : List Ent) (k : State) : hasN L k = (getN L k).isSome := by
  unfold hasN getN
  rw [Option.isSome_map]
  induction L with
  | nil => rfl
  | cons p r ih =>
    simp only [List.any_cons, List.find?_cons]
    by_cases c : p.1 = k
    · simp [c]
    · simp [c, ih]
theorem pn_has {L : List Ent} {xs : List (NestedKey × Addr × Value)} (r : Paired PN L xs) (k : State) : (atKey xs (nkS k)).isSome = hasN L k := by
  have h1 := (pn_at r k).isSome_eq
  rw [Option.isSome_map] at h1
  rw [hasN_get, ← h1]
theorem pn_put {L : List Ent} {xs : List (NestedKey × Addr × Value)} (r : Paired PN L xs) (k : State) (b : Addr) {v : V} {u : Value} (rv : RelV v u) : Paired PN (putN L k b v) (storedH xs (nkS k) b u) := by
  unfold putN storedH
  rw [pn_has r k]
  split
  · rename_i hh
    clear hh b
    induction r with
    | nil => exact .nil
    | @cons p q ps qs hq t ih =>
      simp only [List.map_cons]
      refine .cons ?_ ih
      unfold putAt
      by_cases c : p.1 = k
      · have c2 : q.1 = nkS k := by rw [hq.1, c]
        rw [if_pos c, if_pos c2]
        exact ⟨by rw [hq.1], hq.2.1, rv⟩
      · have c2 : ¬ q.1 = nkS k := fun z => c (nkS_inj.mp (by rw [← hq.1]; exact z))
        rw [if_neg c, if_neg c2]
        exact hq
  · exact Paired.snoc r ⟨rfl, rfl, rv⟩
theorem putN_len (L : List Ent) (k : State) (b : Addr) (v : V) : (putN L k b v).length ≤ L.length + 1 := by
  unfold putN
  split
  · simp
  · simp
end
section
variable {X : Cx} {K : PySem.W.Frag}
def rInN (P : Program) (w : World) (neg : Bool) : R2 := fun x y H Q => ∃ (b d : Addr) (k : State) (L : List Ent), x = .ref b ∧ y = .ref d ∧ Td H (.ref b) (stateD k) ∧ Rd H d (DN P w d L) ∧ KeysT H L ∧ Q (.bl (if neg then !hasN L k else hasN L k)) H
theorem room_n {A : Around} (h : A.units + 64 < cLine) : A.in1.units + 8 < cLine := by
  have : A.in1.units ≤ A.units + 1 := by first | exact Nat.le_refl _ | (show A.units + 1 ≤ A.units + 1; omega)
  omega
theorem op_inN {P : Program} {w : World} (hP : X.prog = P) (hw : X.w = w) (hu : X.A.units + 64 < cLine) : OpR X (compareOp .In) (rInN P w false) := by
  subst hP hw
  intro pins s σ H x y v u Q I rx ry h
  obtain ⟨b, d, k, L, rfl, rfl, ht, hd, hk, q⟩ := h
  cases rx
  cases ry
  obtain ⟨z, hds, xs, rel, dd⟩ := dictOf_n I.hok hd hk
  refine wpAny_in_heap (knd := nestedKind X.prog X.w) (room_n hu) (nested_state I.hok ht) hds dd ?_
  rw [pn_has rel k]
  exact ⟨.bl (hasN L k), H, I.tok _, rfl, q⟩
theorem op_notInN {P : Program} {w : World} (hP : X.prog = P) (hw : X.w = w) (hu : X.A.units + 64 < cLine) : OpR X (compareOp .NotIn) (rInN P w true) := by
  subst hP hw
  intro pins s σ H x y v u Q I rx ry h
  obtain ⟨b, d, k, L, rfl, rfl, ht, hd, hk, q⟩ := h
  cases rx
  cases ry
  obtain ⟨z, hds, xs, rel, dd⟩ := dictOf_n I.hok hd hk
  refine wpAny_notIn_heap (knd := nestedKind X.prog X.w) (room_n hu) (nested_state I.hok ht) hds dd ?_
  rw [pn_has rel k]
  exact ⟨.bl (!hasN L k), H, I.tok _, rfl, q⟩
/-- d[k] -/
def rGetN (P : Program) (w : World) : R2 := fun x y H Q => ∃ (b d : Addr) (k : State) (L : List Ent) (v : V), x = .ref d ∧ y = .ref b ∧ Td H (.ref b) (stateD k) ∧ Rd H d (DN P w d L) ∧ KeysT H L ∧ getN L k = some v ∧ Q v H
theorem pe_dgetN {o i : Expr} {pos : Pos} {td ty : TE} {P : Program} {w : World} (hP : X.prog = P) (hw : X.w = w) (hu : X.A.units + 64 < cLine) (ho : PE X o td) (hi : PE X i ty) (hs : NoSl i) : PE X (.Subscript o i pos) (tOp (rGetN P w) td ty) := by
  subst hP hw
  refine ⟨fun pins s σ H Q I h => ?_⟩
  refine subD_of PySem.F.slot_dict_getitem.lookup hs (thn (ho.run pins s σ H _ I h) fun u s1 ⟨x, H1, I1, rx, q1⟩ => thn (hi.run pins s1 σ H1 _ I1 q1) fun iv s2 ⟨y, H2, I2, ry, b, d, k, L, v, ex, ey, ht, hd, hk, hg, q2⟩ => ?_)
  subst ex ey
  obtain rfl : u = Value.ref d := rx
  obtain rfl : iv = Value.ref b := ry
  obtain ⟨z, hds, xs, rel, dd⟩ := dictOf_n I2.hok hd hk
  obtain ⟨w', hw, rw'⟩ := RelO.some_of (v := v) (o := (atKey xs (nkS k)).map (·.2)) (by rw [← hg]; exact pn_at rel k)
  obtain ⟨p, hp, hp2⟩ := Option.map_eq_some_iff.mp hw
  refine ⟨dd.typeIs, wpAny_getItem_heap (knd := nestedKind X.prog X.w) (room_n hu) (nested_state I2.hok ht) dd hp ?_⟩
  rw [hp2]
  exact ⟨v, H2, I2.tok _, rw', q2⟩
/-- d[k] = v -/
def rSetN (P : Program) (w : World) : TSet := fun o i v H Q => ∃ (b d : Addr) (k : State) (L : List Ent), o = .ref d ∧ i = .ref b ∧ Td H (.ref b) (stateD k) ∧ H d = some (DN P w d L) ∧ KeysT H L ∧ L.length < sizeLine ∧ Q (upd H d (DN P w d (putN L k b v)))
theorem set_dN {P : Program} {w : World} (hP : X.prog = P) (hw : X.w = w) (hu : X.A.units + 64 < cLine) : PSet X (rSetN P w) := by
  subst hP hw
  intro pins s σ H o i v ov iv u Q I ro ri rv h
  obtain ⟨b, d, k, L, rfl, rfl, ht, hd, hk, hl, q⟩ := h
  cases ro
  cases ri
  obtain ⟨z, hds, xs, rel, dd⟩ := dictOf_n I.hok (Rd.of hd) hk
  have hz : xs.length ≤ sizeLine := by rw [← Paired.length rel]; exact z
  have hl2 : (putN L k b v).length ≤ sizeLine := by have := putN_len L k b v; omega
  refine wpAny_setItem_heap (knd := nestedKind X.prog X.w) (hsz := hz) (room_n hu) (nested_state I.hok ht) dd fun h' dd' hs => ?_
  obtain ⟨ob, es, ep, hq, h2, h3, h4, _, h5⟩ := dd'
  exact ⟨_, d_write I (by rw [hd]; exact True.intro) hs ⟨ob, hq⟩ (dn_new ⟨hl2, hds, _, pn_put rel k b rv, ob, es, ep, hq, h2, h3, h4, h5⟩), q⟩
/-- {} -/
def tDNewN (P : Program) (w : World) : TE := fun _ H Q => ∀ p, H p = none → Q (.ref p) (upd H p (DN P w p []))
theorem raw_empty {P : Program} {w : World} (h : Heap) (hb : sysModules < h.objs.size) : RawN P w (h.push { cls := .type "dict", data := .dict #[] }) h.objs.size [] :=
  ⟨Nat.zero_le _, beq_eq_false_iff_ne.mpr (Ne.symm (Nat.ne_of_lt hb)), [], .nil, _, #[], 0, Heap.get?_push_size _ rfl, ⟨rfl, rfl, rfl⟩, rfl, rfl, List.nodup_nil⟩
theorem pe_dnewN {pos : Pos} {P : Program} {w : World} (hP : X.prog = P) (hw : X.w = w) : PE X (.Dict [] [] pos) (tDNewN P w) := by
  subst hP hw
  exact ⟨fun pins s σ H Q I h => wpAny_Dict_empty ⟨.ref s.heap.objs.size, _, I.laid (a := s.heap.objs.size) (o := DN X.prog X.w s.heap.objs.size []) (t' := s.toks) (fun _ _ q => Heap.get?_push_of_some _ q) (Nat.le_refl _) (dn_new (raw_empty s.heap I.big)), rfl, h _ (I.hok.fresh (Nat.le_refl _))⟩⟩
/-- {k: v} -/
def tDispN (P : Program) (w : World) (tk tv : TE) : TE := fun σ H Q => ∀ p, H p = none → tk σ (upd H p (DN P w p [])) fun x H1 => tv σ H1 fun y H2 => ∃ (b : Addr) (k : State), x = .ref b ∧ Td H2 (.ref b) (stateD k) ∧ H2 p = some (DN P w p []) ∧ Q (.ref p) (upd H2 p (DN P w p [(k, b, y)]))
theorem wpAny_Dict_addr {prog : Program} {w : World} {K : Type} [DecidableEq K] {knd : HeapKind prog w K} {A : Around} {E : Value → Shared → Prop} {s : Shared} {env : Env} {keys : List (Option Expr)} {values : List Expr} {pos : Pos} {pairs : List (Sem Value × Sem Value)} {Q : Value → Shared → Prop} (hu : knd.room A)
    (hshape : (evalEachOpt keys env).zip ((evalEach values env).map fun v => do let x ← v; standAt pos; pure x) = pairs.map fun p => (some p.1, p.2)) (h0 : pairs ≠ []) (hlen : pairs.length ≤ 15)
    (h : wpAny (model prog w) A (evalPairs pairs) (fun vs s₁ => ∃ ps, CarriesH knd s₁.heap vs ps ∧ s₁.heap.DictOfH knd s.heap.objs.size [] ∧
      ∀ h' tk, h'.DictOfH knd s.heap.objs.size (storedAllH [] ps) → Heap.SameBut s.heap.objs.size s₁.heap h' → Q (.ref s.heap.objs.size) { s₁ with heap := h', toks := tk }) E
      { s with heap := s.heap.push { cls := .type "dict", data := .dict #[] } }) :
    wpAny (model prog w) A (eval (.Dict keys values pos) env) Q E s := by
  rw [arm_eval_Dict, hshape, dictDisplay_pairs pairs h0 (by omega)]
  exact wpAny_bind (wpAny_standAt (wpAny_bind (wpAny_subDictH (knd := knd) (Q := fun d s' => wpAny (model prog w) A (pure (Value.ref d)) Q E s') hu hlen
    (wpAny_mono h (fun vs s₁ h₁ => by obtain ⟨ps, hc, hm, hq⟩ := h₁; exact ⟨ps, hc, hm, fun h' tk a b => wpAny_pure (hq h' tk a b)⟩) fun _ _ e => e))))
theorem pe_dispN {k v : Expr} {pos : Pos} {tk tv : TE} {P : Program} {w : World} (hP : X.prog = P) (hw : X.w = w) (hu : X.A.units + 64 < cLine) (hk : PE X k tk) (hv : PE X v tv) : PE X (.Dict [some k] [v] pos) (tDispN P w tk tv) := by
  subst hP hw
  refine ⟨fun pins s σ H Q I q => ?_⟩
  have hn := I.hok.fresh (Nat.le_refl s.heap.objs.size)
  have I1 := I.laid (a := s.heap.objs.size) (o := DN X.prog X.w s.heap.objs.size []) (h' := s.heap.push { cls := .type "dict", data := .dict #[] }) (t' := s.toks) (fun _ _ q => Heap.get?_push_of_some _ q) (Nat.le_refl _) (dn_new (raw_empty s.heap I.big))
  refine wpAny_Dict_addr (knd := nestedKind X.prog X.w) (pairs := pairTrees [some k] [v] X.env pos) (show X.A.units + 8 < cLine by omega) (zip_pairTrees [some k] [v] X.env pos rfl rfl) (by rw [ne_eq, ← List.length_eq_zero_iff, pairTrees_length [some k] [v] X.env pos rfl rfl]; simp) (by rw [pairTrees_length [some k] [v] X.env pos rfl rfl]; simp) ?_
  refine pairTrees_cons_walk (thn (hk.run pins _ σ _ _ I1 (q _ hn)) fun u s1 ⟨x, H1, I1, rx, q1⟩ => thn (hv.run pins s1 σ H1 _ I1 q1) fun w2 s2 ⟨y, H2, I2, ry, b, st, ex, ht, hd, q2⟩ => pairTrees_nil_walk ?_)
  subst ex
  obtain rfl : u = Value.ref b := rx
  obtain ⟨z, hds, xs, rel, dd⟩ := dictOf_n I2.hok (Rd.of hd) (fun p hp => absurd hp (by simp))
  cases rel
  refine ⟨[(nkS st, b, w2)], ⟨rfl, rfl, nested_state I2.hok ht, True.intro⟩, dd, fun h' tk dd' hs => ⟨.ref s.heap.objs.size, _, ?_, rfl, q2⟩⟩
  obtain ⟨ob, es, ep, hq, h2, h3, h4, _, h5⟩ := dd'
  exact d_write I2 (by rw [hd]; exact True.intro) hs ⟨ob, hq⟩ (dn_new ⟨by rw [sizeLine_eq]; simp, hds, _, .cons ⟨rfl, rfl, ry⟩ .nil, ob, es, ep, hq, h2, h3, h4, h5⟩)
end
section
/-! ### for k in d -/
/-- the keys of the locked dict at d, in their order -/
def ItN (P : Program) (w : World) (d : Addr) (o : Obj) (L : List Ent) : It :=
  ⟨fun i H => H d = some (.frz o (DN P w d L)) ∧ i < L.length, fun i H x H' => H' = H ∧ ∃ e : Ent, L[i]? = some e ∧ x = .ref e.2.1, fun i H => H d = some (.frz o (DN P w d L)) ∧ L.length ≤ i⟩
theorem frzN {X : Cx} {pins : List (Addr × Obj)} {σ : L2.St} {H : Hp} {s : Shared} {d : Addr} {o : Obj} {L : List Ent} (I : Inv X pins σ H s) (h : H d = some (.frz o (DN X.prog X.w d L))) :
    (d == sysModules) = false ∧ s.heap.get? d = some o ∧ o.ExactDict ∧ ∃ (es : Array DictEntry) (ep : Nat), o.data = .dict es ep ∧ es.size = L.length ∧
      ∀ (i : Nat) (e : Ent), L[i]? = some e → ∃ en : DictEntry, es[i]? = some en ∧ en.key = .ref e.2.1 := by
  obtain ⟨hd, r⟩ := I.hok d _ h
  have r1 : RawN X.prog X.w s.heap d L := (show ObjOk X.prog X.w H s.heap d (DN X.prog X.w d L) from r).1
  obtain ⟨z, hs, xs, pr, o', es, ep, ho, hx, hdt, he, _⟩ := r1
  rw [hd] at ho
  cases ho
  refine ⟨hs, hd, hx, es, ep, hdt, ?_, fun i e hi => ?_⟩
  · have l1 : es.size = xs.length := size_of_entries he
    have l2 : L.length = xs.length := Paired.length pr
    omega
  · obtain ⟨b, hb, e1, e2, _⟩ := paired_get pr hi
    have q := entry_at he i
    rw [hb] at q
    exact ⟨_, q, by show Value.ref b.2.1 = _; rw [e2]⟩
theorem turn_keysN {P : Program} {w : World} {K : PySem.W.Frag} {tg : Expr} {d : Addr} {o : Obj} {es : Array DictEntry} {ep : Nat} {L : List Ent} (it : Addr) (hod : o.data = .dict es ep) : Turn P w K tg (ItN P w d o L) [it] it (fun i h => h.IsKeyIter it d i L.length ep) where
  mem := by simp
  obj := fun i h st b hb => by
    have e : b = it := by simpa using hb
    subst e
    obtain ⟨oi, e, c, dd⟩ := st
    exact ⟨oi, e, fun v z => by rw [dd] at z; cases z⟩
  keep := fun i h h' st k => st.at fun oi e => k it (by simp) oi e
  item := by
    intro X hP hw hK hc i pins s σ H E I hf st hg
    subst hP hw hK
    obtain ⟨hd, hi⟩ := hg
    obtain ⟨f0, f1, f2, f3, f4, f5⟩ := hf it (by simp)
    obtain ⟨hs, hgd, hx, es', ep', hdt, hsz, ent⟩ := frzN I hd
    obtain ⟨rfl, rfl⟩ := dict_ep hod hdt
    obtain ⟨e0, he0⟩ : ∃ e0, L[i]? = some e0 := ⟨L[i], List.getElem?_eq_getElem hi⟩
    obtain ⟨en, hen, hkey⟩ := ent i e0 he0
    refine next_key_item st hgd hdt hsz hen fun h' st' sb => ?_
    have I1 : Inv X pins σ H { s with heap := h' } := I.turned (t' := s.toks) (fun b ob hb e => (sb.2 b hb).trans e) f0 f1 f3 f4 f5
    obtain ⟨oi, e, c, dd⟩ := id st'
    exact ⟨en.key, rfl, go_of (s := { s with heap := h' }) e c dd (by decide) ⟨.ref e0.2.1, H, I1, hkey, ⟨rfl, e0, he0, rfl⟩, st', fun b hb => (hf b hb).1⟩⟩
  done := by
    intro X hP hw hK hc i pins s σ H E I hf st hg
    subst hP hw hK
    obtain ⟨hd, hi⟩ := hg
    obtain ⟨f0, f1, f2, f3, f4, f5⟩ := hf it (by simp)
    obtain ⟨hs, hgd, hx, es', ep', hdt, hsz, ent⟩ := frzN I hd
    obtain ⟨rfl, rfl⟩ := dict_ep hod hdt
    exact next_key_end (I.ok.hd hc) st hgd hdt hsz hi fun h' eb => ⟨rfl, I.turned (t' := s.toks) (fun b ob hb e => eb b ob hb e) f0 f1 f3 f4 f5⟩
  self := fun A i s Q E st h => by
    refine wpAny_pyIter_slot st.typeIs PySem.F.slot_dict_keyiterator_iter (wpAny_call_entry PySem.F.slot_dict_keyiterator_iter st.typeIs PySem.F.entry_dict_keyiterator_iter ?_ (PySem.F.args_dict_keyiterator_iter_1 _))
    show wpAny _ _ (ret (.ref it)) _ _ s
    exact wpAny_pure ⟨_, rfl, "dict_keyiterator", _, st.typeIs, PySem.F.slot_dict_keyiterator_next.lookup, h⟩
def iKeysN (P : Program) (w : World) (td : TE) : TI := fun σ H R => td σ H fun x H1 => ∃ d o L, x = .ref d ∧ H1 d = some (.frz o (DN P w d L)) ∧ R (ItN P w d o L) H1
theorem pi_keysN {X : Cx} {P : Program} {w : World} {tg e : Expr} {td : TE} (hP : X.prog = P) (hw : X.w = w) (he : PE X e td) : PI X tg e (iKeysN P w td) := by
  subst hP hw
  refine ⟨fun pins s σ H R I h => ?_⟩
  refine thn (he.run pins s σ H _ I h) fun u s1 ⟨x, H1, I1, rx, d, o, L, ex, hd, q⟩ => ?_
  subst ex
  obtain rfl : u = Value.ref d := rx
  obtain ⟨hs, hgd, hx, es, ep, hdt, hsz, ent⟩ := frzN I1 hd
  refine iter_keys hs hgd hx hdt (pi_one (tk := s1.toks) I1 _ (turn_keysN _ hdt) ⟨_, Heap.get?_push_size _ rfl, rfl, ?_⟩ q)
  rw [hsz] <;> rfl
/-- len(d) -/
theorem call_lenN {X : Cx} {P : Program} {w : World} (hP : X.prog = P) (hw : X.w = w) : CallR X (.builtin "len") (fun xs H Q => ∃ d L, xs = [.ref d] ∧ Rd H d (DN P w d L) ∧ KeysT H L ∧ Q (.int (L.length : Int)) H) := by
  subst hP hw
  intro pins s σ H xs us Q I r h
  obtain ⟨d, L, rfl, hd, hk, q⟩ := h
  rw [Vals.ref1 r]
  obtain ⟨z, hds, xs, rel, dd⟩ := dictOf_n I.hok hd hk
  have hl : L.length = xs.length := Paired.length rel
  refine call_len_dictH (knd := nestedKind X.prog X.w) hds dd (by rw [sizeLine_eq] at z; omega) ?_
  rw [← hl]
  exact ⟨.int (L.length : Int), H, I.tok _, ⟨_, rfl⟩, q⟩
end

/-! ### sorted(xs), the items data -/
section
variable {P : Program} {w : World} {H : Hp} {h : Heap}
mutual
theorem reads_td (ok : HOk P w H h) : ∀ {d : PyData} {v : V} {u : Value}, Td H v d → RelV v u → ∃ as, Reads h u d as
  | .none, _, _, .non, r => by
    cases r
    exact ⟨_, .none⟩
  | .bool b, _, _, .bl _, r => by
    cases r
    exact ⟨_, .bool b⟩
  | .int i, _, _, .int _, r => by
    obtain ⟨tk, rfl⟩ := r
    exact ⟨_, .int i tk⟩
  | .str x, _, _, .str _, r => by
    obtain ⟨tk, rfl⟩ := r
    exact ⟨_, .str x tk⟩
  | .tuple ds, _, _, .tup (a := a) (xs := xs) ho hd, r => by
    cases r
    obtain ⟨_, its, rv, o, e1, e2, n, e3⟩ := (show ObjOk P w H h a (.tup xs) from ok a _ ho)
    obtain ⟨as, ra⟩ := reads_tdAll ok hd rv
    exact ⟨as, .tuple e1 e2 e3 (by simpa using ra)⟩
theorem reads_tdAll (ok : HOk P w H h) : ∀ {ds : List PyData} {vs : List V} {us : List Value}, TdAll H vs ds → Vals vs us → ∃ as, ReadsAll h us ds as
  | [], _, _, .nil, .nil => ⟨_, .nil⟩
  | d :: ds, _, _, .cons t1 t2, .cons r1 r2 => by
    obtain ⟨as, ra⟩ := reads_td ok t1 r1
    obtain ⟨bs, rb⟩ := reads_tdAll ok t2 r2
    exact ⟨as ++ bs, .cons ra rb⟩
end
theorem each_td {β : Type} {enc : β → PyData} : ∀ {bs : List β} {xs : List V} {us : List Value}, TdAll H xs (bs.map enc) → Vals xs us → PySem.W.EachIs (fun u b => ∃ x, RelV x u ∧ Td H x (enc b)) us bs
  | [], _, _, .nil, .nil => .nil
  | b :: bs, _, _, .cons t1 t2, .cons r1 r2 => .cons ⟨_, r1, t1⟩ (each_td t2 r2)
theorem td_each {β : Type} {enc : β → PyData} : ∀ {bs : List β} {us : List Value}, PySem.W.EachIs (fun u b => ∃ x, RelV x u ∧ Td H x (enc b)) us bs → ∃ xs, Vals xs us ∧ TdAll H xs (bs.map enc)
  | _, _, .nil => ⟨[], .nil, .nil⟩
  | _, _, .cons ⟨x, r, t⟩ e => by
    obtain ⟨xs, rs, ts⟩ := td_each e
    exact ⟨x :: xs, .cons r rs, .cons t ts⟩
end
def rSortedG {β : Type} (K : PySem.W.Frag) (enc : β → PyData) : List V → Hp → VK → Prop := fun vs H Q => ∃ (a : Addr) (bs : List β) (xs : List V), vs = [V.ref a] ∧ SqL K H a xs ∧ TdAll H xs (bs.map enc) ∧ bs.length ≤ sizeLine ∧
  ∀ ys p, TdAll H ys ((bs.mergeSort (PySem.W.dataLe false enc)).map enc) → H p = none → Q (.ref p) (upd H p (.lst ys))
theorem cr_sortedG {X : Cx} {K : PySem.W.Frag} {β : Type} {enc : β → PyData} (hK : X.K = K) (hu : X.A.units + 64 < cLine) (hal : ∀ b b', PySem.W.alike (enc b) (enc b') = true) (ht : ∀ b, ∃ x r, enc b = .tuple (x :: r)) (hdep : ∀ b, (enc b).depth ≤ 30) : CallR X (.builtin "sorted") (rSortedG K enc) := by
  subst hK
  intro pins s σ H vs us Q I r h
  obtain ⟨a, bs, xs, rfl, hs, ht2, hz, q⟩ := h
  obtain ⟨its, rv, hl, _⟩ := I.list hs
  rw [Vals.ref1 r]
  have e := each_td ht2 rv
  refine PySem.W.sorted_data (R := fun u b => ∃ x, RelV x u ∧ Td H x (enc b)) (enc := enc) hl.isList e (e.mono fun u b ⟨x, r1, t1⟩ => reads_td I.hok t1 r1) (PySem.W.AllAlike.of hal) (PySem.W.Sortable.tuples ht) hz (fun b _ => by have := hdep b; omega) fun out ho eo => ?_
  obtain ⟨ys, rys, tys⟩ := td_each eo
  obtain ⟨ep, he'⟩ := PyProof.Rows.sortedAll_at s.heap its out.toArray
  have hlen : ys.length ≤ sizeLine := by rw [tys.len, List.length_map, List.length_mergeSort]; exact hz
  exact ⟨.ref _, upd H (s.heap.objs.size + 1) (.lst ys), I.laid (t' := s.toks) (fun _ _ => PyProof.Rows.sortedAll_old) (Nat.le_succ _) ⟨hlen, out, ep, rys, he'⟩, rfl, q ys _ tys (I.hok.fresh (Nat.le_succ _))⟩
theorem alike_state (a b : State) : PySem.W.alike (stateD a) (stateD b) = true := by
  simp [stateD, intsD, PySem.W.alike, PySem.W.alikeAll, PySem.W.alike_ints]
theorem cr_sortedSt {X : Cx} {K : PySem.W.Frag} (hK : X.K = K) (hu : X.A.units + 64 < cLine) : CallR X (.builtin "sorted") (rSortedG K stateD) := cr_sortedG hK hu alike_state (fun b => ⟨_, _, rfl⟩) (fun b => by have := dep_state b; omega)
def sortS (ss : List State) : List State := ss.mergeSort (PySem.W.dataLe false stateD)
theorem lt_sortedS {K : PySem.W.Frag} {σ : L2.St} {H : Hp} {ta : TE} {l : Addr} {ss : List State} (ha : Ev ta σ H (.ref l)) (hl : LstT H l (ss.map stateD)) (hz : ss.length ≤ 100000) : EvLT (tCB (rSortedG K stateD) (tCons ta tNil)) σ H ((sortS ss).map stateD) := fun H1 e Q q => ha H1 e _ fun H2 e2 => by
  obtain ⟨xs, hx, hd⟩ := hl.ex (e.trans e2)
  exact ⟨l, ss, xs, rfl, SqL.of hx, hd, sz_of hz, fun ys p hys np => q p _ (fresh_back e2 np) (e2.trans (Ex.new np)) ⟨ys, upd_same, hys.ex (Ex.new np)⟩⟩

section
variable {K : PySem.W.Frag} {σ : L2.St} {H H' H0 : Hp} {ta tb te tl : TE} {v z : V} {tr : TA} {ds : List PyData}
/-! ### calls within a suite; slices of lists; lists of ints -/
theorem ev_callS {sp : Sp} {vs : List V} {E : L2.St → XK} (h : EvA tr σ H vs) (hs : SpV sp vs H z) : Ev (tCallS sp E tr) σ H z := fun H1 e Q q => h H1 e _ fun H2 e2 => hs H2 (e.trans e2) Q (fun H3 e3 => q H3 (e2.trans e3)) (E σ)
theorem lt_slL {a : Addr} {lo hi : Option Int} {t1 t2 : TO} (h : Ev te σ H (.ref a)) (hl : LstT H a ds) (h1 : EvO t1 σ H lo) (h2 : EvO t2 σ H hi) : EvLT (tSl (rSlL K) te t1 t2) σ H (cutD ds lo hi) := fun H1 e Q q => h H1 e _ fun H2 e2 => h1 H2 (e.trans e2) _ fun H3 e3 => h2 H3 ((e.trans e2).trans e3) _ fun H4 e4 => by
  obtain ⟨xs, hx, hd⟩ := hl.ex (((e.trans e2).trans e3).trans e4)
  have e24 := (e2.trans e3).trans e4
  refine ⟨a, xs, rfl, SqL.of hx, fun p np => q p _ (fresh_back e24 np) (e24.trans (Ex.new np)) ⟨_, upd_same, ?_⟩⟩
  unfold cutD cutV
  rw [hd.len]
  have td_drop : ∀ {ds : List PyData} {vs : List V} (n : Nat), TdAll H4 vs ds → TdAll H4 (vs.drop n) (ds.drop n) := by
    intro ds vs n h
    induction n generalizing ds vs with
    | zero => exact h
    | succ n ih => cases h with
      | nil => exact .nil
      | cons a b => exact ih b
  have td_take : ∀ {ds : List PyData} {vs : List V} (n : Nat), TdAll H4 vs ds → TdAll H4 (vs.take n) (ds.take n) := by
    intro ds vs n h
    induction n generalizing ds vs with
    | zero => simp only [List.take_zero]; exact .nil
    | succ n ih => cases h with
      | nil => exact .nil
      | cons a b => exact .cons a (ih b)
  exact (td_take _ (td_drop _ hd)).ex (Ex.new np)
theorem cutD_take (ds : List PyData) (k : Nat) : cutD ds none (some (k : Int)) = ds.take k := by
  unfold cutD
  rw [HT.sIx_none, HT.sIx_nat, List.drop_zero, Nat.sub_zero]
  by_cases h : k ≤ ds.length
  · rw [Nat.min_eq_left h]
  · rw [Nat.min_eq_right (by omega), List.take_length, List.take_of_length_le (by omega)]
end
def intlD (ns : List Int) : PyData := .list (ns.map PyData.int)
theorem nb_intl (ns : List Int) : nb (intlD ns) = true := by simp only [intlD, nb]; exact nbAll_map nb_intD ns
theorem sh_intl (ns : List Int) : SeqAt.shaped (intlD ns) = true := shaped_of (nb_intl ns) (by
  have := depth_list (n := 0) (depth_map (f := PyData.int) (fun i => by simp [PyData.depth]) ns)
  simp only [intlD]
  omega)
theorem intlD_inj {a b : List Int} : intlD a = intlD b ↔ a = b := by
  refine ⟨fun e => ?_, fun e => by rw [e]⟩
  simp only [intlD, PyData.list.injEq] at e
  exact map_inj (fun a b z => by simpa using z) e
theorem eqv_intl (a b : List Int) : PyData.eqv (intlD a) (intlD b) = decide (a = b) := eqv_dec (nb_intl a) (nb_intl b) intlD_inj

/-! ### states, in plain -/
def newOf : List State → List State → List State
  | _, [] => []
  | S, o :: r => if o ∈ S then newOf S r else o :: newOf (S ++ [o]) r
theorem newOf_append : ∀ (A B S : List State), newOf S (A ++ B) = newOf S A ++ newOf (S ++ newOf S A) B
  | [], B, S => by simp [newOf]
  | a :: A, B, S => by
    rw [List.cons_append, newOf, newOf]
    by_cases c : a ∈ S
    · rw [if_pos c, if_pos c, newOf_append A B S]
    · rw [if_neg c, if_neg c, newOf_append A B (S ++ [a])]
      simp
theorem newOf_one (S : List State) (a : State) : newOf S [a] = if a ∈ S then [] else [a] := by
  rw [newOf]
  split <;> rfl
theorem mem_newOf {x : State} : ∀ {A S : List State}, x ∈ newOf S A ↔ x ∈ A ∧ x ∉ S
  | [], S => by simp [newOf]
  | a :: A, S => by
    rw [newOf]
    by_cases c : a ∈ S
    · rw [if_pos c, mem_newOf, List.mem_cons]
      constructor
      · rintro ⟨h1, h2⟩
        exact ⟨.inr h1, h2⟩
      · rintro ⟨h1 | h1, h2⟩
        · subst h1
          exact absurd c h2
        · exact ⟨h1, h2⟩
    · rw [if_neg c, List.mem_cons, mem_newOf, List.mem_cons]
      constructor
      · rintro (h | ⟨h1, h2⟩)
        · subst h
          exact ⟨.inl rfl, c⟩
        · exact ⟨.inr h1, fun z => h2 (List.mem_append_left _ z)⟩
      · rintro ⟨h1 | h1, h2⟩
        · exact .inl h1
        · by_cases e : x = a
          · exact .inl e
          · exact .inr ⟨h1, fun z => by
              rcases List.mem_append.mp z with z | z
              · exact h2 z
              · simp at z
                exact e z⟩
theorem nodup_newOf : ∀ {A S : List State}, S.Nodup → (S ++ newOf S A).Nodup
  | [], S, h => by simpa [newOf] using h
  | a :: A, S, h => by
    rw [newOf]
    by_cases c : a ∈ S
    · rw [if_pos c]
      exact nodup_newOf h
    · rw [if_neg c]
      have h2 : (S ++ [a]).Nodup := by
        rw [List.nodup_append]
        refine ⟨h, by simp, fun x hx y hy z => ?_⟩
        simp at hy
        subst hy
        subst z
        exact c hx
      have := nodup_newOf (A := A) h2
      simpa using this
/-- the states that a maze may have -/
def VS (n : Int) (s : State) : Prop := Here n s.1 ∧ ∃ p, s.2 = kindsOf p
def bools5 : List (List Bool) := ([true, false].flatMap fun a => [true, false].flatMap fun b => [true, false].flatMap fun c => [true, false].flatMap fun d => [true, false].map fun e => [a, b, c, d, e])
def allS (n : Int) : List State := (upTo n).flatMap fun r => bools5.map fun bs => (r, kindsOf fun i => bs.getD i false)
theorem mem_bools5 (a b c d e : Bool) : [a, b, c, d, e] ∈ bools5 := by cases a <;> cases b <;> cases c <;> cases d <;> cases e <;> decide
theorem mem_allS {n : Int} {s : State} (h : VS n s) : s ∈ allS n := by
  obtain ⟨r, hs⟩ := s
  obtain ⟨h1, p, h2⟩ := h
  refine List.mem_flatMap.mpr ⟨r, mem_upTo.mpr h1, List.mem_map.mpr ⟨[p 0, p 1, p 2, p 3, p 4], mem_bools5 _ _ _ _ _, ?_⟩⟩
  have : (kindsOf fun i => [p 0, p 1, p 2, p 3, p 4].getD i false) = kindsOf p := kindsOf_congr fun i hi => by
    rcases (show i = 0 ∨ i = 1 ∨ i = 2 ∨ i = 3 ∨ i = 4 by omega) with h | h | h | h | h <;> subst h <;> rfl
  rw [this]
  exact Prod.ext rfl h2.symm
theorem flat_len {α β : Type} (g : α → List β) (c : Nat) (h : ∀ a, (g a).length = c) : ∀ l : List α, (l.flatMap g).length = l.length * c
  | [] => by simp
  | a :: r => by
    rw [List.flatMap_cons, List.length_append, flat_len g c h r, h a, List.length_cons, Nat.succ_mul]
    omega
theorem allS_len (n : Int) : (allS n).length = n.toNat * 32 := by
  unfold allS
  rw [flat_len _ 32 (fun a => by rw [List.length_map]; rfl), upTo_len]
theorem vs_len {n : Int} {S : List State} (hd : S.Nodup) (h : ∀ s ∈ S, VS n s) : S.length ≤ n.toNat * 32 := by
  have := nodup_sub_len (m := allS n) hd fun x hx => mem_allS (h x hx)
  rw [allS_len] at this
  exact this
theorem vs_taken {n r : Int} (h : Here n r) (ks : List Key2) (held : List Int) : VS n (r, takenF ks r held) := ⟨h, _, rfl⟩
theorem vs_steps {n : Int} {ds : List Door} {ks : List Key2} (hw : ∀ d ∈ ds, WfD n d) {room : Int} {held : List Int} : ∀ s ∈ stepsF ds ks room held, VS n s := by
  intro s hs
  obtain ⟨d, hd, hs⟩ := List.mem_flatMap.mp hs
  have hwd := hw d hd
  unfold stepF at hs
  split at hs
  · split at hs
    · simp at hs
      subst hs
      exact vs_taken hwd.2.1 _ _
    · split at hs
      · simp at hs
        subst hs
        exact vs_taken hwd.1 _ _
      · simp at hs
  · simp at hs
abbrev nextS (ds : List Door) (ks : List Key2) (s : State) : List State := stepsF ds ks s.1 s.2
/-- the states behind a layer, those that are new -/
def freshF (ds : List Door) (ks : List Key2) (S layer : List State) : List State := newOf S (layer.flatMap (nextS ds ks))
theorem fresh_vs {n : Int} {ds : List Door} {ks : List Key2} (hw : ∀ d ∈ ds, WfD n d) {S A : List State} (hS : ∀ s ∈ S, VS n s) (hA : ∀ s ∈ A, VS n s) : ∀ s ∈ S ++ newOf S A, VS n s := fun s hs => by
  rcases List.mem_append.mp hs with h | h
  · exact hS s h
  · exact hA s (mem_newOf.mp h).1
theorem next_vs {n : Int} {ds : List Door} {ks : List Key2} (hw : ∀ d ∈ ds, WfD n d) (layer : List State) : ∀ s ∈ layer.flatMap (nextS ds ks), VS n s := fun s hs => by
  obtain ⟨a, _, h⟩ := List.mem_flatMap.mp hs
  exact vs_steps hw s h
/-- the layers -/
def layGo (ds : List Door) (ks : List Key2) : Nat → List State → List State → List (List State)
  | 0, _, _ => []
  | f + 1, layer, S => if layer = [] then [] else layer :: layGo ds ks f (sortS (freshF ds ks S layer)) (S ++ freshF ds ks S layer)
def firstS (ks : List Key2) (start : Int) : State := (start, takenF ks start [])
def layersF (ds : List Door) (ks : List Key2) (start : Int) : List (List State) := layGo ds ks 2000 [firstS ks start] [firstS ks start]
theorem sortS_perm (ss : List State) : (sortS ss).Perm ss := List.mergeSort_perm ss _
theorem mem_sortS {ss : List State} {x : State} : x ∈ sortS ss ↔ x ∈ ss := (sortS_perm ss).mem_iff

/-! ### dicts of states, evaluated -/
theorem upd_tupsE {H : Hp} {d : Addr} {φ : Heap → Prop} {o : HO} (h : H d = some (.ext φ)) : ∀ b ys, H b = some (.tup ys) → upd H d o b = some (.tup ys) := fun b ys q => by
  rw [upd_ne (ne_of q h (fun z => by cases z))]
  exact q
/-- the heap without one thing -/
def del (H : Hp) (d : Addr) : Hp := fun b => if b = d then none else H b
theorem del_none {H : Hp} {d : Addr} : del H d d = none := by unfold del; rw [if_pos rfl]
theorem del_ne {H : Hp} {d b : Addr} (h : b ≠ d) : del H d b = H b := by unfold del; rw [if_neg h]
theorem del_ex {H : Hp} {d : Addr} : Ex (del H d) H := fun b o e => by
  unfold del at e
  split at e
  · cases e
  · exact e
theorem del_up {H H' : Hp} {d : Addr} (e : Ex H H') : Ex (del H d) (del H' d) := fun b o h => by
  by_cases c : b = d
  · subst c
    rw [del_none] at h
    cases h
  · rw [del_ne c] at h ⊢
    exact e _ _ h
def Tk (H H' : Hp) : Prop := ∀ b ys, H b = some (.tup ys) → H' b = some (.tup ys)
theorem Tk.refl (H : Hp) : Tk H H := fun _ _ h => h
theorem Tk.trans {H H' H2 : Hp} (a : Tk H H') (b : Tk H' H2) : Tk H H2 := fun c ys h => b c ys (a c ys h)
theorem Tk.ex {H H' : Hp} (e : Ex H H') : Tk H H' := fun b ys h => e b _ h
theorem Tk.lst {H : Hp} {l : Addr} {xs : List V} {o : HO} (h : H l = some (.lst xs)) : Tk H (upd H l o) := upd_tups h
theorem Tk.ext {H : Hp} {d : Addr} {φ : Heap → Prop} {o : HO} (h : H d = some (.ext φ)) : Tk H (upd H d o) := upd_tupsE h
theorem Td.tk {H H' : Hp} (k : Tk H H') {d : PyData} {v : V} (h : Td H v d) : Td H' v d := Td.keep k h
theorem TdAll.tk {H H' : Hp} (k : Tk H H') {ds : List PyData} {vs : List V} (h : TdAll H vs ds) : TdAll H' vs ds := TdAll.keep k h
section
variable {K : PySem.W.Frag} {H H' : Hp} {d : Addr} {φ : Heap → Prop}
theorem tk_del (hd : H d = some (.ext φ)) : Tk H (del H d) := fun b ys h => by rw [del_ne (ne_of h hd (fun z => by cases z))]; exact h
theorem sqT_del {a : Addr} {xs : List V} (hd : H d = some (.ext φ)) (h : SqT K H a xs) : SqT K (del H d) a xs := by
  rcases h with (h | ⟨o, h⟩) | h
  · exact .inl (.inl (by rw [del_ne (ne_of h hd (fun z => by cases z))]; exact h))
  · exact .inl (.inr ⟨o, by rw [del_ne (ne_of h hd (fun z => by cases z))]; exact h⟩)
  · exact .inr h
theorem sqL_del {a : Addr} {xs : List V} (hd : H d = some (.ext φ)) (h : SqL K H a xs) : SqL K (del H d) a xs := by
  rcases h with (h | ⟨o, h⟩) | h
  · exact .inl (.inl (by rw [del_ne (ne_of h hd (fun z => by cases z))]; exact h))
  · exact .inl (.inr ⟨o, by rw [del_ne (ne_of h hd (fun z => by cases z))]; exact h⟩)
  · exact .inr h
mutual
theorem dp_del (hd : H d = some (.ext φ)) : ∀ {x : PyData} {v : V}, Dp K H v x → Dp K (del H d) v x
  | .none, _, .non => .non
  | .bool _, _, .bl b => .bl b
  | .int _, _, .int i => .int i
  | .str _, _, .str x => .str x
  | .list ds, _, .lst h r => .lst (sqL_del hd h) (dpAll_del hd r)
  | .tuple ds, _, .tup h r => .tup (sqT_del hd h) (dpAll_del hd r)
theorem dpAll_del (hd : H d = some (.ext φ)) : ∀ {ds : List PyData} {vs : List V}, DpAll K H vs ds → DpAll K (del H d) vs ds
  | [], _, .nil => .nil
  | _ :: _, _, .cons h r => .cons (dp_del hd h) (dpAll_del hd r)
end
theorem LstT.del {l : Addr} {ds : List PyData} (hd : H d = some (.ext φ)) (h : LstT H l ds) : LstT (Mz.del H d) l ds := by
  obtain ⟨xs, a, b⟩ := h
  exact ⟨xs, by rw [del_ne (ne_of a hd (fun z => by cases z))]; exact a, b.tk (tk_del hd)⟩
end
section
variable {P : Program} {w : World} {K : PySem.W.Frag} {H H' : Hp} {d : Addr} {L : List Ent} {S : List State} {σ : L2.St} {ta tb te td ti tl : TE} {k : State} {b : Addr} {v : V} {D : Ends} {tu tz : TS} {g : TG} {ds : List PyData}
def SD (P : Program) (w : World) (H : Hp) (d : Addr) (L : List Ent) : Prop := H d = some (DN P w d L) ∧ KeysT H L
theorem KeysT.tk (t : Tk H H') (h : KeysT H L) : KeysT H' L := fun p hp => (h p hp).tk t
theorem SD.ex (e : Ex H H') (h : SD P w H d L) : SD P w H' d L := ⟨e _ _ h.1, h.2.tk (Tk.ex e)⟩
theorem SD.lst {l : Addr} {xs : List V} {o : HO} (hl : H l = some (.lst xs)) (h : SD P w H d L) : SD P w (upd H l o) d L := ⟨by rw [upd_ne (ne_of h.1 hl (fun z => by cases z))]; exact h.1, h.2.tk (Tk.lst hl)⟩
theorem keys_put {L : List Ent} (h : KeysT H L) (t : Td H (.ref b) (stateD k)) : KeysT H (putN L k b v) := by
  unfold putN
  split
  · intro p hp
    obtain ⟨q, hq, rfl⟩ := List.mem_map.mp hp
    have := h q hq
    split
    · exact this
    · exact this
  · intro p hp
    rcases List.mem_append.mp hp with h1 | h1
    · exact h p h1
    · simp at h1
      subst h1
      exact t
theorem SD.put (h : SD P w H d L) (t : Td H (.ref b) (stateD k)) : SD P w (upd H d (DN P w d (putN L k b v))) d (putN L k b v) := ⟨upd_same, (keys_put h.2 t).tk (Tk.ext h.1)⟩
theorem ev_inN (ha : Ev ta σ H (.ref b)) (hb : Ev tb σ H (.ref d)) (t : Td H (.ref b) (stateD k)) (h : SD P w H d L) : Ev (tOp (rInN P w false) ta tb) σ H (.bl (hasN L k)) := fun H1 e Q q => ha H1 e _ fun H2 e2 => hb H2 (e.trans e2) _ fun H3 e3 => by
  have e03 := (e.trans e2).trans e3
  have h3 := h.ex e03
  exact ⟨b, d, k, L, rfl, rfl, t.ex e03, Rd.of h3.1, h3.2, q H3 (e2.trans e3)⟩
theorem ev_niN (ha : Ev ta σ H (.ref b)) (hb : Ev tb σ H (.ref d)) (t : Td H (.ref b) (stateD k)) (h : SD P w H d L) : Ev (tOp (rInN P w true) ta tb) σ H (.bl (!hasN L k)) := fun H1 e Q q => ha H1 e _ fun H2 e2 => hb H2 (e.trans e2) _ fun H3 e3 => by
  have e03 := (e.trans e2).trans e3
  have h3 := h.ex e03
  exact ⟨b, d, k, L, rfl, rfl, t.ex e03, Rd.of h3.1, h3.2, q H3 (e2.trans e3)⟩
theorem ev_getN (ha : Ev ta σ H (.ref d)) (hb : Ev tb σ H (.ref b)) (t : Td H (.ref b) (stateD k)) (h : SD P w H d L) (hg : getN L k = some v) : Ev (tOp (rGetN P w) ta tb) σ H v := fun H1 e Q q => ha H1 e _ fun H2 e2 => hb H2 (e.trans e2) _ fun H3 e3 => by
  have e03 := (e.trans e2).trans e3
  have h3 := h.ex e03
  exact ⟨b, d, k, L, v, rfl, rfl, t.ex e03, Rd.of h3.1, h3.2, hg, q H3 (e2.trans e3)⟩
theorem s_setN (h : SD P w H d L) (hv : Ev te σ H v) (ho : Ev td σ H (.ref d)) (hi : Ev ti σ H (.ref b)) (t : Td H (.ref b) (stateD k)) (hz : L.length < 100000) (kk : ∀ H1, Ex H H1 → H1 d = some (DN P w d L) → SD P w (upd H1 d (DN P w d (putN L k b v))) d (putN L k b v) → D.nx σ (upd H1 d (DN P w d (putN L k b v)))) :
    tAsg te (gSub td ti (rSetN P w)) D σ H := hv H (Ex.refl H) _ fun H1 e1 => ho H1 e1 _ fun H2 e2 => hi H2 (e1.trans e2) _ fun H3 e3 => by
  have e03 := (e1.trans e2).trans e3
  have h3 := h.ex e03
  exact ⟨b, d, k, L, rfl, rfl, t.ex e03, h3.1, h3.2, sz_lt hz, kk H3 e03 h3.1 (h3.put (t.ex e03))⟩
theorem q_setN (h : SD P w H d L) (hv : Ev te σ H v) (ho : Ev td σ H (.ref d)) (hi : Ev ti σ H (.ref b)) (t : Td H (.ref b) (stateD k)) (hz : L.length < 100000) (kk : ∀ H1, Ex H H1 → H1 d = some (DN P w d L) → SD P w (upd H1 d (DN P w d (putN L k b v))) d (putN L k b v) → tz D σ (upd H1 d (DN P w d (putN L k b v)))) :
    tSeq (tAsg te (gSub td ti (rSetN P w))) tz D σ H := s_setN (D := { D with nx := tz D }) h hv ho hi t hz kk
/-- what keys there are -/
def SeenK (P : Program) (w : World) (H : Hp) (d : Addr) (S : List State) : Prop := ∃ L, SD P w H d L ∧ L.map (·.1) = S
theorem hasN_mem (L : List Ent) (k : State) : hasN L k = decide (k ∈ L.map (·.1)) := by
  rw [Bool.eq_iff_iff]
  unfold hasN
  simp only [List.any_eq_true, decide_eq_true_eq, List.mem_map]
theorem putN_keys (L : List Ent) (k : State) (b : Addr) (v : V) : (putN L k b v).map (·.1) = if k ∈ L.map (·.1) then L.map (·.1) else L.map (·.1) ++ [k] := by
  unfold putN
  rw [hasN_mem]
  by_cases c : k ∈ L.map (·.1)
  · rw [if_pos (decide_eq_true c), if_pos c, List.map_map]
    refine List.map_congr_left fun p hp => ?_
    show (if p.1 = k then (p.1, p.2.1, v) else p).1 = p.1
    split <;> rfl
  · rw [if_neg (by simpa using c), if_neg c, List.map_append]
    rfl
theorem SeenK.ex (e : Ex H H') (h : SeenK P w H d S) : SeenK P w H' d S := let ⟨L, a, b⟩ := h; ⟨L, a.ex e, b⟩
theorem SeenK.lst {l : Addr} {xs : List V} {o : HO} (hl : H l = some (.lst xs)) (h : SeenK P w H d S) : SeenK P w (upd H l o) d S := let ⟨L, a, b⟩ := h; ⟨L, a.lst hl, b⟩
theorem ev_inS (ha : Ev ta σ H (.ref b)) (hb : Ev tb σ H (.ref d)) (t : Td H (.ref b) (stateD k)) (h : SeenK P w H d S) : Ev (tOp (rInN P w false) ta tb) σ H (.bl (decide (k ∈ S))) := by
  obtain ⟨L, h, rfl⟩ := h
  rw [← hasN_mem]
  exact ev_inN ha hb t h
theorem ev_niS (ha : Ev ta σ H (.ref b)) (hb : Ev tb σ H (.ref d)) (t : Td H (.ref b) (stateD k)) (h : SeenK P w H d S) : Ev (tOp (rInN P w true) ta tb) σ H (.bl (!decide (k ∈ S))) := by
  obtain ⟨L, h, rfl⟩ := h
  rw [← hasN_mem]
  exact ev_niN ha hb t h
theorem q_setS (h : SeenK P w H d S) (hv : Ev te σ H v) (ho : Ev td σ H (.ref d)) (hi : Ev ti σ H (.ref b)) (t : Td H (.ref b) (stateD k)) (hz : S.length < 100000) (kk : ∀ H1 φ o, Ex H H1 → H1 d = some (.ext φ) → SeenK P w (upd H1 d o) d (if k ∈ S then S else S ++ [k]) → tz D σ (upd H1 d o)) :
    tSeq (tAsg te (gSub td ti (rSetN P w))) tz D σ H := by
  obtain ⟨L, h, rfl⟩ := h
  exact q_setN h hv ho hi t (by simpa using hz) fun H1 e1 h1 h2 => kk H1 _ _ e1 h1 ⟨_, h2, putN_keys L k b v⟩
theorem s_setS (h : SeenK P w H d S) (hv : Ev te σ H v) (ho : Ev td σ H (.ref d)) (hi : Ev ti σ H (.ref b)) (t : Td H (.ref b) (stateD k)) (hz : S.length < 100000) (kk : ∀ H1 φ o, Ex H H1 → H1 d = some (.ext φ) → SeenK P w (upd H1 d o) d (if k ∈ S then S else S ++ [k]) → D.nx σ (upd H1 d o)) :
    tAsg te (gSub td ti (rSetN P w)) D σ H := by
  obtain ⟨L, h, rfl⟩ := h
  exact s_setN h hv ho hi t (by simpa using hz) fun H1 e1 h1 h2 => kk H1 _ _ e1 h1 ⟨_, h2, putN_keys L k b v⟩
theorem SeenK.del_ext (h : SeenK P w H d S) : ∃ φ, H d = some (.ext φ) := let ⟨L, a, _⟩ := h; ⟨_, a.1⟩
/-- {k: v} -/
theorem q_dispS {i : Nat} (hk : ∀ H1, Ex H H1 → Ev ta σ H1 (.ref b)) (t : Td H (.ref b) (stateD k)) (hv : ∀ H1, Ex H H1 → Ev tb σ H1 v) (kk : ∀ p H1, H p = none → Ex H H1 → SD P w H1 p [(k, b, v)] → tz D (σ.set i (some (.ref p))) H1) : tSeq (tAsg (tDispN P w ta tb) (gName i)) tz D σ H := fun p np => by
  have e1 := Ex.new (o := DN P w p []) np
  refine hk _ e1 _ (Ex.refl _) _ fun H1 e2 => hv H1 (e1.trans e2) H1 (Ex.refl H1) _ fun H2 e3 => ⟨b, k, rfl, t.ex ((e1.trans e2).trans e3), (e2.trans e3) _ _ upd_same, ?_⟩
  have hp : H2 p = some (DN P w p []) := (e2.trans e3) _ _ upd_same
  refine kk p _ np (Ex.mut ((e1.trans e2).trans e3) np) ⟨upd_same, fun q hq => ?_⟩
  simp at hq
  subst hq
  exact (t.ex ((e1.trans e2).trans e3)).tk (Tk.ext hp)
/-- a loop over a new list of data -/
theorem s_forEL (h : EvLT tl σ H ds) (k : ∀ p xs H1, H p = none → Ex H H1 → H1 p = some (.lst xs) → TdAll H1 xs ds → ∃ Pv : Nat → L2.St → Hp → Prop, Pv 0 σ H1 ∧ (∀ i σ' H', Pv i σ' H' → H' p = some (.lst xs) ∧ Tk H1 H') ∧
    (∀ i d x σ' H', ds[i]? = some d → Td H' x d → Pv i σ' H' → g x σ' H' fun σ2 H2 => tu { D with nx := Pv (i + 1), ct := Pv (i + 1), bk := D.nx } σ2 H2) ∧ ∀ σ' H', Pv ds.length σ' H' → D.nx σ' H') : tFor (iList K tl) g tu D σ H := h H (Ex.refl H) _ fun p H1 np e1 hp => by
  obtain ⟨xs, hx, hd⟩ := hp
  obtain ⟨Pv, p0, pk, ps, pd⟩ := k p xs H1 np e1 hx hd
  refine ⟨p, rfl, ⟨xs, SqL.of hx⟩, for_list (K := K) (a := p) (xs := xs) Pv p0 (fun i σ' H' _ q => SqL.of (pk i σ' H' q).1) (fun i x σ' H' hxi q => ?_) (fun σ' H' q => pd σ' H' (by rw [← hd.len]; exact q))⟩
  obtain ⟨d, hd1, hd2⟩ := hd.getV hxi
  exact ps i d x σ' H' hd1 (hd2.tk (pk i σ' H' q).2) q
/-- a loop over a list of data that stands below -/
theorem s_forLT {l : Addr} {H0 : Hp} (h : Ev tl σ H (.ref l)) (hl : LstT H0 l ds) (e0 : Ex H0 H) (Pv : Nat → L2.St → Hp → Prop) (h0 : ∀ H1, Ex H H1 → Pv 0 σ H1) (hx : ∀ i σ' H', Pv i σ' H' → Ex H0 H')
    (hs : ∀ i d x σ' H', ds[i]? = some d → Td H0 x d → Pv i σ' H' → g x σ' H' fun σ2 H2 => tu { D with nx := Pv (i + 1), ct := Pv (i + 1), bk := D.nx } σ2 H2)
    (hd : ∀ σ' H', Pv ds.length σ' H' → D.nx σ' H') : tFor (iList K tl) g tu D σ H := by
  obtain ⟨xs, ho, hda⟩ := hl
  have hlen := hda.len
  refine s_forL h (SqL.of (e0 _ _ ho)) Pv h0 (fun i σ' H' _ p => SqL.of (hx i σ' H' p _ _ ho)) (fun i x σ' H' hx' p => ?_) (fun σ' H' p => hd σ' H' (by rw [← hlen]; exact p))
  obtain ⟨d, hd1, hd2⟩ := hda.getV hx'
  exact hs i d x σ' H' hd1 hd2 p
theorem q_forLT {l : Addr} {H0 : Hp} (h : Ev tl σ H (.ref l)) (hl : LstT H0 l ds) (e0 : Ex H0 H) (Pv : Nat → L2.St → Hp → Prop) (h0 : ∀ H1, Ex H H1 → Pv 0 σ H1) (hx : ∀ i σ' H', Pv i σ' H' → Ex H0 H')
    (hs : ∀ i d x σ' H', ds[i]? = some d → Td H0 x d → Pv i σ' H' → g x σ' H' fun σ2 H2 => tu { D with nx := Pv (i + 1), ct := Pv (i + 1), bk := tz D } σ2 H2)
    (hd : ∀ σ' H', Pv ds.length σ' H' → tz D σ' H') : tSeq (tFor (iList K tl) g tu) tz D σ H := s_forLT (D := { D with nx := tz D }) h hl e0 Pv h0 hx hs hd
end

/-! ### loops over dicts of states -/
section
variable {P : Program} {w : World} {K : PySem.W.Frag} {H H' : Hp} {d : Addr} {L : List Ent} {σ : L2.St} {ta tb te td tl : TE} {t : TT} {k : State} {b : Addr} {v : V} {D : Ends} {tu tz : TS} {g : TG}
/-- the dict, it may be locked -/
def SDr (P : Program) (w : World) (H : Hp) (d : Addr) (L : List Ent) : Prop := Rd H d (DN P w d L) ∧ KeysT H L
theorem SD.r (h : SD P w H d L) : SDr P w H d L := ⟨Rd.of h.1, h.2⟩
theorem Rd.exr {u : HO} (e : Ex H H') (h : Rd H d u) : Rd H' d u := by
  rcases h with h | ⟨o, h⟩
  · exact .inl (e _ _ h)
  · exact .inr ⟨o, e _ _ h⟩
theorem SDr.ex (e : Ex H H') (h : SDr P w H d L) : SDr P w H' d L := ⟨Rd.exr e h.1, h.2.tk (Tk.ex e)⟩
theorem SD.rex (e : Ex H H') (h : SD P w H d L) : SDr P w H' d L := (h.ex e).r
theorem ev_inR (ha : Ev ta σ H (.ref b)) (hb : Ev tb σ H (.ref d)) (t : Td H (.ref b) (stateD k)) (h : SDr P w H d L) : Ev (tOp (rInN P w false) ta tb) σ H (.bl (hasN L k)) := fun H1 e Q q => ha H1 e _ fun H2 e2 => hb H2 (e.trans e2) _ fun H3 e3 => by
  have e03 := (e.trans e2).trans e3
  have h3 := h.ex e03
  exact ⟨b, d, k, L, rfl, rfl, t.ex e03, h3.1, h3.2, q H3 (e2.trans e3)⟩
theorem ev_niR (ha : Ev ta σ H (.ref b)) (hb : Ev tb σ H (.ref d)) (t : Td H (.ref b) (stateD k)) (h : SDr P w H d L) : Ev (tOp (rInN P w true) ta tb) σ H (.bl (!hasN L k)) := fun H1 e Q q => ha H1 e _ fun H2 e2 => hb H2 (e.trans e2) _ fun H3 e3 => by
  have e03 := (e.trans e2).trans e3
  have h3 := h.ex e03
  exact ⟨b, d, k, L, rfl, rfl, t.ex e03, h3.1, h3.2, q H3 (e2.trans e3)⟩
theorem ev_getR (ha : Ev ta σ H (.ref d)) (hb : Ev tb σ H (.ref b)) (t : Td H (.ref b) (stateD k)) (h : SDr P w H d L) (hg : getN L k = some v) : Ev (tOp (rGetN P w) ta tb) σ H v := fun H1 e Q q => ha H1 e _ fun H2 e2 => hb H2 (e.trans e2) _ fun H3 e3 => by
  have e03 := (e.trans e2).trans e3
  have h3 := h.ex e03
  exact ⟨b, d, k, L, v, rfl, rfl, t.ex e03, h3.1, h3.2, hg, q H3 (e2.trans e3)⟩
theorem ev_lenN (ha : Ev ta σ H (.ref d)) (h : SDr P w H d L) : Ev (tCB (fun xs H Q => ∃ d L, xs = [.ref d] ∧ Rd H d (DN P w d L) ∧ KeysT H L ∧ Q (.int (L.length : Int)) H) (tCons ta tNil)) σ H (.int (L.length : Int)) := fun H1 e Q q => ha H1 e _ fun H2 e2 => by
  have h3 := h.ex (e.trans e2)
  exact ⟨d, L, rfl, h3.1, h3.2, q H2 e2⟩
theorem getN_at {L : List Ent} (hn : (L.map (·.1)).Nodup) {i : Nat} {e : Ent} (h : L[i]? = some e) : getN L e.1 = some e.2.2 := by
  unfold getN
  induction L generalizing i with
  | nil => simp at h
  | cons a r ih =>
    rw [List.map_cons, List.nodup_cons] at hn
    cases i with
    | zero =>
      simp at h
      subst h
      simp [List.find?_cons]
    | succ i =>
      simp at h
      have hne : ¬ a.1 = e.1 := fun z => hn.1 (by rw [z]; exact List.mem_map.mpr ⟨e, List.mem_of_getElem? h, rfl⟩)
      rw [List.find?_cons]
      simp only [hne, decide_false]
      exact ih hn.2 h
theorem walkN {od : Obj} : Walk (ItN P w d od L) L.length (fun H => H d = some (.frz od (DN P w d L))) (fun i H x H' => H' = H ∧ ∃ e : Ent, L[i]? = some e ∧ x = .ref e.2.1) := ⟨fun _ _ hi q => ⟨q, hi⟩, fun _ q => ⟨q, Nat.le_refl _⟩, fun _ _ _ _ _ _ y => y⟩
/-- for k in d: the dict stands locked while the loop runs -/
theorem s_forN {j : Nat} (hv : σ[j]? = some (some (.ref d))) (hD : SD P w H d L) (k : ∀ od, ∃ Pv : Nat → L2.St → Hp → Prop, Pv 0 σ (upd H d (.frz od (DN P w d L))) ∧ (∀ i σ' H', Pv i σ' H' → H' d = some (.frz od (DN P w d L))) ∧
    (∀ i e σ' H', L[i]? = some e → Pv i σ' H' → g (.ref e.2.1) σ' H' fun σ2 H2 => tu ⟨Pv (i + 1), fun v H' => H' d = some (.frz od (DN P w d L)) ∧ D.rt v (upd H' d (DN P w d L)), fun σ' H' => H' d = some (.frz od (DN P w d L)) ∧ D.nx σ' (upd H' d (DN P w d L)), Pv (i + 1)⟩ σ2 H2) ∧
    (∀ σ' H', Pv L.length σ' H' → D.nx σ' (upd H' d (DN P w d L)))) : tLock (tFor (iKeysN P w (tVar j)) g tu) D σ H := ⟨d, DN P w d L, hD.1, True.intro, fun od => by
  obtain ⟨Pv, p0, pk, ps, pd⟩ := k od
  refine ⟨_, hv, d, od, L, rfl, upd_same, for_it walkN Pv p0 (fun i σ' H' _ p => pk i σ' H' p) (fun i x σ' H1 H2 hi p y => ?_) (fun σ' H' p => ⟨pk _ _ _ p, pd σ' H' p⟩)⟩
  obtain ⟨rfl, e, he, rfl⟩ := y
  exact ps i e σ' _ he p⟩
theorem q_forN {j : Nat} (hv : σ[j]? = some (some (.ref d))) (hD : SD P w H d L) (k : ∀ od, ∃ Pv : Nat → L2.St → Hp → Prop, Pv 0 σ (upd H d (.frz od (DN P w d L))) ∧ (∀ i σ' H', Pv i σ' H' → H' d = some (.frz od (DN P w d L))) ∧
    (∀ i e σ' H', L[i]? = some e → Pv i σ' H' → g (.ref e.2.1) σ' H' fun σ2 H2 => tu ⟨Pv (i + 1), fun v H' => H' d = some (.frz od (DN P w d L)) ∧ D.rt v (upd H' d (DN P w d L)), fun σ' H' => H' d = some (.frz od (DN P w d L)) ∧ tz D σ' (upd H' d (DN P w d L)), Pv (i + 1)⟩ σ2 H2) ∧
    (∀ σ' H', Pv L.length σ' H' → tz D σ' (upd H' d (DN P w d L)))) : tSeq (tLock (tFor (iKeysN P w (tVar j)) g tu)) tz D σ H := s_forN (D := { D with nx := tz D }) hv hD k
end

/-! ### a < b, of data that are alike -/
section
variable {P : Program} {w : World} {K : PySem.W.Frag} {H H' : Hp} {h : Heap}
def Tl (H : Hp) (v : V) (d : PyData) : Prop := Td H v d ∨ ∃ (l : Addr) (ds : List PyData), v = .ref l ∧ d = .list ds ∧ LstT H l ds
theorem Tl.ex {v : V} {d : PyData} (e : Ex H H') (t : Tl H v d) : Tl H' v d := by
  rcases t with t | ⟨l, ds, a, b, c⟩
  · exact .inl (t.ex e)
  · exact .inr ⟨l, ds, a, b, c.ex e⟩
theorem reads_tl (ok : HOk P w H h) {d : PyData} {v : V} {u : Value} (t : Tl H v d) (r : RelV v u) : ∃ as, Reads h u d as := by
  rcases t with t | ⟨l, ds, rfl, rfl, xs, hx, hd⟩
  · exact reads_td ok t r
  · cases r
    obtain ⟨_, its, n, rv, e⟩ := (show ObjOk P w H h l (.lst xs) from ok l _ hx)
    obtain ⟨as, ra⟩ := reads_tdAll ok hd rv
    exact ⟨_, .list e rfl rfl (by simpa using ra)⟩
end
def rLtD : R2 := fun x y H Q => ∃ d e : PyData, Tl H x d ∧ Tl H y e ∧ PySem.W.alike d e = true ∧ d ≠ .none ∧ d.depth ≤ 30 ∧ Q (.bl (PySem.W.dataLt d e)) H
theorem op_ltD {X : Cx} (hu : X.A.units + 64 < cLine) : OpR X (compareOp .Lt) rLtD := by
  intro pins s σ H x y v u Q I rx ry h
  obtain ⟨d, e, td, te, ha, hn, hd, q⟩ := h
  obtain ⟨as, ra⟩ := reads_tl I.hok td rx
  obtain ⟨bs, rb⟩ := reads_tl I.hok te ry
  exact PySem.W.rcLt_alike d e X.A s v u as bs ra rb ha hn (by have : min d.depth e.depth ≤ d.depth := Nat.min_le_left _ _; omega) X.prog X.w X.xe (EP X pins σ Q) ⟨.bl (PySem.W.dataLt d e), H, I, rfl, q⟩
theorem ev_ltD {σ : L2.St} {H : Hp} {ta tb : TE} {d e : PyData} (ha : EvP ta σ H (fun v H' => Tl H' v d)) (hb : EvP tb σ H (fun v H' => Tl H' v e)) (h : PySem.W.alike d e = true) (hn : d ≠ .none) (hd : d.depth ≤ 30) : Ev (tOp rLtD ta tb) σ H (.bl (PySem.W.dataLt d e)) := fun H1 x Q q => ha H1 x _ fun v H2 x2 p => hb H2 (x.trans x2) _ fun w H3 x3 p2 => ⟨d, e, p.ex x3, p2, h, hn, hd, q H3 (x2.trans x3)⟩
theorem lt_ints (a b : List Int) : PySem.W.dataLt (intsD a) (intsD b) = decide (a < b) := by
  rw [intsD, intsD, PySem.W.dataLt_tuple]
  exact PySem.W.dataLt_ints a b
theorem alike_intsD (a b : List Int) : PySem.W.alike (intsD a) (intsD b) = true := by simp [intsD, PySem.W.alike, PySem.W.alike_ints]
/-- the order of states -/
def LtS (a b : State) : Prop := a.1 < b.1 ∨ (a.1 = b.1 ∧ a.2 < b.2)
theorem lt_state (a b : State) : (PySem.W.dataLt (stateD a) (stateD b) = true) ↔ LtS a b := by
  unfold stateD LtS
  rw [PySem.W.dataLt_pair (by simp [PySem.W.alike]) (alike_intsD _ _), PySem.W.dataLt_int, lt_ints, eqv_ints]
  have e : PyData.eqv (.int a.1) (.int b.1) = decide (a.1 = b.1) := eqv_dec (nb_intD _) (nb_intD _) (by simp)
  rw [e]
  by_cases c : a.1 = b.1
  · rw [if_pos (decide_eq_true c)]
    by_cases c2 : a.2 = b.2
    · rw [if_pos (decide_eq_true c2), c2, c]
      simp [List.lt_irrefl]
    · rw [if_neg (by simpa using c2)]
      simp [c]
  · rw [if_neg (by simpa using c)]
    simp [c]
theorem LtS.total {a b : State} (h : ¬ LtS b a) (hne : a ≠ b) : LtS a b := by
  obtain ⟨a1, a2⟩ := a
  obtain ⟨b1, b2⟩ := b
  unfold LtS at *
  simp only at *
  by_cases c : a1 = b1
  · subst c
    have h2 : ¬ b2 < a2 := fun z => h (.inr ⟨rfl, z⟩)
    have h3 : a2 ≠ b2 := fun z => hne (by rw [z])
    have h4 : a2 ≤ b2 := List.not_lt.mp h2
    rcases List.le_iff_lt_or_eq.mp h4 with h5 | h5
    · exact .inr ⟨rfl, h5⟩
    · exact absurd h5 h3
  · left
    omega
theorem sortS_lt {ss : List State} (h : ss.Nodup) : (sortS ss).Pairwise LtS := by
  have hn : (sortS ss).Nodup := (sortS_perm ss).nodup_iff.mpr h
  have hs : (sortS ss).Pairwise (fun a b => PySem.W.dataLe false stateD a b = true) := PySem.W.sort_pairwise (PySem.W.sortLe_total _ false _) ss
  exact (List.Pairwise.and hs hn).imp fun {a b} ⟨h1, h2⟩ => by
    rw [PySem.W.dataLe_eq] at h1
    have h3 : ¬ LtS b a := fun z => by
      have := (lt_state b a).mpr z
      simp [this] at h1
    exact LtS.total h3 h2

section
variable {P : Program} {w : World} {K : PySem.W.Frag} {mg : Str → Option Value} {base : Heap}
theorem td_item {H0 : Hp} {v : V} {ds : List PyData} {d : PyData} {j : Nat} (h : Td H0 v (.tuple ds)) (hi : ds[j]? = some d) : ∃ u, Td H0 u d ∧ ∀ {ta tb : TE} {σ : L2.St} {H : Hp}, Ex H0 H → Ev ta σ H v → Ev tb σ H (.int (j : Int)) → Ev (tOp (rIxT K) ta tb) σ H u := by
  cases h with
  | tup ho hd =>
    rename_i a xs
    obtain ⟨u, h4, h5⟩ := hd.get hi
    exact ⟨u, h5, fun e h1 h2 => ev_op h1 h2 (rv_ixT (SqT.of (e _ _ ho)) (atI_nat h4))⟩
theorem lt_stepsC {σ : L2.St} {H : Hp} {tr : TA} {E : XK} {v hv : V} {n room : Int} {ds : List Door} {ks : List Key2} {held : List Int} (h : EvA tr σ H [v, .int room, hv]) (hm : Dp K H v (mazeF n ds ks)) (hh : Dp K H hv (intsD held)) (hok : DoorsOk n ds) (hr : Here n room) : EvLT (tCall (sp_steps K) [] E tr) σ H ((stepsF ds ks room held).map stateD) := fun H1 e Q q => h H1 e _ fun H2 e2 => ⟨v, hv, n, room, ds, ks, held, rfl, dp_ex (e.trans e2) hm, dp_ex (e.trans e2) hh, hok, fun _ p H3 np e3 hp => q p H3 (fresh_back e2 np) (e2.trans e3) hp, fun z => absurd hr z⟩
theorem LstT.updE {H : Hp} {l d : Addr} {φ : Heap → Prop} {o : HO} {ds : List PyData} (hd : H d = some (.ext φ)) (h : LstT H l ds) : LstT (upd H d o) l ds := by
  obtain ⟨xs, a, b⟩ := h
  exact ⟨xs, by rw [L2.upd_ne (ne_of a hd (fun z => by cases z))]; exact a, b.tk (Tk.ext hd)⟩
theorem LstT.at {H : Hp} {l : Addr} {ds : List PyData} (h : LstT H l ds) : ∃ xs, H l = some (.lst xs) := let ⟨xs, a, _⟩ := h; ⟨xs, a⟩
theorem SeenK.at {H : Hp} {d : Addr} {S : List State} (h : SeenK P w H d S) : ∃ o, H d = some o := let ⟨_, a, _⟩ := h; ⟨_, a.1⟩
theorem del_fresh {H : Hp} {d l : Addr} (h : H l = none) : del H d l = none := by
  unfold del
  split
  · rfl
  · exact h
end

section
variable {P : Program} {w : World} {K : PySem.W.Frag} {mg : Str → Option Value} {base : Heap}
theorem s_dropA {σ : L2.St} {H : Hp} {D : Ends} {tr : TA} {sp : Sp} {E : XK} {vs : List V} (h : EvA tr σ H vs) (k : ∀ H1, Ex H H1 → sp vs H1 (fun _ H2 => D.nx σ H2) E) : tDrop (tCall sp [] E tr) D σ H := h H (Ex.refl H) _ fun H1 e1 => by
  show sp (vs ++ []) H1 _ E
  rw [List.append_nil]
  exact k H1 e1
theorem s_asgA {σ : L2.St} {H : Hp} {D : Ends} {tr : TA} {sp : Sp} {E : XK} {vs : List V} {i : Nat} (h : EvA tr σ H vs) (k : ∀ H1, Ex H H1 → sp vs H1 (fun v H2 => D.nx (σ.set i (some v)) H2) E) : tAsg (tCall sp [] E tr) (gName i) D σ H := h H (Ex.refl H) _ fun H1 e1 => by
  show sp (vs ++ []) H1 _ E
  rw [List.append_nil]
  exact k H1 e1
end

section
variable {P : Program} {w : World} {K : PySem.W.Frag} {mg : Str → Option Value} {base : Heap}
/-! ### keys in hand, compared -/
def sp_l_hand (K : PySem.W.Frag) : Sp := fun vs H Q _ => ∃ (v u : V) (ns ms : List Int), vs = [v, u] ∧ Dp K H v (intsD ns) ∧ Dp K H u (intsD ms) ∧ ∀ H2, Ex H H2 → Q (.bl (decide (ns = ms))) H2
theorem ok_l_hand (T : Txt K mg) : Kept P w K mg base 2 "_law_hand" ["_law_found", "_law_due"] (sp_l_hand K) := by
  refine T.d_l_hand.kept sc_l_hand (fun vs H Q E h => ?_) (fun cdv A outer s H vs Q E hr h => ?_)
  · obtain ⟨v, u, ns, ms, rfl, _⟩ := h
    rfl
  · obtain ⟨v, u, ns, ms, rfl, hv, hu, q⟩ := h
    refine ⟨_, (pss_cons (ps_if (PW.pt (pw_or (pt_not (pt_val (pe_callB (call_isi_K (K := K) rfl) (by rfl) T.n_isinstance (by decide +kernel) (pa_cons (pv 0) (pa_cons (pe_bltn (v := .ty "tuple") (u := .type "tuple") (by rfl) T.n_tuple (by decide +kernel) rfl) pa_nil))))) (pw_or1 (pt_cmpR op_ne (pe_callB (call_len_seq_K (K := K) rfl) (by rfl) T.n_len (by decide +kernel) (pa_cons (pv 0) pa_nil)) (pe_callB (call_len_seq_K (K := K) rfl) (by rfl) T.n_len (by decide +kernel) (pa_cons (pv 1) pa_nil)) (nomark _)))))
        (pss_one (ps_ret pe_bl))
        pss_nil)
      (pss_cons (ps_for (passes_of rfl) rfl (pi_tup_K (K := K) rfl (pv 0)) (pg_name (i := 2) sc_l_hand.nd rfl (Or.inl rfl))
        (pss_one (ps_if (pt_not (pt_val (pe_fn (ok_l_whole (K := K) T) (hr.mono (by decide)) passL (by rfl) (pa_cons (pv 2) pa_nil))))
        (pss_one (ps_ret pe_bl))
        pss_nil)))
      (pss_one (ps_ret (pe_cmpR (op_eqD_K (K := K) rfl hr.units) (pv 0) (pv 1) (nomark _)))))), ?_⟩
    refine q_when (b := (!true) || !decide (ns.length = ms.length)) (et_or (et_not (et_B (ev_isiD (n := "tuple") (ed_any (ev_var rfl) hv) (fun v H1 _ h => ty_tup h) (by decide +kernel)))) fun _ =>
      et_test (ev_is (ev_op (ev_lenD (ed_any (ev_var rfl) hv) (.inr rfl)) (ev_lenD (ed_any (ev_var rfl) hu) (.inr rfl)) rv_neI) (by simp; omega))) (fun hb H1 e1 => ?_) (fun hb H1 e1 => ?_)
    · refine s_ret (v := .bl false) ev_c fun H2 e2 => ?_
      have hn : ¬ ns = ms := fun z => by subst z; simp at hb
      have := q _ (e1.trans e2)
      rw [decide_eq_false hn] at this
      exact this
    · have hv1 := dp_ex e1 hv
      cases hv1 with
      | tup hs hd =>
        rename_i a xs
        have hx := dpAll_ints hd
        subst hx
        refine q_forT (σ := [some (.ref a), some u, none]) (g := gName 2) (ev_var rfl) hs (fun i σ' H' => Ex H1 H' ∧ ∃ y, σ' = [some (.ref a), some u, y]) (fun H2 e2 => ⟨e2, none, rfl⟩) (fun i σ' H' _ h => ex_t h.1 hs) (fun i x σ' H' hi hP => ?_) (fun σ' H' hP => ?_)
        · obtain ⟨e2, y, rfl⟩ := hP
          rw [List.getElem?_map] at hi
          obtain ⟨n, _, rfl⟩ := Option.map_eq_some_iff.mp hi
          refine s_when (b := !true) (et_not (et_B (ev_call (ea_cons (ev_var rfl) ea_nil) sv_l_whole))) (fun z => by cases z) fun _ H2 e3 => ⟨e2.trans e3, _, rfl⟩
        · obtain ⟨e2, y, rfl⟩ := hP
          have e12 := e1.trans e2
          refine s_ret (ev_is (ev_eqD (ed_any (ev_var rfl) (dp_ex e12 hv)) (ed_any (ev_var rfl) (dp_ex e12 hu)) (sh_ints ns) (sh_ints ms)) (by rw [eqv_ints])) fun H2 e3 => q _ (e12.trans e3)
theorem sv_l_hand {H : Hp} {v u : V} {ns ms : List Int} (h1 : Dp K H v (intsD ns)) (h2 : Dp K H u (intsD ms)) : SpV (sp_l_hand K) [v, u] H (.bl (decide (ns = ms))) := fun H1 e Q q E => ⟨v, u, ns, ms, rfl, dp_ex e h1, dp_ex e h2, q⟩
end

section
variable {P : Program} {w : World} {K : PySem.W.Frag} {mg : Str → Option Value} {base : Heap}
theorem td_unit0 {σ : L2.St} {H : Hp} : EvTd (tTup tNil) σ H (intsD []) := td_tup (ds := []) ea_tn (by simp)
theorem td_takenU {σ : L2.St} {H : Hp} {t1 t2 : TE} {E : XK} {v : V} {n room : Int} {dd : List PyData} {ks : List Key2} (h1 : Ev t1 σ H v) (h2 : Ev t2 σ H (.int room)) (hm : Dp K H v (mazeD n dd ks)) (hr : Here n room) : EvTd (tCall (sp_taken K) [] E (tCons t1 (tCons t2 (tCons (tTup tNil) tNil)))) σ H (intsD (takenF ks room [])) := by
  intro H3 e3 Q' q'
  refine ea_pv (R := fun vs H' => ∃ hv, vs = [v, .int room, hv] ∧ Td H' hv (intsD [])) h1 (fun H4 e4 => ea_pv (h2.mono e4) fun H5 e5 => ea_pc td_unit0 fun u H6 e6 hu => ea_pn fun H7 e7 => ⟨u, rfl, hu.ex e7⟩) H3 e3 _ fun vs H4 e4 hvs => ?_
  obtain ⟨hv, rfl, hhv⟩ := hvs
  exact ⟨v, hv, n, room, _, ks, [], rfl, dp_ex (e3.trans e4) hm, hhv.dp, fun _ v H5 e5 p => q' v H5 (e4.trans e5) p, fun z => absurd hr z⟩
theorem stateD_inj {a b : State} : stateD a = stateD b → a = b := by
  obtain ⟨a1, a2⟩ := a
  obtain ⟨b1, b2⟩ := b
  intro z
  simp only [stateD, PyData.tuple.injEq, List.cons.injEq, PyData.int.injEq, and_true] at z
  rw [z.1, intsD_inj.mp z.2]
theorem eqv_states (a b : List State) : PyData.eqv (.list (a.map stateD)) (.list (b.map stateD)) = decide (a = b) := eqv_dec (nb_states a) (nb_states b) ⟨fun e => map_inj (f := stateD) (fun a b z => stateD_inj z) (by simpa using e), fun e => by rw [e]⟩
theorem ex_del {H H1 : Hp} {d : Addr} (e : Ex H H1) (hd : H d = none) : Ex H (del H1 d) := fun b o h => by
  rw [del_ne (fun z => by subst z; rw [hd] at h; cases h)]
  exact e _ _ h
/-- a list of lists of states -/
def RowsP (H : Hp) (ps : List Addr) (rows : List (List State)) : Prop := Paired (fun p r => LstT H p (List.map stateD r)) ps rows
def RowsT (H : Hp) (l : Addr) (rows : List (List State)) : Prop := ∃ ps : List Addr, H l = some (.lst (ps.map V.ref)) ∧ (∀ p ∈ ps, p ≠ l) ∧ RowsP H ps rows
theorem RowsP.imp {H H' : Hp} {ps : List Addr} {rows : List (List State)} (h : RowsP H ps rows) (k : ∀ p ∈ ps, ∀ ds, LstT H p ds → LstT H' p ds) : RowsP H' ps rows := by
  unfold RowsP at *
  induction h with
  | nil => exact .nil
  | cons a b ih => exact .cons (k _ (by simp) _ a) (ih fun p hp ds => k p (by simp [hp]) ds)
theorem RowsP.ex {H H' : Hp} {ps : List Addr} {rows : List (List State)} (e : Ex H H') (h : RowsP H ps rows) : RowsP H' ps rows := h.imp fun p _ ds hp => hp.ex e
theorem RowsT.ex {H H' : Hp} {l : Addr} {rows : List (List State)} (e : Ex H H') (h : RowsT H l rows) : RowsT H' l rows := let ⟨ps, a, b, c⟩ := h; ⟨ps, e _ _ a, b, c.ex e⟩
theorem RowsP.dp {H : Hp} {ps : List Addr} {rows : List (List State)} (h : RowsP H ps rows) : DpAll K H (ps.map V.ref) (rows.map fun r => .list (r.map stateD)) := by
  unfold RowsP at h
  induction h with
  | nil => exact .nil
  | cons a b ih => exact .cons a.dp ih
theorem RowsT.dp {H : Hp} {l : Addr} {rows : List (List State)} (h : RowsT H l rows) : Dp K H (.ref l) (.list (rows.map fun r => .list (r.map stateD))) := let ⟨ps, a, _, c⟩ := h; .lst (SqL.of a) c.dp
theorem RowsP.len {H : Hp} {ps : List Addr} {rows : List (List State)} (h : RowsP H ps rows) : ps.length = rows.length := by
  unfold RowsP at h
  induction h with
  | nil => rfl
  | cons a b ih => simp [ih]
theorem RowsP.get {H : Hp} {ps : List Addr} {rows : List (List State)} (h : RowsP H ps rows) : ∀ {i : Nat} {r : List State}, rows[i]? = some r → ∃ p, ps[i]? = some p ∧ LstT H p (r.map stateD) := by
  unfold RowsP at h
  induction h with
  | nil => intro i r e; simp at e
  | cons a b ih =>
    intro i r e
    cases i with
    | zero => simp at e; subst e; exact ⟨_, rfl, a⟩
    | succ i => simp at e; obtain ⟨p, h1, h2⟩ := ih e; exact ⟨p, by simpa using h1, h2⟩
end

/-! ### the least ways, in plain -/
abbrev Way := List Int
abbrev Ways := List (State × Way)
abbrev keysW (W : Ways) : List State := W.map (·.1)
def getW (W : Ways) (s : State) : Option Way := (W.find? fun p => decide (p.1 = s)).map (·.2)
def putW (W : Ways) (s : State) (w : Way) : Ways := if s ∈ keysW W then W.map (fun p => if p.1 = s then (p.1, w) else p) else W ++ [(s, w)]
def addW (S : List State) (w : Way) (F : Ways) (o : State) : Ways :=
  if o ∈ S then F else match getW F o with
    | none => putW F o (w ++ [o.1])
    | some v => if w ++ [o.1] < v then putW F o (w ++ [o.1]) else F
def stepW (ds : List Door) (ks : List Key2) (S : List State) (F : Ways) (p : State × Way) : Ways := (nextS ds ks p.1).foldl (addW S p.2) F
def onwardF (ds : List Door) (ks : List Key2) (W : Ways) (S : List State) : Ways := W.foldl (stepW ds ks S) []
def wayAt (ds : List Door) (ks : List Key2) (start : Int) : Nat → Ways × List State
  | 0 => ([(firstS ks start, [start])], [firstS ks start])
  | t + 1 => (onwardF ds ks (wayAt ds ks start t).1 (wayAt ds ks start t).2, (wayAt ds ks start t).2 ++ keysW (onwardF ds ks (wayAt ds ks start t).1 (wayAt ds ks start t).2))
def minL (a : Way) (r : List Way) : Way := r.foldl (fun a y => if y < a then y else a) a
def minW : List Way → Option Way
  | [] => none
  | a :: r => some (minL a r)
def endsF (goal : Int) (W : Ways) : List Way := (W.filter fun p => decide (p.1.1 = goal)).map (·.2)
def bestF (goal : Int) (W : Ways) : Option Way := minW (endsF goal W)
theorem fold_take {α β : Type} (f : β → α → β) (b : β) {l : List α} {i : Nat} {a : α} (h : l[i]? = some a) : (l.take (i + 1)).foldl f b = f ((l.take i).foldl f b) a := by
  have e : l.take (i + 1) = l.take i ++ [a] := by rw [List.take_succ, h]; rfl
  rw [e, List.foldl_append]
  rfl
theorem fold_inv {α β : Type} {Pr : β → Prop} {f : β → α → β} : ∀ {l : List α} {b : β}, Pr b → (∀ b a, a ∈ l → Pr b → Pr (f b a)) → Pr (l.foldl f b)
  | [], _, h, _ => h
  | a :: r, b, h, hs => by
    rw [List.foldl_cons]
    exact fold_inv (hs b a (by simp) h) fun b c hc => hs b c (by simp [hc])
theorem getW_none {W : Ways} {s : State} : getW W s = none ↔ s ∉ keysW W := by
  unfold getW
  rw [Option.map_eq_none_iff, List.find?_eq_none]
  constructor
  · intro h z
    obtain ⟨p, hp, e⟩ := List.mem_map.mp z
    exact h p hp (by simpa using e)
  · intro h p hp z
    exact h (List.mem_map.mpr ⟨p, hp, by simpa using z⟩)
theorem getW_mem {W : Ways} {s : State} {w : Way} (h : getW W s = some w) : (s, w) ∈ W := by
  unfold getW at h
  obtain ⟨p, hp, rfl⟩ := Option.map_eq_some_iff.mp h
  have h1 := List.mem_of_find?_eq_some hp
  have h2 : p.1 = s := by simpa using List.find?_some hp
  rw [← h2]
  exact h1
theorem getW_of {W : Ways} (hn : (keysW W).Nodup) {s : State} {w : Way} (h : (s, w) ∈ W) : getW W s = some w := by
  induction W with
  | nil => cases h
  | cons a r ih =>
    rw [keysW, List.map_cons, List.nodup_cons] at hn
    unfold getW
    rw [List.find?_cons]
    rcases List.mem_cons.mp h with h1 | h1
    · rw [← h1]
      simp
    · have hne : ¬ a.1 = s := fun z => hn.1 (List.mem_map.mpr ⟨(s, w), h1, z.symm⟩)
      simp only [hne, decide_false]
      exact ih hn.2 h1
theorem keys_putW (W : Ways) (s : State) (w : Way) : keysW (putW W s w) = if s ∈ keysW W then keysW W else keysW W ++ [s] := by
  unfold putW
  by_cases c : s ∈ keysW W
  · rw [if_pos c, if_pos c]
    show (W.map _).map _ = _
    rw [List.map_map]
    refine List.map_congr_left fun p _ => ?_
    show (if p.1 = s then (p.1, w) else p).1 = p.1
    split <;> rfl
  · rw [if_neg c, if_neg c]
    show (W ++ [(s, w)]).map _ = _
    rw [List.map_append]
    rfl
theorem mem_putW {W : Ways} {s : State} {w : Way} {p : State × Way} (h : p ∈ putW W s w) : p ∈ W ∨ p = (s, w) := by
  unfold putW at h
  split at h
  · obtain ⟨q, hq, rfl⟩ := List.mem_map.mp h
    split
    · rename_i e
      right
      rw [e]
    · exact .inl hq
  · rcases List.mem_append.mp h with h1 | h1
    · exact .inl h1
    · simp at h1
      exact .inr h1
/-- putting what is there changes nothing -/
theorem putW_same {W : Ways} (hn : (keysW W).Nodup) {s : State} {w : Way} (h : getW W s = some w) : putW W s w = W := by
  have hm := getW_mem h
  have hk : s ∈ keysW W := List.mem_map.mpr ⟨_, hm, rfl⟩
  unfold putW
  rw [if_pos hk]
  have e : W.map (fun p => if p.1 = s then (p.1, w) else p) = W.map id := List.map_congr_left fun p hp => by
    split
    · rename_i e
      have := getW_of hn (s := p.1) (w := p.2) hp
      rw [e, h] at this
      cases this
      rfl
    · rfl
  rw [e, List.map_id]
theorem keys_addW (S : List State) (w : Way) (F : Ways) (o : State) : keysW (addW S w F o) = if o ∈ S then keysW F else if o ∈ keysW F then keysW F else keysW F ++ [o] := by
  unfold addW
  by_cases c : o ∈ S
  · rw [if_pos c, if_pos c]
  · rw [if_neg c, if_neg c]
    cases h : getW F o with
    | none => simp only [keys_putW]
    | some v =>
      have hk : o ∈ keysW F := List.mem_map.mpr ⟨_, getW_mem h, rfl⟩
      simp only
      rw [if_pos hk]
      split
      · rw [keys_putW, if_pos hk]
      · rfl
theorem mem_addW {S : List State} {w : Way} {F : Ways} {o : State} {p : State × Way} (h : p ∈ addW S w F o) : p ∈ F ∨ (p = (o, w ++ [o.1]) ∧ o ∉ S) := by
  unfold addW at h
  split at h
  · exact .inl h
  · rename_i c
    split at h
    · rcases mem_putW h with h | h
      · exact .inl h
      · exact .inr ⟨h, c⟩
    · split at h
      · rcases mem_putW h with h | h
        · exact .inl h
        · exact .inr ⟨h, c⟩
      · exact .inl h
theorem addW_nodup {S : List State} {w : Way} {F : Ways} {o : State} (h : (keysW F).Nodup) : (keysW (addW S w F o)).Nodup := by
  rw [keys_addW]
  split
  · exact h
  · split
    · exact h
    · rename_i c
      rw [List.nodup_append]
      refine ⟨h, by simp, fun x hx y hy z => ?_⟩
      simp at hy
      subst hy
      subst z
      exact c hx
theorem stepW_nodup {ds : List Door} {ks : List Key2} {S : List State} {F : Ways} {p : State × Way} (h : (keysW F).Nodup) : (keysW (stepW ds ks S F p)).Nodup := fold_inv (Pr := fun (F : Ways) => (keysW F).Nodup) h fun _ _ _ => addW_nodup
theorem onward_nodup (ds : List Door) (ks : List Key2) (W : Ways) (S : List State) : (keysW (onwardF ds ks W S)).Nodup := fold_inv (Pr := fun (F : Ways) => (keysW F).Nodup) (by simp) fun _ _ _ => stepW_nodup
/-- what comes of a step -/
theorem onward_mem {ds : List Door} {ks : List Key2} {W : Ways} {S : List State} {q : State × Way} (h : q ∈ onwardF ds ks W S) : q.1 ∉ S ∧ ∃ p ∈ W, q.1 ∈ nextS ds ks p.1 ∧ q.2 = p.2 ++ [q.1.1] := by
  have key : ∀ q : State × Way, q ∈ onwardF ds ks W S → q.1 ∉ S ∧ ∃ p ∈ W, q.1 ∈ nextS ds ks p.1 ∧ q.2 = p.2 ++ [q.1.1] := by
    unfold onwardF
    refine fold_inv (Pr := fun (F : Ways) => ∀ q : State × Way, q ∈ F → q.1 ∉ S ∧ ∃ p ∈ W, q.1 ∈ nextS ds ks p.1 ∧ q.2 = p.2 ++ [q.1.1]) (by simp) fun F p hp hF => ?_
    unfold stepW
    refine fold_inv (Pr := fun (F : Ways) => ∀ q : State × Way, q ∈ F → q.1 ∉ S ∧ ∃ p ∈ W, q.1 ∈ nextS ds ks p.1 ∧ q.2 = p.2 ++ [q.1.1]) hF fun F o ho hF q hq => ?_
    rcases mem_addW hq with h1 | ⟨h1, h2⟩
    · exact hF q h1
    · subst h1
      exact ⟨h2, p, hp, ho, rfl⟩
  exact key q h
theorem addW_keeps {S : List State} {w : Way} {F : Ways} {o x : State} (h : x ∈ keysW F) : x ∈ keysW (addW S w F o) := by
  rw [keys_addW]
  split
  · exact h
  · split
    · exact h
    · exact List.mem_append_left _ h
theorem addW_has {S : List State} {w : Way} {F : Ways} {o : State} (h : o ∉ S) : o ∈ keysW (addW S w F o) := by
  rw [keys_addW, if_neg h]
  split
  · assumption
  · simp
theorem fold_has {α β : Type} {Pr : β → Prop} {f : β → α → β} {a : α} : ∀ {l : List α} {b : β}, a ∈ l → (∀ b, Pr (f b a)) → (∀ b c, Pr b → Pr (f b c)) → Pr (l.foldl f b)
  | [], _, h, _, _ => by cases h
  | c :: r, b, h, h1, h2 => by
    rw [List.foldl_cons]
    rcases List.mem_cons.mp h with e | e
    · subst e
      exact fold_inv (h1 b) fun b c _ => h2 b c
    · exact fold_has e h1 h2
theorem onward_keys {ds : List Door} {ks : List Key2} {W : Ways} {S : List State} {x : State} : x ∈ keysW (onwardF ds ks W S) ↔ x ∉ S ∧ ∃ p ∈ W, x ∈ nextS ds ks p.1 := by
  constructor
  · intro h
    obtain ⟨q, hq, rfl⟩ := List.mem_map.mp h
    obtain ⟨h1, p, hp, h2, _⟩ := onward_mem hq
    exact ⟨h1, p, hp, h2⟩
  · rintro ⟨h1, p, hp, h2⟩
    unfold onwardF
    refine fold_has (Pr := fun (F : Ways) => x ∈ keysW F) hp (fun F => ?_) fun F q hF => ?_
    · exact fold_has (Pr := fun (F : Ways) => x ∈ keysW F) h2 (fun F => addW_has h1) fun F o hF => addW_keeps hF
    · exact fold_inv (Pr := fun (F : Ways) => x ∈ keysW F) hF fun F o _ => addW_keeps
/-- what holds behind t steps -/
structure WI (n : Int) (ds : List Door) (ks : List Key2) (start : Int) (t : Nat) (W : Ways) (S : List State) : Prop where
  nd : (keysW W).Nodup
  ns : S.Nodup
  vs : ∀ s ∈ S, VS n s
  sub : ∀ p ∈ W, p.1 ∈ S
  len : W ≠ [] → t + 1 ≤ S.length
  low : ∀ p ∈ W, p.2.length = t + 1 ∧ p.2[0]? = some start
theorem wi_at {n : Int} {ds : List Door} {ks : List Key2} {start : Int} (hw : ∀ d ∈ ds, WfD n d) (hs : Here n start) : ∀ t, WI n ds ks start t (wayAt ds ks start t).1 (wayAt ds ks start t).2
  | 0 => ⟨by simp [wayAt], by simp [wayAt], fun s h => by simp [wayAt] at h; subst h; exact vs_taken hs ks [], by simp [wayAt], by simp [wayAt], by simp [wayAt]⟩
  | t + 1 => by
    obtain ⟨nd, ns, vs, sub, len, low⟩ := wi_at (ks := ks) hw hs t
    obtain ⟨W, eW⟩ : ∃ W, (wayAt ds ks start t).1 = W := ⟨_, rfl⟩
    obtain ⟨S, eS⟩ : ∃ S, (wayAt ds ks start t).2 = S := ⟨_, rfl⟩
    have e : wayAt ds ks start (t + 1) = (onwardF ds ks W S, S ++ keysW (onwardF ds ks W S)) := by rw [← eW, ← eS]; rfl
    rw [e]
    rw [eW] at nd sub len low
    rw [eS] at ns vs sub len
    refine ⟨onward_nodup ds ks W S, ?_, fun s h => ?_, fun p hp => List.mem_append_right _ (List.mem_map.mpr ⟨p, hp, rfl⟩), fun hne => ?_, fun p hp => ?_⟩
    · rw [List.nodup_append]
      refine ⟨ns, onward_nodup ds ks W S, fun x hx y hy z => ?_⟩
      subst z
      exact (onward_keys.mp hy).1 hx
    · rcases List.mem_append.mp h with h1 | h1
      · exact vs s h1
      · obtain ⟨_, p, _, h2⟩ := onward_keys.mp h1
        exact vs_steps hw s h2
    · simp only at hne
      have hW : W ≠ [] := fun z => hne (by rw [z]; rfl)
      have h1 := len hW
      have h2 : 0 < (keysW (onwardF ds ks W S)).length := by rw [List.length_map]; exact List.length_pos_iff.mpr hne
      simp only [List.length_append]
      omega
    · obtain ⟨_, q, hq, _, h3⟩ := onward_mem hp
      obtain ⟨h4, h5⟩ := low q hq
      rw [h3]
      exact ⟨by rw [List.length_append, h4]; rfl, by rw [List.getElem?_append_left (by omega)]; exact h5⟩
theorem ways_len {n : Int} {ds : List Door} {ks : List Key2} {start : Int} (hw : ∀ d ∈ ds, WfD n d) (hs : Here n start) (t : Nat) : (wayAt ds ks start t).1.length ≤ n.toNat * 32 ∧ (wayAt ds ks start t).2.length ≤ n.toNat * 32 := by
  have h := wi_at (ks := ks) hw hs t
  have h1 := vs_len h.ns h.vs
  have h2 := nodup_sub_len h.nd (m := (wayAt ds ks start t).2) fun x hx => by
    obtain ⟨p, hp, rfl⟩ := List.mem_map.mp hx
    exact h.sub p hp
  rw [List.length_map] at h2
  omega
theorem ways_t {n : Int} {ds : List Door} {ks : List Key2} {start : Int} (hw : ∀ d ∈ ds, WfD n d) (hs : Here n start) {t : Nat} (h : (wayAt ds ks start t).1 ≠ []) : t < n.toNat * 32 := by
  have h1 := (wi_at (ks := ks) hw hs t).len h
  have h2 := (ways_len (ks := ks) hw hs t).2
  omega
theorem ways_nil {ds : List Door} {ks : List Key2} {start : Int} {t : Nat} (h : (wayAt ds ks start t).1 = []) : ∀ u, t ≤ u → (wayAt ds ks start u).1 = [] := by
  intro u hu
  induction u with
  | zero =>
    have : t = 0 := by omega
    subst this
    exact h
  | succ u ih =>
    by_cases c : t ≤ u
    · have e : (wayAt ds ks start (u + 1)).1 = onwardF ds ks (wayAt ds ks start u).1 (wayAt ds ks start u).2 := rfl
      rw [e, ih c]
      rfl
    · have : t = u + 1 := by omega
      subst this
      exact h
theorem minW_none {l : List Way} : minW l = none ↔ l = [] := by cases l <;> simp [minW]
theorem bestF_nil (goal : Int) : bestF goal [] = none := rfl
theorem bestF_none {goal : Int} {W : Ways} : bestF goal W = none ↔ ∀ p ∈ W, p.1.1 ≠ goal := by
  unfold bestF endsF
  rw [minW_none, List.map_eq_nil_iff, List.filter_eq_nil_iff]
  simp
theorem minL_mem : ∀ (r : List Way) (a : Way), minL a r = a ∨ minL a r ∈ r
  | [], a => .inl rfl
  | b :: r, a => by
    have e : minL a (b :: r) = minL (if b < a then b else a) r := rfl
    rw [e]
    rcases minL_mem r (if b < a then b else a) with h | h
    · rw [h]
      split
      · exact .inr (by simp)
      · exact .inl rfl
    · exact .inr (List.mem_cons_of_mem _ h)
theorem minW_mem {l : List Way} {w : Way} (h : minW l = some w) : w ∈ l := by
  cases l with
  | nil => cases h
  | cons a r =>
    cases h
    rcases minL_mem r a with h | h
    · rw [h]; simp
    · exact List.mem_cons_of_mem _ h
theorem le_of_not_lt_way {a b : Way} (h : ¬ a < b) : b ≤ a := List.not_lt.mp h
theorem minL_le : ∀ (r : List Way) (a x : Way), x = a ∨ x ∈ r → minL a r ≤ x
  | [], a, x, h => by
    rcases h with h | h
    · rw [h]
      exact List.le_refl a
    · cases h
  | b :: r, a, x, h => by
    have e : minL a (b :: r) = minL (if b < a then b else a) r := rfl
    rw [e]
    have h1 := minL_le r (if b < a then b else a) _ (.inl rfl)
    rcases h with h | h
    · subst h
      refine List.le_trans h1 ?_
      split
      · rename_i c
        exact List.le_of_lt c
      · exact List.le_refl _
    · rcases List.mem_cons.mp h with h | h
      · subst h
        refine List.le_trans h1 ?_
        split
        · exact List.le_refl _
        · rename_i c
          exact le_of_not_lt_way c
      · exact minL_le r _ x (.inr h)
theorem minW_le {l : List Way} {w x : Way} (h : minW l = some w) (hx : x ∈ l) : w ≤ x := by
  cases l with
  | nil => cases h
  | cons a r =>
    cases h
    exact minL_le r a x (List.mem_cons.mp hx)
theorem minW_of {l : List Way} {w : Way} (h : w ∈ l) (hl : ∀ x ∈ l, w ≤ x) : minW l = some w := by
  cases e : minW l with
  | none =>
    rw [minW_none.mp e] at h
    cases h
  | some v => rw [List.le_antisymm (hl v (minW_mem e)) (minW_le e h)]
theorem bestF_mem {goal : Int} {W : Ways} {w : Way} (h : bestF goal W = some w) : ∃ p ∈ W, p.1.1 = goal ∧ p.2 = w := by
  have h1 := minW_mem h
  obtain ⟨p, hp, e⟩ := List.mem_map.mp h1
  have h2 := List.mem_filter.mp hp
  exact ⟨p, h2.1, by simpa using h2.2, e⟩
/-- the first place at which there is one -/
def FirstAt (ds : List Door) (ks : List Key2) (start goal : Int) (t : Nat) (w : Way) : Prop := (∀ u, u < t → bestF goal (wayAt ds ks start u).1 = none) ∧ bestF goal (wayAt ds ks start t).1 = some w
def NoneAt (ds : List Door) (ks : List Key2) (start goal : Int) (t : Nat) : Prop := (∀ u, u < t → bestF goal (wayAt ds ks start u).1 = none) ∧ (wayAt ds ks start t).1 = []
theorem FirstAt.uniq {ds : List Door} {ks : List Key2} {start goal : Int} {t u : Nat} {w v : Way} (h : FirstAt ds ks start goal t w) (q : FirstAt ds ks start goal u v) : w = v := by
  have e : t = u := by
    rcases Nat.lt_trichotomy t u with c | c | c
    · have := q.1 t c
      rw [h.2] at this
      cases this
    · exact c
    · have := h.1 u c
      rw [q.2] at this
      cases this
  subst e
  have := h.2.symm.trans q.2
  cases this
  rfl
theorem FirstAt.no {ds : List Door} {ks : List Key2} {start goal : Int} {t u : Nat} {w : Way} (h : FirstAt ds ks start goal t w) (q : NoneAt ds ks start goal u) : False := by
  by_cases c : t < u
  · have := q.1 t c
    rw [h.2] at this
    cases this
  · have := ways_nil q.2 t (by omega)
    have h2 := h.2
    rw [this] at h2
    cases h2

/-! ### dicts from states to ways -/
def Lk (H H' : Hp) : Prop := (∀ b ys, H b = some (.tup ys) → H' b = some (.tup ys)) ∧ ∀ b xs, H b = some (.lst xs) → H' b = some (.lst xs)
theorem Lk.refl (H : Hp) : Lk H H := ⟨fun _ _ h => h, fun _ _ h => h⟩
theorem Lk.trans {H H' H2 : Hp} (a : Lk H H') (b : Lk H' H2) : Lk H H2 := ⟨fun c ys h => b.1 c ys (a.1 c ys h), fun c ys h => b.2 c ys (a.2 c ys h)⟩
theorem Lk.ex {H H' : Hp} (e : Ex H H') : Lk H H' := ⟨fun b ys h => e b _ h, fun b ys h => e b _ h⟩
theorem Lk.ext {H : Hp} {d : Addr} {φ : Heap → Prop} {o : HO} (h : H d = some (.ext φ)) : Lk H (upd H d o) := ⟨Tk.ext h, fun b xs q => by rw [L2.upd_ne (ne_of q h (fun z => by cases z))]; exact q⟩
theorem Lk.frz {H : Hp} {d : Addr} {od : Obj} {u o : HO} (h : H d = some (.frz od u)) : Lk H (upd H d o) := ⟨fun b xs q => by rw [L2.upd_ne (ne_of q h (fun z => by cases z))]; exact q, fun b xs q => by rw [L2.upd_ne (ne_of q h (fun z => by cases z))]; exact q⟩
theorem Lk.del {H : Hp} {d : Addr} {φ : Heap → Prop} (h : H d = some (.ext φ)) : Lk H (Mz.del H d) := ⟨tk_del h, fun b xs q => by rw [del_ne (ne_of q h (fun z => by cases z))]; exact q⟩
theorem LstT.lk {H H' : Hp} {l : Addr} {ds : List PyData} (k : Lk H H') (h : LstT H l ds) : LstT H' l ds := let ⟨xs, a, b⟩ := h; ⟨xs, k.2 _ _ a, b.tk k.1⟩
/-- unlocked again -/
theorem ex_lock {H H' : Hp} {d : Addr} {u : HO} (hd : H d = some u) (e : Ex (Mz.del H d) H') : Ex H (upd H' d u) := fun b o h => by
  by_cases c : b = d
  · subst c
    rw [hd] at h
    cases h
    exact upd_same
  · rw [L2.upd_ne c]
    exact e b o (by rw [del_ne c]; exact h)
/-- base without one, and one that is new -/
theorem ex_lock2 {H H' : Hp} {d : Addr} {u : HO} (hd : H d = none) (e : Ex H H') : Ex H (upd H' d u) := Ex.mut e hd
def EntW (H0 H : Hp) (e : Ent) (p : State × Way) : Prop := e.1 = p.1 ∧ ∃ l, e.2.2 = .ref l ∧ H0 l = none ∧ LstT H l (p.2.map PyData.int)
def EntsW (H0 H : Hp) (L : List Ent) (W : Ways) : Prop := Paired (EntW H0 H) L W
section
variable {P : Program} {w : World} {H0 H H' : Hp} {L : List Ent} {W : Ways}
theorem EntsW.lk (k : Lk H H') (h : EntsW H0 H L W) : EntsW H0 H' L W := Paired.mapP h fun a b ⟨e, l, h1, h2, h3⟩ => ⟨e, l, h1, h2, h3.lk k⟩
theorem EntsW.keys (h : EntsW H0 H L W) : L.map (·.1) = keysW W := by
  unfold EntsW at h
  induction h with
  | nil => rfl
  | cons a b ih =>
    simp only [List.map_cons]
    rw [a.1, ih]
theorem EntsW.len (h : EntsW H0 H L W) : L.length = W.length := Paired.length h
theorem EntsW.get (h : EntsW H0 H L W) {i : Nat} {e : Ent} (hi : L[i]? = some e) : ∃ p, W[i]? = some p ∧ EntW H0 H e p := L2.paired_get h hi
theorem EntsW.has (h : EntsW H0 H L W) (k : State) : hasN L k = decide (k ∈ keysW W) := by rw [hasN_mem, h.keys]
theorem EntsW.gotW (h : EntsW H0 H L W) {k : State} {v : Way} (g : getW W k = some v) : ∃ l, getN L k = some (.ref l) ∧ H0 l = none ∧ LstT H l (v.map PyData.int) := by
  unfold EntsW at h
  induction h with
  | nil => cases g
  | @cons a p ps qs ha b ih =>
    obtain ⟨e, l, h1, h2, h3⟩ := ha
    unfold getW getN at *
    by_cases c : p.1 = k
    · have c2 : a.1 = k := by rw [e, c]
      simp only [List.find?_cons, c, decide_true, Option.map_some, Option.some.injEq] at g
      simp only [List.find?_cons, c2, decide_true, Option.map_some]
      subst g
      exact ⟨l, by rw [h1], h2, h3⟩
    · have c2 : ¬ a.1 = k := by rw [e]; exact c
      simp only [List.find?_cons, c, decide_false] at g
      simp only [List.find?_cons, c2, decide_false]
      exact ih g
theorem EntsW.noW (h : EntsW H0 H L W) {k : State} (g : getW W k = none) : getN L k = none := by
  have h1 := h.has k
  rw [decide_eq_false (getW_none.mp g), hasN_get] at h1
  cases e : getN L k with
  | none => rfl
  | some v => rw [e] at h1; cases h1
theorem EntsW.put (h : EntsW H0 H L W) {k : State} {b l : Addr} {v : Way} (hl : H0 l = none) (t : LstT H l (v.map PyData.int)) : EntsW H0 H (putN L k b (.ref l)) (putW W k v) := by
  unfold putN putW
  rw [h.has k]
  by_cases c : k ∈ keysW W
  · rw [if_pos (decide_eq_true c), if_pos c]
    clear c
    unfold EntsW at *
    induction h with
    | nil => exact .nil
    | @cons a p ps qs ha b2 ih =>
      simp only [List.map_cons]
      refine .cons ?_ ih
      by_cases c : p.1 = k
      · have c2 : a.1 = k := by rw [ha.1, c]
        rw [if_pos c, if_pos c2]
        exact ⟨ha.1, l, rfl, hl, t⟩
      · have c2 : ¬ a.1 = k := by rw [ha.1]; exact c
        rw [if_neg c, if_neg c2]
        exact ha
  · rw [if_neg (by simpa using c), if_neg c]
    exact Paired.snoc h ⟨rfl, l, rfl, hl, t⟩
theorem SD.ent (h : SD P w H d L) {i : Nat} {e : Ent} (hi : L[i]? = some e) : Td H (.ref e.2.1) (stateD e.1) := h.2 e (List.mem_of_getElem? hi)
end
/-! {k: a new list} -/
section
variable {P : Program} {w : World} {K : PySem.W.Frag} {σ : L2.St} {H : Hp} {ta tb : TE} {tz : TS} {D : Ends} {k : State} {i : Nat}
theorem q_dispTL {ds : List PyData} (hk : EvTd ta σ H (stateD k)) (hv : ∀ H1, Ex H H1 → EvLT tb σ H1 ds) (kk : ∀ p b l H1, H p = none → H l = none → p ≠ l → Ex H H1 → SD P w H1 p [(k, b, .ref l)] → LstT H1 l ds → tz D (σ.set i (some (.ref p))) H1) : tSeq (tAsg (tDispN P w ta tb) (gName i)) tz D σ H := fun p np => by
  have e1 := Ex.new (o := DN P w p []) np
  refine (hk.mono e1) _ (Ex.refl _) _ fun x H1 e2 t => hv H1 (e1.trans e2) H1 (Ex.refl H1) _ fun l H2 nl e3 hl => ?_
  have hx : ∃ b, x = .ref b := by unfold stateD at t; cases t; exact ⟨_, rfl⟩
  obtain ⟨b, rfl⟩ := hx
  refine ⟨b, k, rfl, t.ex e3, (e2.trans e3) _ _ upd_same, ?_⟩
  have hp : H2 p = some (DN P w p []) := (e2.trans e3) _ _ upd_same
  have hpl : p ≠ l := fun z => by
    subst z
    rw [e2 _ _ upd_same] at nl
    cases nl
  refine kk p b l _ np (fresh_back (e1.trans e2) nl) hpl (Ex.mut ((e1.trans e2).trans e3) np) ⟨upd_same, fun q hq => ?_⟩ (hl.lk (Lk.ext hp))
  simp at hq
  subst hq
  exact (t.ex e3).tk (Tk.ext hp)
end
/-! ### a comprehension over a dict of states -/
section
variable {P : Program} {w : World} {K : PySem.W.Frag} {H : Hp} {d : Addr} {L : List Ent} {σ : L2.St} {te : TE} {t : TT} {v : V} {D : Ends} {tz : TS} {g : TG} {vs : List Nat} {od : Obj}
theorem lc_keysN {j : Nat} {Q : VK} (hv : σ[j]? = some (some (.ref d))) (hD : H d = some (.frz od (DN P w d L))) (k : ∀ Dl, H Dl = none → ∃ Pv : Nat → Hp → Prop, Pv 0 (upd H Dl (.lst [])) ∧ (∀ i H', Pv i H' → H' d = some (.frz od (DN P w d L))) ∧
    (∀ i e H', L[i]? = some e → Pv i H' → g (.ref e.2.1) (wipe σ vs) H' fun σ2 H2 => wipe σ2 vs = wipe σ vs ∧ t σ2 H2 fun b H3 => if b = true then te σ2 H3 fun y H4 => ∃ acc, H4 Dl = some (.lst acc) ∧ acc.length < sizeLine ∧ Pv (i + 1) (upd H4 Dl (.lst (acc ++ [y]))) else Pv (i + 1) H3) ∧
    (∀ H', Pv L.length H' → Q (.ref Dl) H')) : tLc (iKeysN P w (tVar j)) g t te vs σ H Q :=
  ⟨_, hv, d, od, L, rfl, hD, fun Dl hDl => by
    obtain ⟨Pv, p0, pk, ps, pd⟩ := k Dl hDl
    refine lc_it walkN Pv p0 (fun i H' _ p => pk i H' p) (fun i x H1 H2 hi p y => ?_) pd
    obtain ⟨rfl, e, he, rfl⟩ := y
    exact ps i e _ he p⟩
end
section
variable {P : Program} {w : World} {K : PySem.W.Frag} {H H' : Hp} {d e : Addr} {L : List Ent} {S : List State} {o : HO} {φ : Heap → Prop} {od : Obj} {u : HO}
theorem SD.updO (hd : H d = some (.ext φ)) (ne : e ≠ d) (h : SD P w H e L) : SD P w (upd H d o) e L := ⟨by rw [L2.upd_ne ne]; exact h.1, h.2.tk (Tk.ext hd)⟩
theorem SD.updF (hd : H d = some (.frz od u)) (ne : e ≠ d) (h : SD P w H e L) : SD P w (upd H d o) e L := ⟨by rw [L2.upd_ne ne]; exact h.1, h.2.tk (Lk.frz hd).1⟩
theorem SD.delO (hd : H d = some (.ext φ)) (ne : e ≠ d) (h : SD P w H e L) : SD P w (Mz.del H d) e L := ⟨by rw [del_ne ne]; exact h.1, h.2.tk (tk_del hd)⟩
theorem SeenK.updX (hd : H d = some (.ext φ)) (ne : e ≠ d) (h : SeenK P w H e S) : SeenK P w (upd H d o) e S := let ⟨L, a, b⟩ := h; ⟨L, a.updO hd ne, b⟩
theorem SeenK.updF (hd : H d = some (.frz od u)) (ne : e ≠ d) (h : SeenK P w H e S) : SeenK P w (upd H d o) e S := let ⟨L, a, b⟩ := h; ⟨L, a.updF hd ne, b⟩
theorem SeenK.delO (hd : H d = some (.ext φ)) (ne : e ≠ d) (h : SeenK P w H e S) : SeenK P w (Mz.del H d) e S := let ⟨L, a, b⟩ := h; ⟨L, a.delO hd ne, b⟩
theorem SD.ext (h : SD P w H d L) : H d = some (.ext fun h => RawN P w h d L) := h.1
theorem q_lockAsg {σ : L2.St} {te : TE} {tz : TS} {D : Ends} {i : Nat} (hD : SD P w H d L) (k : ∀ od, te σ (upd H d (.frz od (DN P w d L))) fun v H' => H' d = some (.frz od (DN P w d L)) ∧ tz D (σ.set i (some v)) (upd H' d (DN P w d L))) : tSeq (tLock (tAsg te (gName i))) tz D σ H := ⟨d, DN P w d L, hD.1, True.intro, k⟩
end

/-! ### min of ways -/
theorem dataLt_way (a b : Way) : PySem.W.dataLt (intlD a) (intlD b) = decide (a < b) := by
  rw [intlD, intlD, PySem.W.dataLt_list]
  exact PySem.W.dataLt_ints a b
theorem alike_way (a b : Way) : PySem.W.alike (intlD a) (intlD b) = true := by simp [intlD, PySem.W.alike, PySem.W.alike_ints]
theorem minD_way : ∀ (r : List Way) (a : Way), PySem.W.minD (intlD a) (r.map intlD) = intlD (minL a r)
  | [], a => rfl
  | b :: r, a => by
    have e1 : PySem.W.minD (intlD a) ((b :: r).map intlD) = PySem.W.minD (if PySem.W.dataLt (intlD b) (intlD a) then intlD b else intlD a) (r.map intlD) := rfl
    have e2 : minL a (b :: r) = minL (if b < a then b else a) r := rfl
    rw [e1, e2, dataLt_way, ← minD_way r (if b < a then b else a)]
    by_cases c : b < a
    · rw [if_pos (decide_eq_true c), if_pos c]
    · rw [if_neg (by simpa using c), if_neg c]
section
variable {prog : Program} {w : World} {A : Around} {E : Value → Shared → Prop} {s : Shared}
/-- min of two, their data alike -/
theorem min_two_data {a b : Value} {x y : PyData} {as bs : List Addr} {Q : Value → Shared → Prop} (hh : A.handled = none) (ra : Reads s.heap a x as) (rb : Reads s.heap b y bs) (h1 : PySem.W.alike x x = true) (h2 : PySem.W.alike x y = true) (h3 : PySem.W.alike y x = true) (h4 : PySem.W.alike y y = true)
    (hx : x ≠ .none) (hy : y ≠ .none) (hu : A.units + 1 + PyData.depthAll [x, y] < cLine)
    (h : ∀ h' tk, (∀ c o, s.heap.get? c = some o → h'.get? c = some o) → Q (if PySem.W.dataLt y x = true then b else a) { s with heap := h', toks := tk }) :
    wpAny (model prog w) A (call (.builtin "min") [a, b]) Q E s := by
  have hn : (toString "min" ++ toString ".loop" : String) = "min.loop" := by decide
  refine call_function_tree F.kind_min F.plain_min F.entry_min (F.args_min2 _ _) ?_
  refine wpAny_bind (wpAny_of_eq (show Builtin.Builtins.bindParams "min" ["key", "default"] 0 ⟨[], []⟩ = pure [none, none] from rfl) ?_)
  show wpAny _ A.in1 (newTuple [a, b] >>= _) _ _ s
  refine wpAny_bind (wpAny_newObj_type ?_)
  obtain ⟨h0, eh0⟩ : ∃ h0, s.heap.push { cls := .type "tuple", data := .seq #[a, b] } = h0 := ⟨_, rfl⟩
  have k0 : ∀ c o, s.heap.get? c = some o → h0.get? c = some o := fun c o e => by rw [← eh0]; exact Heap.get?_push_of_some _ e
  have hl : h0.IsTuple s.heap.objs.size #[a, b] := by rw [← eh0]; exact ⟨_, Heap.get?_push_size _ rfl, rfl, _, rfl⟩
  have hr : ReadsAll h0 (#[a, b] : Array Value).toList [x, y] (as ++ (bs ++ [])) := .cons (Reads.keeps k0 ra) (.cons (Reads.keeps k0 rb) .nil)
  have hal : PySem.W.AlikeAll [x, y] := ⟨fun p hp q hq => by
    rcases List.mem_cons.mp hp with rfl | hp
    · rcases List.mem_cons.mp hq with rfl | hq
      · exact h1
      · have : q = y := by simpa using hq
        subst this
        exact h2
    · have : p = y := by simpa using hp
      subst this
      rcases List.mem_cons.mp hq with rfl | hq
      · exact h3
      · have : q = p := by simpa using hq
        subst this
        exact h4, fun p hp => by
    rcases List.mem_cons.mp hp with rfl | hp
    · exact hx
    · have : p = y := by simpa using hp
      subst this
      exact hy⟩
  rw [eh0]
  refine wpAny_bind (PySem.W.iter_tupleW (A := A.in1) (s := { s with heap := h0 }) hh hl fun s2 e W st hfp hw hk => ?_)
  refine wpAny_bind (wpAny_newObj_type ?_)
  have hSf : s2.heap.objs.size ∉ [h0.objs.size, s.heap.objs.size] := fun hm => Nat.lt_irrefl _ (hfp _ hm)
  rw [hn]
  have st2 := W.frame 0 s2 (s2.heap.push { cls := .type "list", data := .seq #[] 0 }) s2.toks st (Nat.le_refl _) fun c _ o e => Heap.get?_push_of_some _ e
  refine wpAny_pure ⟨plainId_quiet F.plain_min_loop _, ?_⟩
  refine codeAny_min_loop_firstH W h0 hw (fun i j => PySem.W.dataLt ([x, y].getD i .none) ([x, y].getD j .none)) (PySem.W.cmpIn_lt (A := A.in1) (s := { s with heap := h0 }) hr hal (by show A.units + 1 + _ < _; exact hu)) s2.heap.objs.size hSf (fresh_in hk) _ (show (0 : Nat) < 2 by decide) (fun c o q => Heap.get?_push_of_some _ (hk c o q)) st2 (Heap.get?_push_size _ rfl) fun v s' hP hm => ?_
  obtain ⟨h', tk, rfl, hk'⟩ := PySem.W.moved_old (s := { s with heap := h0 }) e rfl (Moved.drop_new (tk := s2.toks) hm (Nat.le_refl _))
  have ev : v = if PySem.W.dataLt y x = true then b else a := by
    have e1 : argBest (fun i j => PySem.W.dataLt ([x, y].getD i .none) ([x, y].getD j .none)) ((#[a, b] : Array Value).size - 1) = if PySem.W.dataLt y x = true then 1 else 0 := rfl
    rw [e1] at hP
    by_cases c : PySem.W.dataLt y x = true
    · rw [if_pos c] at hP ⊢
      have : b = v := by simpa using hP
      exact this.symm
    · rw [if_neg c] at hP ⊢
      have : a = v := by simpa using hP
      exact this.symm
  rw [ev]
  exact h h' tk fun c o q => hk' c o (k0 c o q)
/-- min of a list, by the item's place -/
theorem min_list_at {l : Addr} {vs : Array Value} {xs : List PyData} {as : List Addr} {d : Value} {Q : Value → Shared → Prop} (hh : A.handled = none) (hl : s.heap.IsList l vs) (hr : ReadsAll s.heap vs.toList xs as) (ha : PySem.W.AlikeAll xs) (hu : A.units + 1 + PyData.depthAll xs < cLine)
    (h0 : xs = [] → ∀ h' tk, (∀ b o, s.heap.get? b = some o → h'.get? b = some o) → Q d { s with heap := h', toks := tk })
    (h : ∀ (y : PyData) (ys : List PyData) (i : Nat) v h' tk, xs = y :: ys → vs[i]? = some v → xs[i]? = some (PySem.W.minD y ys) → (∀ b o, s.heap.get? b = some o → h'.get? b = some o) → Q v { s with heap := h', toks := tk }) :
    wpAny (model prog w) A (call (.builtin "min") [.ref l] [(Str.ofString "default", d)]) Q E s := by
  have hn := PySem.W.readsAll_len hr
  refine call_min_walkD (PySem.W.iter_listW (A := A.in1) hh hl fun s2 e W st hfp hw hk => ?_)
  refine ⟨_, _, _, _, _, _, _, s.heap, (fun i j => PySem.W.dataLt (xs.getD i .none) (xs.getD j .none)), rfl, W, st, hfp, hw, hk, fun hz s' m => ?_, fun hp => ⟨PySem.W.cmpIn_lt (A := A.in1) hr ha hu, fun v s' hP m => ?_⟩⟩
  · obtain ⟨h', tk, rfl, q⟩ := PySem.W.moved_old e rfl m
    refine h0 (List.eq_nil_of_length_eq_zero ?_) h' tk q
    omega
  · obtain ⟨h', tk, rfl, q⟩ := PySem.W.moved_old e rfl m
    cases xs with
    | nil => exact absurd hp (by rw [hn]; exact Nat.lt_irrefl 0)
    | cons y ys =>
      have e1 : vs.size - 1 = ys.length := by rw [hn]; rfl
      obtain ⟨e2, e3⟩ := PySem.W.argBest_fold PySem.W.dataLt PyData.none y ys ys.length (Nat.le_refl _)
      rw [List.take_length] at e3
      rw [e1] at hP
      refine h y ys _ v h' tk rfl hP ?_ q
      have hlt : argBest (fun i j => PySem.W.dataLt ((y :: ys).getD i .none) ((y :: ys).getD j .none)) ys.length < (y :: ys).length := by rw [List.length_cons]; omega
      rw [List.getElem?_eq_getElem hlt]
      rw [List.getD_eq_getElem?_getD, List.getElem?_eq_getElem hlt] at e3
      exact congrArg some e3
end
section
variable {X : Cx} {K : PySem.W.Frag}
/-- a list of ways -/
def WaysAt (H : Hp) (xs : List V) (ws : List Way) : Prop := Paired (fun (x : V) (w : Way) => ∃ l, x = V.ref l ∧ LstT H l (w.map PyData.int)) xs ws
theorem reads_ways {P : Program} {w : World} {H : Hp} {h : Heap} (ok : HOk P w H h) : ∀ {xs : List V} {ws : List Way} {us : List Value}, WaysAt H xs ws → Vals xs us → ∃ as, ReadsAll h us (ws.map intlD) as
  | _, _, _, .nil, .nil => ⟨_, .nil⟩
  | _, _, _, .cons ⟨l, e, t⟩ r, .cons r1 r2 => by
    subst e
    obtain ⟨as, ra⟩ := reads_tl ok (.inr ⟨l, _, rfl, rfl, t⟩) r1
    obtain ⟨bs, rb⟩ := reads_ways ok r r2
    exact ⟨as ++ bs, .cons ra rb⟩
theorem alike_ways (ws : List Way) : PySem.W.AlikeAll (ws.map intlD) := ⟨fun x hx y hy => by
  obtain ⟨a, _, rfl⟩ := List.mem_map.mp hx
  obtain ⟨b, _, rfl⟩ := List.mem_map.mp hy
  exact alike_way a b, fun x hx z => by
  obtain ⟨a, _, rfl⟩ := List.mem_map.mp hx
  cases z⟩
theorem dep_way (a : Way) : (intlD a).depth ≤ 1 := depth_list (depth_map (fun i => by simp [PyData.depth]) a)
theorem dep_ways (ws : List Way) : PyData.depthAll (ws.map intlD) ≤ 1 := depthAll_le (depth_map dep_way ws)
/-- min(ws, default=None) -/
def rMinW (K : PySem.W.Frag) : List V → List V → Hp → VK → Prop := fun vs zs H Q => ∃ (a : Addr) (xs : List V) (ws : List Way), vs = [.ref a] ∧ zs = [.non] ∧ SqL K H a xs ∧ WaysAt H xs ws ∧ (ws = [] → Q .non H) ∧
  ∀ (i : Nat) (l : Addr) (v : Way), xs[i]? = some (V.ref l) → ws[i]? = some v → minW ws = some v → Q (V.ref l) H
theorem cr_minW (hK : X.K = K) (hc : X.calm = true) (hu : X.A.units + 64 < cLine) : CallRK X (.builtin "min") ["default"] (rMinW K) := by
  subst hK
  intro pins s σ H vs zs us ws0 Q I r1 r2 h
  obtain ⟨a, xs, ws, rfl, rfl, hs, hw, q0, q⟩ := h
  obtain ⟨its, rv, hl, _⟩ := I.list hs
  rw [Vals.ref1 r1]
  obtain ⟨d, rfl, rd⟩ := r2.one
  obtain ⟨as, ra⟩ := reads_ways I.hok hw rv
  have hdp := dep_ways ws
  show wpAny _ _ (call (.builtin "min") [.ref a] [(Str.ofString "default", d)]) _ _ _
  refine min_list_at (I.ok.hd hc) hl.isList (by simpa using ra) (alike_ways ws) (by omega) (fun hz h' tk k => ?_) (fun y ys i v h' tk hz hv hm k => ?_)
  · exact ⟨.non, H, I.kept k, rd, q0 (by simpa using hz)⟩
  · cases ws with
    | nil => cases hz
    | cons w0 wr =>
      rw [List.map_cons] at hz
      cases hz
      rw [minD_way, List.getElem?_map] at hm
      obtain ⟨v2, hv2, e2⟩ := Option.map_eq_some_iff.mp hm
      have e3 := intlD_inj.mp e2
      have hv3 : its[i]? = some v := by simpa using hv
      have hxl : i < xs.length := by
        have h1 := (List.getElem?_eq_some_iff.mp hv2).1
        have h2 : xs.length = (w0 :: wr).length := Paired.length hw
        omega
      obtain ⟨w2, hw2, l, el, _⟩ := L2.paired_get hw (List.getElem?_eq_getElem hxl)
      obtain ⟨u2, hu2, ru⟩ := L2.paired_get rv (List.getElem?_eq_getElem hxl)
      rw [hv3] at hu2
      cases hu2
      rw [el] at ru
      refine ⟨.ref l, H, I.kept k, ru, q i l v2 (by rw [List.getElem?_eq_getElem hxl, el]) hv2 ?_⟩
      rw [e3]
      rfl
/-- min(a, b) -/
def rMin2W : List V → Hp → VK → Prop := fun vs H Q => ∃ (a b : Addr) (x y : Way), vs = [.ref a, .ref b] ∧ LstT H a (x.map PyData.int) ∧ LstT H b (y.map PyData.int) ∧ Q (.ref (if y < x then b else a)) H
theorem cr_min2W (hc : X.calm = true) (hu : X.A.units + 64 < cLine) : CallR X (.builtin "min") rMin2W := by
  intro pins s σ H vs us Q I r h
  obtain ⟨a, b, x, y, rfl, ha, hb, q⟩ := h
  cases r with
  | cons r1 r =>
    cases r with
    | cons r2 r =>
      cases r
      obtain ⟨as, ra⟩ := reads_tl I.hok (.inr ⟨a, _, rfl, rfl, ha⟩) r1
      obtain ⟨bs, rb⟩ := reads_tl I.hok (.inr ⟨b, _, rfl, rfl, hb⟩) r2
      have hdp := dep_ways [x, y]
      refine min_two_data (I.ok.hd hc) ra rb (alike_way x x) (alike_way x y) (alike_way y x) (alike_way y y) (fun z => by cases z) (fun z => by cases z) (by show _ + PyData.depthAll ([x, y].map intlD) < _; omega) fun h' tk k => ?_
      have e := dataLt_way y x
      refine ⟨.ref (if y < x then b else a), H, I.kept k, ?_, q⟩
      show _ = Value.ref _
      cases r1
      cases r2
      show (if PySem.W.dataLt (intlD y) (intlD x) = true then _ else _) = _
      rw [e]
      by_cases c : y < x
      · rw [if_pos (decide_eq_true c), if_pos c]
      · rw [if_neg (by simpa using c), if_neg c]
end

section
variable {P : Program} {w : World} {K : PySem.W.Frag} {mg : Str → Option Value} {base : Heap}
/-- a list of ways that are new -/
def WaysF (H0 H : Hp) (xs : List V) (ws : List Way) : Prop := Paired (fun (x : V) (v : Way) => ∃ l, x = V.ref l ∧ H0 l = none ∧ LstT H l (v.map PyData.int)) xs ws
theorem WaysF.lk {H0 H H' : Hp} {xs : List V} {ws : List Way} (k : Lk H H') (h : WaysF H0 H xs ws) : WaysF H0 H' xs ws := Paired.mapP h fun _ _ ⟨l, a, b, c⟩ => ⟨l, a, b, c.lk k⟩
theorem WaysF.at {H0 H : Hp} {xs : List V} {ws : List Way} (h : WaysF H0 H xs ws) : WaysAt H xs ws := Paired.mapP h fun _ _ ⟨l, a, b, c⟩ => ⟨l, a, c⟩
theorem ends_take {goal : Int} {W : Ways} {i : Nat} {p : State × Way} (h : W[i]? = some p) : endsF goal (W.take (i + 1)) = endsF goal (W.take i) ++ (if decide (p.1.1 = goal) = true then [p.2] else []) := filt_take h (fun p => decide (p.1.1 = goal)) (·.2)
theorem ends_len (goal : Int) (W : Ways) : (endsF goal W).length ≤ W.length := by
  unfold endsF
  rw [List.length_map]
  exact List.length_filter_le _ _
/-- the ends, from a dict that stands locked -/
theorem ends_lc {σ : L2.St} {H0 H : Hp} {d : Addr} {L : List Ent} {W : Ways} {od : Obj} {j0 j1 j : Nat} {goal : Int} {Q : VK} (hD : SD P w H d L) (hE : EntsW H0 H L W) (hnd : (keysW W).Nodup) (hz : W.length ≤ 2000) (hj : j < σ.length)
    (h0 : ∀ x, ((wipe σ [j]).set j (some x))[j0]? = some (some (.ref d))) (h00 : σ[j0]? = some (some (.ref d))) (h1 : ∀ x, ((wipe σ [j]).set j (some x))[j1]? = some (some (.int goal))) (hw : ∀ x, wipe ((wipe σ [j]).set j (some x)) [j] = wipe σ [j])
    (q : ∀ Dl xs H', H Dl = none → Ex (Mz.del H d) H' → H' d = some (.frz od (DN P w d L)) → H' Dl = some (.lst xs) → WaysF H0 H' xs (endsF goal W) → Q (.ref Dl) H') :
    tLc (iKeysN P w (tVar j0)) (gName j) (tTest (tOp rEq (tOp (rIxT K) (tVar j) (tC (.int 0))) (tVar j1))) (tOp (rGetN P w) (tVar j0) (tVar j)) [j] σ (upd H d (.frz od (DN P w d L))) Q := by
  refine lc_keysN h00 upd_same fun Dl hDl => ?_
  have hDd : Dl ≠ d := fun z => by
    subst z
    rw [upd_same] at hDl
    cases hDl
  have hDn : H Dl = none := by rw [L2.upd_ne hDd] at hDl; exact hDl
  obtain ⟨B, eB⟩ : ∃ B, Mz.del H d = B := ⟨_, rfl⟩
  have hBD : B Dl = none := by rw [← eB]; exact del_fresh hDn
  have hBd : B d = none := by rw [← eB]; exact del_none
  have hkB : KeysT B L := by rw [← eB]; exact hD.2.tk (tk_del hD.ext)
  have hEB : EntsW H0 B L W := by rw [← eB]; exact hE.lk (Lk.del hD.ext)
  have eBu : Ex B (upd H d (.frz od (DN P w d L))) := Ex.mut (by rw [← eB]; exact del_ex) hBd
  have hLn : (L.map (·.1)).Nodup := by rw [hE.keys]; exact hnd
  refine ⟨fun i H' => H' d = some (.frz od (DN P w d L)) ∧ Ex B H' ∧ ∃ xs, H' Dl = some (.lst xs) ∧ WaysF H0 B xs (endsF goal (W.take i)), ⟨by rw [L2.upd_ne (fun z => hDd z.symm)]; exact upd_same, Ex.mut eBu hBD, [], upd_same, .nil⟩, fun i H' h => h.1, fun i en H' hen hP => ?_, fun H' hP => ?_⟩
  · obtain ⟨hlk, eB', xs, hxs, hW⟩ := hP
    obtain ⟨⟨s, v⟩, hWi, hes, l, hval, hl0, hlT⟩ := hEB.get hen
    have hget := getN_at hLn hen
    obtain ⟨s2, kb, kv⟩ := en
    simp only at hes hval hget
    subst hes
    subst hval
    have hx : Td B (.ref kb) (stateD s2) := hkB _ (List.mem_of_getElem? hen)
    obtain ⟨u0, t0, ev0⟩ := td_item (K := K) (j := 0) hx rfl
    cases t0
    have hvar : ∀ {H3 : Hp}, Ev (tVar j) ((wipe σ [j]).set j (some (.ref kb))) H3 (.ref kb) := ev_var (List.getElem?_set_self (by rw [wipe_length]; exact hj))
    have hr : ∀ {H3 : Hp}, Ex H' H3 → SDr P w H3 d L := fun e => ⟨.inr ⟨od, e _ _ hlk⟩, hkB.tk (Tk.ex (eB'.trans e))⟩
    refine ⟨hw _, ?_⟩
    refine (et_test (b := decide (s2.1 = goal)) (ev_op (ev0 eB' hvar ev_c) (ev_var (h1 _)) rv_eqI) : EvT _ _ H' _) H' (Ex.refl H') _ fun H3 e3 => ?_
    have hWl : xs.length = (endsF goal (W.take i)).length := Paired.length hW
    have hil : i < W.length := (List.getElem?_eq_some_iff.mp hWi).1
    have hel := ends_len goal (W.take i)
    by_cases c : s2.1 = goal
    · rw [decide_eq_true c, if_pos rfl]
      refine ev_getR (ev_var (h0 _)) hvar (hx.ex (eB'.trans e3)) (hr e3) hget H3 (Ex.refl H3) _ fun H4 e4 => ⟨xs, e4 _ _ (e3 _ _ hxs), sz_lt ?_, ?_, Ex.mut ((eB'.trans e3).trans e4) hBD, _, upd_same, ?_⟩
      · rw [List.length_take] at hel
        omega
      · rw [L2.upd_ne (fun z => hDd z.symm)]
        exact e4 _ _ (e3 _ _ hlk)
      · rw [ends_take hWi, if_pos (decide_eq_true c)]
        exact Paired.snoc hW ⟨l, rfl, hl0, hlT⟩
    · rw [decide_eq_false c, if_neg (by simp)]
      refine ⟨e3 _ _ hlk, eB'.trans e3, xs, e3 _ _ hxs, ?_⟩
      rw [ends_take hWi, if_neg (by simpa using c), List.append_nil]
      exact hW
  · obtain ⟨hlk, eB', xs, hxs, hW⟩ := hP
    rw [hE.len, List.take_length] at hW
    exact q Dl xs H' hDn (by rw [eB]; exact eB') hlk hxs (hW.lk (Lk.ex eB'))
theorem ep_minW {σ : L2.St} {H : Hp} {ta : TE} {a : Addr} {xs : List V} {ws : List Way} (h : Ev ta σ H (.ref a)) (ha : H a = some (.lst xs)) (hw : WaysAt H xs ws) : EvP (tCKw (rMinW K) (tCons ta tNil) (tCons (tC .non) tNil)) σ H (fun v _ => (ws = [] ∧ v = .non) ∨ ∃ (i : Nat) (l : Addr) (x : Way), xs[i]? = some (V.ref l) ∧ ws[i]? = some x ∧ minW ws = some x ∧ v = V.ref l) := fun H1 e Q q => h H1 e _ fun H2 e2 =>
  ⟨a, xs, ws, rfl, rfl, SqL.of ((e.trans e2) _ _ ha), Paired.mapP hw fun _ _ ⟨l, e1, t⟩ => ⟨l, e1, t.ex (e.trans e2)⟩, fun z => q _ H2 e2 (.inl ⟨z, rfl⟩), fun i l v h1 h2 h3 => q _ H2 e2 (.inr ⟨i, l, v, h1, h2, h3, rfl⟩)⟩
def sp_least (P : Program) (w : World) (K : PySem.W.Frag) : Sp := fun vs H Q _ => ∃ (d : Addr) (goal : Int) (H0 : Hp) (L : List Ent) (W : Ways), vs = [.ref d, .int goal] ∧ SD P w H d L ∧ EntsW H0 H L W ∧ (keysW W).Nodup ∧ W.length ≤ 2000 ∧
  (bestF goal W = none → ∀ H2, Ex H H2 → Q .non H2) ∧ (∀ v l H2, bestF goal W = some v → Ex H H2 → H0 l = none → LstT H2 l (v.map PyData.int) → Q (.ref l) H2)
theorem ok_least (T : Txt K mg) : Kept P w K mg base 1 "least" ["ways", "goal"] (sp_least P w K) := by
  refine T.d_least.kept sc_least (fun vs H Q E h => ?_) (fun cdv A outer s H vs Q E hr h => ?_)
  · obtain ⟨d, goal, H0, L, W, rfl, _⟩ := h
    rfl
  · obtain ⟨d, goal, H0, L, W, rfl, hD, hE, hnd, hz, q0, q⟩ := h
    refine ⟨_, (pss_cons (ps_lock (ps_setLc (i := 2) (own := [("state", 3)]) (g := gName 3) rfl sc_least.nd rfl rfl (sw_true rfl rfl rfl (by decide +kernel)) (pi_keysN (P := P) (w := w) rfl rfl (pv 0)) (blkOk_by (own := [("state", 3)]) (N := ["ways", "goal", "walks", "state"]) (sc := defScope s_least) (by decide +kernel)) (fun _ _ _ _ _ => (pg_name (i := 3) sc_least.nd rfl (Or.inl rfl))) (fun _ _ _ _ _ => pts_one (pt_cmpR op_eq (pe_ix (ix_tup_K (K := K) rfl) (pv 3) pe_int (fun _ _ => rfl)) (pv 1) (nomark _))) (fun _ _ _ _ _ => (pe_dgetN (P := P) (w := w) rfl rfl hr.units (pv 0) (pv 3) (fun _ _ => rfl)))))
      (pss_one (ps_ret (pe_callBK (cr_minW (K := K) rfl rfl hr.units) (by rfl) T.n_min (by decide +kernel) (pa_cons (pv 2) pa_nil) (pk_cons pe_non pk_nil))))), ?_⟩
    refine q_lockAsg (P := P) (w := w) hD fun od => ends_lc (K := K) (σ := [some (.ref d), some (.int goal), none, none]) (j0 := 0) (j1 := 1) (j := 3) (goal := goal) hD hE hnd hz (by simp) (fun x => rfl) rfl (fun x => rfl) (fun x => rfl) fun Dl xs H' nDl eH' hlk hxs hW => ⟨hlk, ?_⟩
    have eH : Ex H (upd H' d (DN P w d L)) := ex_lock hD.1 eH'
    have hne : Dl ≠ d := ne_of hxs hlk (fun z => by cases z)
    have hxu : upd H' d (DN P w d L) Dl = some (.lst xs) := by rw [L2.upd_ne hne]; exact hxs
    have hWu := hW.lk (Lk.frz (o := DN P w d L) hlk)
    refine s_retP (ep_minW (ws := endsF goal W) (ev_var rfl) hxu hWu.at) fun v H1 e1 hv => ?_
    rcases hv with ⟨hv, rfl⟩ | ⟨i, l, x, h1, h2, h3, rfl⟩
    · exact q0 (by unfold bestF; rw [hv]; rfl) H1 (eH.trans e1)
    · obtain ⟨x2, hx2, l2, el, hl0, hlT⟩ := L2.paired_get hWu h1
      rw [h2] at hx2
      cases hx2
      cases el
      exact q x l H1 h3 (eH.trans e1) hl0 (hlT.ex e1)
end

section
variable {P : Program} {w : World} {K : PySem.W.Frag} {mg : Str → Option Value} {base : Heap}
/-- states of the maze, once each -/
def FV (n : Int) (F : Ways) : Prop := (keysW F).Nodup ∧ ∀ s ∈ keysW F, VS n s
theorem FV.len {n : Int} {F : Ways} (h : FV n F) (hn : n ≤ 60) : F.length ≤ 1920 := by
  have := vs_len h.1 h.2
  rw [List.length_map] at this
  omega
theorem FV.nil (n : Int) : FV n [] := ⟨by simp, fun s h => by simp at h⟩
theorem FV.add {n : Int} {S : List State} {v : Way} {F : Ways} {o : State} (h : FV n F) (ho : VS n o) : FV n (addW S v F o) := ⟨addW_nodup h.1, fun s hs => by
  rw [keys_addW] at hs
  split at hs
  · exact h.2 s hs
  · split at hs
    · exact h.2 s hs
    · rcases List.mem_append.mp hs with h1 | h1
      · exact h.2 s h1
      · simp at h1
        subst h1
        exact ho⟩
/-- a way put, as the program and the law put it -/
theorem ents_same {H0 H : Hp} {L : List Ent} {F : Ways} {S : List State} {v : Way} {o : State} (h : EntsW H0 H L F) (c : o ∈ S) : EntsW H0 H L (addW S v F o) := by
  unfold addW
  rw [if_pos c]
  exact h
def sp_onward (P : Program) (w : World) (K : PySem.W.Frag) : Sp := fun vs H Q _ => ∃ (v : V) (d e : Addr) (H0 : Hp) (n : Int) (ds : List Door) (ks : List Key2) (L : List Ent) (W : Ways) (S : List State), vs = [v, .ref d, .ref e] ∧ Dp K H v (mazeF n ds ks) ∧ DoorsOk n ds ∧ n ≤ 60 ∧ SD P w H d L ∧ EntsW H0 H L W ∧ SeenK P w H e S ∧ e ≠ d ∧ Ex H0 H ∧ H0 d = none ∧ H0 e = none ∧
  FV n W ∧ S.Nodup ∧ (∀ s ∈ S, VS n s) ∧ (∀ p ∈ W, p.2.length ≤ 2000) ∧
  ∀ p L2 H2, H p = none → Ex (del H e) H2 → SD P w H2 p L2 → EntsW H0 H2 L2 (onwardF ds ks W S) → SeenK P w H2 e (S ++ keysW (onwardF ds ks W S)) → Q (.ref p) H2
theorem onward_fv {n : Int} {ds : List Door} {ks : List Key2} (hw : ∀ d ∈ ds, WfD n d) (W : Ways) (S : List State) : FV n (onwardF ds ks W S) := ⟨onward_nodup ds ks W S, fun s h => by
  obtain ⟨_, p, _, h2⟩ := onward_keys.mp h
  exact vs_steps hw s h2⟩
theorem ok_onward (T : Txt K mg) : Kept P w K mg base 4 "onward" ["maze", "ways", "seen"] (sp_onward P w K) := by
  refine T.d_onward.kept sc_onward (fun vs H Q E h => ?_) (fun cdv A outer s H vs Q E hr h => ?_)
  · obtain ⟨v, d, e, H0, n, ds, ks, L, W, S, rfl, _⟩ := h
    rfl
  · obtain ⟨v, d, e, H0, n, ds, ks, L, W, S, rfl, hm, hok, hn60, hD, hE, hSe, hed, e0, nd0, ne0, hFW, hSn, hvS, hwl, q⟩ := h
    refine ⟨_, (pss_cons (ps_set (i := 3) sc_onward.nd rfl (Or.inl rfl) (pe_dnewN (P := P) (w := w) rfl rfl))
      (pss_cons (ps_lock (ps_for (passes_of rfl) rfl (pi_keysN (P := P) (w := w) rfl rfl (pv 1)) (pg_name (i := 4) sc_onward.nd rfl (Or.inl rfl))
        (pss_one (ps_for (passes_of rfl) rfl (pi_list_K (K := K) rfl (pe_fn (ok_steps (K := K) T) (hr.mono (by decide)) (passR (takes_of rfl rfl rfl rfl)) (by rfl) (pa_cons (pv 0) (pa_cons (pe_ix (ix_tup_K (K := K) rfl) (pv 4) pe_int (fun _ _ => rfl)) (pa_cons (pe_ix (ix_tup_K (K := K) rfl) (pv 4) pe_int (fun _ _ => rfl)) pa_nil))))) (pg_name (i := 5) sc_onward.nd rfl (Or.inl rfl))
        (pss_one (ps_if (pt_cmpR (op_notInN (P := P) (w := w) rfl rfl hr.units) (pv 5) (pv 2) (by rfl))
        (pss_cons (ps_set (i := 6) sc_onward.nd rfl (Or.inl rfl) (pe_op op_cat (pe_dgetN (P := P) (w := w) rfl rfl hr.units (pv 1) (pv 4) (fun _ _ => rfl)) (pe_lst (pa_cons (pe_ix (ix_tup_K (K := K) rfl) (pv 5) pe_int (fun _ _ => rfl)) pa_nil))))
      (pss_one (ps_if (PW.pt (pw_or (pt_cmpR (op_notInN (P := P) (w := w) rfl rfl hr.units) (pv 5) (pv 3) (by rfl)) (pw_or1 (pt_cmpR (op_ltD hr.units) (pv 6) (pe_dgetN (P := P) (w := w) rfl rfl hr.units (pv 3) (pv 5) (fun _ _ => rfl)) (nomark _)))))
        (pss_one (ps_asg (pv 6) (pg_sub (pv 3) (pv 5) (set_dN (P := P) (w := w) rfl rfl hr.units))))
        pss_nil)))
        pss_nil))))))
      (pss_cons (ps_lock (ps_for (passes_of rfl) rfl (pi_keysN (P := P) (w := w) rfl rfl (pv 3)) (pg_name (i := 4) sc_onward.nd rfl (Or.inl rfl))
        (pss_one (ps_asg pe_bl (pg_sub (pv 2) (pv 4) (set_dN (P := P) (w := w) rfl rfl hr.units))))))
      (pss_one (ps_ret (pv 3)))))), ?_⟩
    refine (show tSeq (tAsg (tDNewN P w) (gName 3)) _ _ _ _ from fun f nf => ?_)
    have e1 : Ex H (upd H f (DN P w f [])) := Ex.new nf
    have hF1 : SD P w (upd H f (DN P w f [])) f [] := ⟨upd_same, fun p hp => absurd hp (by simp)⟩
    have hfd : f ≠ d := fun z => by
      subst z
      have := hD.1
      rw [nf] at this
      cases this
    have hfe : f ≠ e := fun z => by
      subst z
      obtain ⟨φ, h⟩ := hSe.del_ext
      rw [nf] at h
      cases h
    obtain ⟨B, eB⟩ : ∃ B, del H d = B := ⟨_, rfl⟩
    have hBd : B d = none := by rw [← eB]; exact del_none
    have hBf : B f = none := by rw [← eB]; exact del_fresh nf
    have hmB : Dp K B v (mazeF n ds ks) := by rw [← eB]; exact dp_del hD.ext hm
    have hEB : EntsW H0 B L W := by rw [← eB]; exact hE.lk (Lk.del hD.ext)
    have hkB : KeysT B L := by rw [← eB]; exact hD.2.tk (tk_del hD.ext)
    have hSB : SeenK P w B e S := by rw [← eB]; exact hSe.delO hD.ext hed
    have e0B : Ex H0 B := by rw [← eB]; exact ex_del e0 nd0
    have eB1 : Ex B (upd H f (DN P w f [])) := by rw [← eB]; exact del_ex.trans e1
    have hLn : (L.map (·.1)).Nodup := by rw [hE.keys]; exact hFW.1
    refine q_forN (P := P) (w := w) (j := 1) (g := gName 4) (d := d) (L := L) rfl (hD.ex e1) fun od => ⟨fun i σ' H' => H' d = some (.frz od (DN P w d L)) ∧ Ex B H' ∧ ∃ y4 y5 y6 LF, σ' = [some v, some (.ref d), some (.ref e), some (.ref f), y4, y5, y6] ∧ SD P w H' f LF ∧ EntsW H0 H' LF ((W.take i).foldl (stepW ds ks S) []) ∧ FV n ((W.take i).foldl (stepW ds ks S) []), ⟨upd_same, Ex.mut eB1 hBd, none, none, none, [], rfl, hF1.updO (hD.ex e1).ext hfd, (show EntsW _ _ [] [] from Paired.nil), (show FV n [] from FV.nil n)⟩, fun i σ' H' h => h.1, fun i en σ' H' hen hP => ?_, fun σ' H' hP => ?_⟩
    · obtain ⟨hlk, eB', y4, y5, y6, LF, rfl, hF, hEF, hFV⟩ := hP
      obtain ⟨⟨s2, wv⟩, hWi, hes, l, hval, hl0, hlT⟩ := hEB.get hen
      have hgs := getN_at hLn hen
      obtain ⟨⟨room, held⟩, kb, kv⟩ := en
      simp only at hes hval hgs
      subst hes
      subst hval
      have hx : Td B (.ref kb) (stateD (room, held)) := hkB _ (List.mem_of_getElem? hen)
      obtain ⟨u0, t0, ev0⟩ := td_item (K := K) (j := 0) hx rfl
      obtain ⟨u1, t1, ev1⟩ := td_item (K := K) (j := 1) hx rfl
      cases t0
      have hvs : VS n (room, held) := hFW.2 _ (List.mem_map.mpr ⟨_, List.mem_of_getElem? hWi, rfl⟩)
      have hwvl : wv.length ≤ 2000 := hwl _ (List.mem_of_getElem? hWi)
      obtain ⟨F0, eF0⟩ : ∃ F0, (W.take i).foldl (stepW ds ks S) [] = F0 := ⟨_, rfl⟩
      have hnx : ∀ o ∈ nextS ds ks (room, held), VS n o := vs_steps hok.1
      have hfold := fold_take (stepW ds ks S) [] hWi
      rw [eF0] at hEF hFV hfold
      show tFor _ _ _ _ _ _
      refine s_forEL (K := K) (g := gName 5) (lt_stepsC (ea_cons (ev_var rfl) (ea_cons (ev0 eB' (ev_var rfl) ev_c) (ea_cons (ev1 eB' (ev_var rfl) ev_c) ea_nil))) (dp_ex eB' hmB) (t1.ex eB').dp hok hvs.1) fun pp xs H2 npp e2 hpp hpd => ⟨fun j σ' H'' => H'' d = some (.frz od (DN P w d L)) ∧ Ex B H'' ∧ H'' pp = some (.lst xs) ∧ Tk H2 H'' ∧ ∃ y5 y6 LF, σ' = [some v, some (.ref d), some (.ref e), some (.ref f), some (.ref kb), y5, y6] ∧ SD P w H'' f LF ∧ EntsW H0 H'' LF (((nextS ds ks (room, held)).take j).foldl (addW S wv) F0) ∧ FV n (((nextS ds ks (room, held)).take j).foldl (addW S wv) F0), ⟨e2 _ _ hlk, eB'.trans e2, hpp, Tk.refl _, y5, y6, LF, rfl, hF.ex e2, hEF.lk (Lk.ex e2), hFV⟩, fun j σ' H'' hP => ⟨hP.2.2.1, hP.2.2.2.1⟩, fun j dt x' σ' H'' hdj hx' hP => ?_, fun σ' H'' hP => ?_⟩
      · obtain ⟨hlk2, eB2, hpp2, tk2, y5, y6, LF, rfl, hF, hEF, hFV⟩ := hP
        rw [List.getElem?_map] at hdj
        obtain ⟨o, ho1, rfl⟩ := Option.map_eq_some_iff.mp hdj
        have hon : o ∈ nextS ds ks (room, held) := List.mem_of_getElem? ho1
        obtain ⟨ob, rfl⟩ : ∃ b, x' = .ref b := by
          have hx2 := hx'
          unfold stateD at hx2
          cases hx2
          exact ⟨_, rfl⟩
        obtain ⟨F, eF⟩ : ∃ F, ((nextS ds ks (room, held)).take j).foldl (addW S wv) F0 = F := ⟨_, rfl⟩
        have hfold2 := fold_take (addW S wv) F0 ho1
        rw [eF] at hEF hFV hfold2
        have hFl := hFV.len hn60
        have hLFl := hEF.len
        have hFV2 := hFV.add (S := S) (v := wv) (hnx o hon)
        have hr2 : ∀ {H3 : Hp}, Ex H'' H3 → SDr P w H3 d L := fun e => ⟨.inr ⟨od, e _ _ hlk2⟩, hkB.tk (Tk.ex (eB2.trans e))⟩
        show tIfS _ _ _ _ _ _
        refine s_when (b := !decide (o ∈ S)) (et_test (ev_niS (ev_var rfl) (ev_var rfl) hx' (hSB.ex eB2))) (fun hb H3 e3 => ?_) (fun hb H3 e3 => ⟨e3 _ _ hlk2, eB2.trans e3, e3 _ _ hpp2, tk2.trans (Tk.ex e3), _, _, LF, rfl, hF.ex e3, by rw [hfold2]; exact ents_same (hEF.lk (Lk.ex e3)) (by simpa using hb), by rw [hfold2]; exact hFV2⟩)
        · rw [← hfold2] at hFV2
          have hno : o ∉ S := by simpa using hb
          have hxo := hx'.ex e3
          obtain ⟨u2, t2, ev2⟩ := td_item (K := K) (j := 0) hxo rfl
          cases t2
          have eB3 := eB2.trans e3
          refine q_asgLT (ds := (wv ++ [o.1]).map PyData.int) (by rw [List.map_append]; exact lt_cat (ev_getR (ev_var rfl) (ev_var rfl) (hx.ex eB3) (hr2 e3) hgs) (hlT.ex eB3) (lt_lst (ea_tc (td_int (ev2 (Ex.refl _) (ev_var rfl) ev_c)) ea_tn) (by simp)) (by simp; omega)) fun ll H4 nll e4 hll => ?_
          have eB4 := eB3.trans e4
          have e34 := e3.trans e4
          have nll0 : H0 ll = none := fresh_back (e0B.trans eB3) nll
          have fin : ∀ (H5 : Hp), Ex H4 H5 → H5 f = some (DN P w f LF) → SD P w (upd H5 f (DN P w f (putN LF o ob (.ref ll)))) f (putN LF o ob (.ref ll)) → addW S wv F o = putW F o (wv ++ [o.1]) →
              upd H5 f (DN P w f (putN LF o ob (.ref ll))) d = some (.frz od (DN P w d L)) ∧ Ex B (upd H5 f (DN P w f (putN LF o ob (.ref ll)))) ∧ upd H5 f (DN P w f (putN LF o ob (.ref ll))) pp = some (.lst xs) ∧ Tk H2 (upd H5 f (DN P w f (putN LF o ob (.ref ll)))) ∧ ∃ y5 y6 LF', [some v, some (V.ref d), some (V.ref e), some (V.ref f), some (V.ref kb), some (V.ref ob), some (V.ref ll)] = [some v, some (V.ref d), some (V.ref e), some (V.ref f), some (V.ref kb), y5, y6] ∧ SD P w (upd H5 f (DN P w f (putN LF o ob (.ref ll)))) f LF' ∧ EntsW H0 (upd H5 f (DN P w f (putN LF o ob (.ref ll)))) LF' (((nextS ds ks (room, held)).take (j + 1)).foldl (addW S wv) F0) ∧ FV n (((nextS ds ks (room, held)).take (j + 1)).foldl (addW S wv) F0) := fun H5 e5 h5 hF5 ha => by
            have e35 := e34.trans e5
            have hpp5 := e35 _ _ hpp2
            have hxt : H5 f = some (.ext fun h => RawN P w h f LF) := h5
            refine ⟨by rw [L2.upd_ne (fun z => hfd z.symm)]; exact e35 _ _ hlk2, Ex.mut (eB4.trans e5) hBf, by rw [L2.upd_ne (ne_of hpp5 h5 (fun z => by cases z))]; exact hpp5, (tk2.trans (Tk.ex e35)).trans (Tk.ext hxt), _, _, _, rfl, hF5, ?_, hFV2⟩
            rw [hfold2, ha]
            exact ((hEF.lk (Lk.ex e35)).put nll0 (hll.ex e5)).lk (Lk.ext hxt)
          have hF4 := hF.ex e34
          cases hg : getW F o with
          | none =>
            have ha : addW S wv F o = putW F o (wv ++ [o.1]) := by unfold addW; rw [if_neg hno, hg]
            have hhas : hasN LF o = false := by rw [hasN_get, hEF.noW hg]; rfl
            refine s_when (b := true) (et_or (b := true) (et_test (ev_is (ev_niN (ev_var rfl) (ev_var rfl) (hxo.ex e4) hF4) (by rw [hhas, Bool.not_false]))) (fun z => Bool.noConfusion z)) (fun _ H5 e5 => ?_) (fun z => Bool.noConfusion z)
            exact s_setN (hF4.ex e5) (v := .ref ll) (ev_var rfl) (ev_var rfl) (ev_var rfl) ((hxo.ex e4).ex e5) (by omega) fun H6 e6 h6 hF6 => fin H6 (e5.trans e6) h6 hF6 ha
          | some v0 =>
            obtain ⟨l0, hg0, hl00, hl0T⟩ := hEF.gotW hg
            have hhas : hasN LF o = true := by rw [hasN_get, hg0]; rfl
            refine s_when (b := (!hasN LF o) || decide (wv ++ [o.1] < v0)) (et_or (et_test (ev_niN (ev_var rfl) (ev_var rfl) (hxo.ex e4) hF4)) (fun _ => et_test (ev_is (ev_ltD (d := intlD (wv ++ [o.1])) (e := intlD v0) (ep_ev (ev_var rfl) fun H5 e5 => .inr ⟨ll, _, rfl, rfl, hll.ex e5⟩) (ep_ev (ev_getN (ev_var rfl) (ev_var rfl) (hxo.ex e4) hF4 hg0) fun H5 e5 => .inr ⟨l0, _, rfl, rfl, hl0T.ex (e34.trans e5)⟩) (alike_way _ _) (fun z => by cases z) (by have := dep_way (wv ++ [o.1]); omega)) (by rw [dataLt_way])))) (fun hb2 H5 e5 => ?_) (fun hb2 H5 e5 => ?_)
            · have hlt : wv ++ [o.1] < v0 := by
                rw [hhas] at hb2
                simpa using hb2
              have ha : addW S wv F o = putW F o (wv ++ [o.1]) := by unfold addW; rw [if_neg hno, hg]; simp only [if_pos hlt]
              exact s_setN (hF4.ex e5) (v := .ref ll) (ev_var rfl) (ev_var rfl) (ev_var rfl) ((hxo.ex e4).ex e5) (by omega) fun H6 e6 h6 hF6 => fin H6 (e5.trans e6) h6 hF6 ha
            · have hlt : ¬ wv ++ [o.1] < v0 := by
                rw [hhas] at hb2
                simpa using hb2
              have ha : addW S wv F o = F := by unfold addW; rw [if_neg hno, hg]; simp only [if_neg hlt]
              have e35 := e34.trans e5
              exact ⟨e35 _ _ hlk2, eB4.trans e5, e35 _ _ hpp2, tk2.trans (Tk.ex e35), _, _, LF, rfl, hF.ex e35, by rw [hfold2, ha]; exact hEF.lk (Lk.ex e35), hFV2⟩
      · obtain ⟨hlk2, eB2, hpp2, tk2, y5, y6, LF, rfl, hF, hEF, hFV⟩ := hP
        rw [List.length_map, List.take_length] at hEF hFV
        exact ⟨hlk2, eB2, _, _, _, LF, rfl, hF, by rw [hfold]; exact hEF, by rw [hfold]; exact hFV⟩
    · obtain ⟨hlk, eB', y4, y5, y6, LF, rfl, hF, hEF, hFV⟩ := hP
      rw [hE.len, List.take_length] at hEF hFV
      obtain ⟨F, eF⟩ : ∃ F, onwardF ds ks W S = F := ⟨_, rfl⟩
      have eF2 : W.foldl (stepW ds ks S) [] = F := eF
      rw [eF2] at hEF hFV
      rw [eF] at q
      obtain ⟨Hx, eHx⟩ : ∃ Hx, upd H' d (DN P w d L) = Hx := ⟨_, rfl⟩
      have eHHx : Ex H Hx := by rw [← eHx]; exact ex_lock hD.1 (by rw [eB]; exact eB')
      have hFx : SD P w Hx f LF := by rw [← eHx]; exact hF.updF hlk hfd
      have hEx : EntsW H0 Hx LF F := by rw [← eHx]; exact hEF.lk (Lk.frz hlk)
      have hSx : SeenK P w Hx e S := hSe.ex eHHx
      rw [eHx]
      have hef : e ≠ f := fun z => hfe z.symm
      obtain ⟨B2, eB2⟩ : ∃ B2, del (del Hx f) e = B2 := ⟨_, rfl⟩
      have hB2e : B2 e = none := by rw [← eB2]; exact del_none
      have hB2f : B2 f = none := by rw [← eB2, del_ne hfe]; exact del_none
      obtain ⟨φe, hφe⟩ := (hSx.delO (d := f) hFx.ext hef).del_ext
      have hkB2 : KeysT B2 LF := by rw [← eB2]; exact (hFx.2.tk (tk_del hFx.ext)).tk (tk_del hφe)
      have hEB2 : EntsW H0 B2 LF F := by rw [← eB2]; exact (hEx.lk (Lk.del hFx.ext)).lk (Lk.del hφe)
      have eB2x : Ex B2 Hx := by rw [← eB2]; exact del_ex.trans del_ex
      have hkeys := hEx.keys
      refine q_forN (P := P) (w := w) (j := 3) (g := gName 4) (d := f) (L := LF) rfl hFx fun od2 => ⟨fun i σ' H'' => H'' f = some (.frz od2 (DN P w f LF)) ∧ Ex B2 H'' ∧ ∃ y4 y5 y6, σ' = [some v, some (.ref d), some (.ref e), some (.ref f), y4, y5, y6] ∧ SeenK P w H'' e (S ++ (keysW F).take i), ⟨upd_same, Ex.mut eB2x hB2f, _, _, _, rfl, by simpa using hSx.updX hFx.ext hef⟩, fun i σ' H'' h => h.1, fun i en σ' H'' hen hP => ?_, fun σ' H'' hP => ?_⟩
      · obtain ⟨hlk2, eB3, y4, y5, y6, rfl, hS3⟩ := hP
        have hki : (keysW F)[i]? = some en.1 := by rw [← hkeys, List.getElem?_map, hen]; rfl
        have hx : Td B2 (.ref en.2.1) (stateD en.1) := hkB2 _ (List.mem_of_getElem? hen)
        have hkm : en.1 ∈ keysW F := List.mem_of_getElem? hki
        have hnS : en.1 ∉ S := by
          rw [← eF] at hkm
          exact (onward_keys.mp hkm).1
        have hil : i < (keysW F).length := (List.getElem?_eq_some_iff.mp hki).1
        have hnt : en.1 ∉ (keysW F).take i := fun z => by
          have hn := hFV.1
          have e5 : keysW F = (keysW F).take i ++ en.1 :: (keysW F).drop (i + 1) := by
            have := (List.getElem?_eq_some_iff.mp hki).2
            rw [← this, ← List.drop_eq_getElem_cons hil, List.take_append_drop]
          rw [e5, List.nodup_append] at hn
          exact hn.2.2 _ z _ (by simp) rfl
        have hnew : en.1 ∉ S ++ (keysW F).take i := fun z => (List.mem_append.mp z).elim hnS hnt
        have hlen := hFV.len hn60
        have hSl := vs_len hSn hvS
        have htl : ((keysW F).take i).length ≤ 1920 := by rw [List.length_take, List.length_map]; omega
        show tAsg _ _ _ _ _
        refine s_setS hS3 (v := .bl true) ev_c (ev_var rfl) (ev_var rfl) (hx.ex eB3) (by rw [List.length_append]; omega) fun H3 φ o e3 h3 hS4 => ⟨by rw [L2.upd_ne hfe]; exact e3 _ _ hlk2, Ex.mut (eB3.trans e3) hB2e, _, _, _, rfl, ?_⟩
        rw [if_neg hnew] at hS4
        have : (keysW F).take (i + 1) = (keysW F).take i ++ [en.1] := by rw [List.take_succ, hki]; rfl
        rw [this, ← List.append_assoc]
        exact hS4
      · obtain ⟨hlk2, eB3, y4, y5, y6, rfl, hS3⟩ := hP
        have hl : LF.length = (keysW F).length := by rw [← hkeys, List.length_map]
        rw [hl, List.take_length] at hS3
        have hHe : Ex (del H e) (upd H'' f (DN P w f LF)) := fun b o hb => by
          have hbe : b ≠ e := fun z => by
            subst z
            rw [del_none] at hb
            cases hb
          rw [del_ne hbe] at hb
          have hbf : b ≠ f := fun z => by
            subst z
            rw [nf] at hb
            cases hb
          rw [L2.upd_ne hbf]
          refine eB3 b o ?_
          rw [← eB2, del_ne hbe, del_ne hbf]
          exact eHHx _ _ hb
        have eB2u : Ex B2 (upd H'' f (DN P w f LF)) := Ex.mut eB3 hB2f
        refine s_ret (ev_var rfl) fun H3 e3 => q f LF H3 nf (hHe.trans e3) ⟨e3 _ _ upd_same, hkB2.tk (Tk.ex (eB2u.trans e3))⟩ (hEB2.lk (Lk.ex (eB2u.trans e3))) ((hS3.updF hlk2 hef).ex e3)
end

/-! ### rooms that one may come to, in plain -/
def optV : Option Int → V
  | none => .non
  | some i => .int i
def moreD (rooms held : List Int) (d : Door) : Option Int :=
  if opensF d held = true then (if d.1 ∈ rooms ∧ d.2.1 ∉ rooms then some d.2.1 else if d.2.1 ∈ rooms ∧ d.1 ∉ rooms then some d.1 else none) else none
def moreF (ds : List Door) (rooms held : List Int) : Option Int := ds.findSome? (moreD rooms held)
/-- the kinds that lie in the rooms -/
def heldOf (ks : List Key2) (rooms : List Int) : List Int := kindsOf fun i => decide (∃ r ∈ rooms, (r, (i : Int)) ∈ ks)
theorem heldOf_nil (ks : List Key2) : heldOf ks [] = [] := by
  have : heldOf ks [] = kindsOf fun _ => false := kindsOf_congr fun i _ => by simp
  rw [this]
  rfl
theorem taken_heldOf (ks : List Key2) (rooms : List Int) (r : Int) : takenF ks r (heldOf ks rooms) = heldOf ks (rooms ++ [r]) := by
  unfold takenF
  refine kindsOf_congr fun i hi => ?_
  have h : ((i : Int) ∈ heldOf ks rooms) ↔ ∃ r ∈ rooms, (r, (i : Int)) ∈ ks := by
    unfold heldOf
    rw [mem_kinds hi]
    simp
  rw [Bool.eq_iff_iff]
  simp only [Bool.or_eq_true, decide_eq_true_eq, h, List.mem_append, List.mem_singleton]
  constructor
  · rintro (⟨r2, h1, h2⟩ | h1)
    · exact ⟨r2, .inl h1, h2⟩
    · exact ⟨r, .inr rfl, h1⟩
  · rintro ⟨r2, h1 | h1, h2⟩
    · exact .inl ⟨r2, h1, h2⟩
    · subst h1
      exact .inr h2
def lieF (ks : List Key2) (rooms : List Int) : Option Int → Bool
  | none => true
  | some k => decide (∃ r ∈ rooms, (r, k) ∈ ks)
theorem opens_heldOf {n : Int} {ks : List Key2} {rooms : List Int} {d : Door} (h : WfD n d) : opensF d (heldOf ks rooms) = lieF ks rooms d.2.2 := by
  obtain ⟨d1, d2, l⟩ := d
  cases l with
  | none => rfl
  | some k =>
    have hk := h.2.2
    simp [lockOk] at hk
    have hk2 : k.toNat < 5 := by omega
    have e : ((k.toNat : Nat) : Int) = k := by omega
    have h2 : (k ∈ heldOf ks rooms) ↔ ∃ r ∈ rooms, (r, k) ∈ ks := by
      have := mem_kinds (p := fun i => decide (∃ r ∈ rooms, (r, (i : Int)) ∈ ks)) hk2
      rw [e] at this
      unfold heldOf
      rw [this]
      simp [e]
    simp only [opensF, lieF, h2]
def dueD (ks : List Key2) (rooms : List Int) (d : Door) : Option Int :=
  if (!decide (decide (d.1 ∈ rooms) = decide (d.2.1 ∈ rooms))) = true then (if lieF ks rooms d.2.2 = true then some (d.1 + d.2.1 - (if d.1 ∈ rooms then d.1 else d.2.1)) else none) else none
def dueF (ds : List Door) (ks : List Key2) (rooms : List Int) : Option Int := ds.findSome? (dueD ks rooms)
theorem more_due {n : Int} {ks : List Key2} {rooms : List Int} {d : Door} (h : WfD n d) : moreD rooms (heldOf ks rooms) d = dueD ks rooms d := by
  unfold moreD dueD
  rw [opens_heldOf h]
  by_cases c1 : d.1 ∈ rooms <;> by_cases c2 : d.2.1 ∈ rooms <;> simp [c1, c2]
  all_goals (congr 1; try (congr 1; omega))
theorem findSome_congr {α β : Type} {f g : α → Option β} : ∀ {l : List α}, (∀ a ∈ l, f a = g a) → l.findSome? f = l.findSome? g
  | [], _ => rfl
  | a :: r, h => by
    rw [List.findSome?_cons, List.findSome?_cons, h a (by simp), findSome_congr fun b hb => h b (by simp [hb])]
theorem moreF_due {n : Int} {ds : List Door} {ks : List Key2} {rooms : List Int} (h : ∀ d ∈ ds, WfD n d) : moreF ds rooms (heldOf ks rooms) = dueF ds ks rooms := findSome_congr fun d hd => more_due (h d hd)
/-- a room more: it is there, and new -/
theorem moreF_some {n : Int} {ds : List Door} {rooms held : List Int} {r : Int} (h : ∀ d ∈ ds, WfD n d) (e : moreF ds rooms held = some r) : Here n r ∧ r ∉ rooms := by
  obtain ⟨d, hd, he⟩ := List.exists_of_findSome?_eq_some e
  have hw := h d hd
  unfold moreD at he
  split at he
  · split at he
    · rename_i c
      cases he
      exact ⟨hw.2.1, c.2⟩
    · split at he
      · rename_i c
        cases he
        exact ⟨hw.1, c.2⟩
      · cases he
  · cases he
/-- the rooms come to -/
structure ComeI (n : Int) (ds : List Door) (ks : List Key2) (start : Int) (R : List Int) : Prop where
  nd : R.Nodup
  hr : ∀ x ∈ R, Here n x
  fst : R[0]? = some start
  stp : ∀ k, 0 < k → k < R.length → dueF ds ks (R.take k) = R[k]?
def ComeOk (n : Int) (ds : List Door) (ks : List Key2) (start : Int) (R : List Int) : Prop := ComeI n ds ks start R ∧ dueF ds ks R = none
theorem ComeI.one {n : Int} {ds : List Door} {ks : List Key2} {start : Int} (h : Here n start) : ComeI n ds ks start [start] := ⟨by simp, fun x hx => by simp at hx; subst hx; exact h, rfl, fun k h1 h2 => by simp at h2; omega⟩
theorem ComeI.push {n : Int} {ds : List Door} {ks : List Key2} {start r : Int} {R : List Int} (h : ComeI n ds ks start R) (hw : ∀ d ∈ ds, WfD n d) (e : dueF ds ks R = some r) : ComeI n ds ks start (R ++ [r]) := by
  have e2 := e
  rw [← moreF_due (n := n) hw] at e2
  obtain ⟨hr, hn⟩ := moreF_some hw e2
  refine ⟨?_, ?_, ?_, ?_⟩
  · rw [List.nodup_append]
    refine ⟨h.nd, by simp, fun x hx y hy z => ?_⟩
    simp at hy
    subst hy
    subst z
    exact hn hx
  · intro x hx
    rcases List.mem_append.mp hx with h1 | h1
    · exact h.hr x h1
    · simp at h1
      subst h1
      exact hr
  · rw [List.getElem?_append_left (by have := List.getElem?_eq_some_iff.mp h.fst; exact this.1)]
    exact h.fst
  · intro k h1 h2
    rw [List.length_append, List.length_singleton] at h2
    by_cases c : k < R.length
    · rw [List.take_append_of_le_length (by omega), List.getElem?_append_left c]
      exact h.stp k h1 c
    · have : k = R.length := by omega
      subst this
      rw [List.take_left' rfl]
      simp [e]
theorem ComeI.len {n : Int} {ds : List Door} {ks : List Key2} {start : Int} {R : List Int} (h : ComeI n ds ks start R) : R.length ≤ n.toNat ∧ 0 < R.length := ⟨here_len h.nd h.hr, (List.getElem?_eq_some_iff.mp h.fst).1⟩
theorem come_take {n : Int} {ds : List Door} {ks : List Key2} {start : Int} {R S : List Int} (h : ComeI n ds ks start R) (q : ComeI n ds ks start S) : ∀ k, k ≤ R.length → k ≤ S.length → R.take k = S.take k
  | 0, _, _ => by simp
  | k + 1, h1, h2 => by
    have ih := come_take h q k (by omega) (by omega)
    rw [List.take_succ, List.take_succ, ih]
    congr 2
    cases k with
    | zero => rw [h.fst, q.fst]
    | succ k => rw [← h.stp (k + 1) (by omega) (by omega), ← q.stp (k + 1) (by omega) (by omega), ih]
theorem come_uniq {n : Int} {ds : List Door} {ks : List Key2} {start : Int} {R S : List Int} (h : ComeOk n ds ks start R) (q : ComeOk n ds ks start S) : R = S := by
  have key : ∀ {R S : List Int}, ComeOk n ds ks start R → ComeOk n ds ks start S → ¬ R.length < S.length := by
    intro R S h q hl
    have e := come_take h.1 q.1 R.length (by omega) (by omega)
    rw [List.take_length] at e
    have e2 := q.1.stp R.length h.1.len.2 hl
    rw [← e, h.2, List.getElem?_eq_getElem hl] at e2
    cases e2
  have h1 := key h q
  have h2 := key q h
  have e := come_take h.1 q.1 R.length (by omega) (by omega)
  rw [List.take_length] at e
  rw [e, show R.length = S.length by omega, List.take_length]

section
variable {P : Program} {w : World} {K : PySem.W.Frag} {mg : Str → Option Value} {base : Heap}
/-! ### a room more -/
def sp_room_more (K : PySem.W.Frag) : Sp := fun vs H Q _ => ∃ (v rv hv : V) (n : Int) (ds : List Door) (ks : List Key2) (rooms held : List Int), vs = [v, rv, hv] ∧ Dp K H v (mazeF n ds ks) ∧ Dp K H rv (.list (rooms.map PyData.int)) ∧ Dp K H hv (intsD held) ∧ ∀ H2, Ex H H2 → Q (optV (moreF ds rooms held)) H2
theorem fs_succ {α β : Type} {f : α → Option β} {l : List α} {i : Nat} {a : α} (h : l[i]? = some a) : (l.take (i + 1)).findSome? f = ((l.take i).findSome? f).or (f a) := by
  rw [List.take_succ, h, List.findSome?_append]
  cases (l.take i).findSome? f <;> simp
theorem fs_hit {α β : Type} {f : α → Option β} {l : List α} {i : Nat} {a : α} {r : β} (h : l[i]? = some a) (h0 : (l.take i).findSome? f = none) (hr : f a = some r) : l.findSome? f = some r := by
  have e : l = l.take (i + 1) ++ l.drop (i + 1) := (List.take_append_drop (i + 1) l).symm
  rw [e, List.findSome?_append, fs_succ h, h0, hr]
  rfl
theorem ok_room_more (T : Txt K mg) : Kept P w K mg base 2 "room_more" ["maze", "rooms", "held"] (sp_room_more K) := by
  refine T.d_room_more.kept sc_room_more (fun vs H Q E h => ?_) (fun cdv A outer s H vs Q E hr h => ?_)
  · obtain ⟨v, rv, hv, n, ds, ks, rooms, held, rfl, _⟩ := h
    rfl
  · obtain ⟨v, rv, hv, n, ds, ks, rooms, held, rfl, hm, hrv, hh, q⟩ := h
    refine ⟨_, (pss_cons (ps_for (passes_of rfl) rfl (pi_list_K (K := K) rfl (pe_ix (ix_tup_K (K := K) rfl) (pv 0) pe_int (fun _ _ => rfl))) (pg_name (i := 3) sc_room_more.nd rfl (Or.inl rfl))
        (pss_one (ps_if (pt_val (pe_fn (ok_opens (K := K) T) (hr.mono (by decide)) passL (by rfl) (pa_cons (pv 3) (pa_cons (pv 2) pa_nil))))
        (pss_cons (ps_if (PW.pt (pw_and (pt_cmpR (op_in_seq_K (K := K) rfl) (pe_ix (ix_tup_K (K := K) rfl) (pv 3) pe_int (fun _ _ => rfl)) (pv 1) (by rfl)) (pw_and1 (pt_cmpR (op_notIn_seq_K (K := K) rfl) (pe_ix (ix_tup_K (K := K) rfl) (pv 3) pe_int (fun _ _ => rfl)) (pv 1) (by rfl)))))
        (pss_one (ps_ret (pe_ix (ix_tup_K (K := K) rfl) (pv 3) pe_int (fun _ _ => rfl))))
        pss_nil)
      (pss_one (ps_if (PW.pt (pw_and (pt_cmpR (op_in_seq_K (K := K) rfl) (pe_ix (ix_tup_K (K := K) rfl) (pv 3) pe_int (fun _ _ => rfl)) (pv 1) (by rfl)) (pw_and1 (pt_cmpR (op_notIn_seq_K (K := K) rfl) (pe_ix (ix_tup_K (K := K) rfl) (pv 3) pe_int (fun _ _ => rfl)) (pv 1) (by rfl)))))
        (pss_one (ps_ret (pe_ix (ix_tup_K (K := K) rfl) (pv 3) pe_int (fun _ _ => rfl))))
        pss_nil)))
        pss_nil)))
      (pss_one (ps_ret pe_non))), ?_⟩
    obtain ⟨dv, hdv, edv⟩ := dp_item hm atI1
    refine q_forV (edv (Ex.refl H) (ev_var rfl) ev_c) hdv (Ex.refl H) (fun i σ' H' => Ex H H' ∧ ∃ y, σ' = [some v, some rv, some hv, y] ∧ (ds.take i).findSome? (moreD rooms held) = none) (fun H3 e3 => ⟨e3, none, rfl, rfl⟩) (fun i σ' H' hP => hP.1) (fun i d x σ' H' hdi hx hP => ?_) (fun σ' H' hP => ?_)
    · obtain ⟨eH, y, rfl, hno⟩ := hP
      rw [List.getElem?_map] at hdi
      obtain ⟨⟨d1, d2, d3⟩, hd1, rfl⟩ := Option.map_eq_some_iff.mp hdi
      have hit : ∀ r, moreD rooms held (d1, d2, d3) = some r → moreF ds rooms held = some r := fun r hr => fs_hit hd1 hno hr
      have miss : moreD rooms held (d1, d2, d3) = none → (ds.take (i + 1)).findSome? (moreD rooms held) = none := fun hr => by rw [fs_succ hd1, hno, hr]; rfl
      have x0 : ∀ {σ : L2.St} {H' : Hp}, Ex H H' → σ[3]? = some (some x) → Ev (tOp (rIxT K) (tVar 3) (tC (.int 0))) σ H' (.int d1) := fun e h => ev_of_ed (ed_ixT (ed_any (ev_var h) (dp_ex e hx)) ev_c atI0)
      have x1 : ∀ {σ : L2.St} {H' : Hp}, Ex H H' → σ[3]? = some (some x) → Ev (tOp (rIxT K) (tVar 3) (tC (.int 1))) σ H' (.int d2) := fun e h => ev_of_ed (ed_ixT (ed_any (ev_var h) (dp_ex e hx)) ev_c atI1)
      show tIfS _ _ _ _ _ _
      refine s_when (b := opensF (d1, d2, d3) held) (et_B (ev_call0 (ea_cons (ev_var rfl) (ea_cons (ev_var rfl) ea_nil)) (sv_opens (dp_ex eH hx) (dp_ex eH hh)))) (fun hb H3 e3 => ?_) (fun hb H3 e3 => ⟨eH.trans e3, _, rfl, miss (by unfold moreD; rw [hb]; rfl)⟩)
      have eH3 := eH.trans e3
      refine q_when (b := decide (d1 ∈ rooms) && !decide (d2 ∈ rooms)) (et_and (et_test (ev_inI (x0 eH3 rfl) (.inr (ed_any (ev_var rfl) (dp_ex eH3 hrv))))) fun _ => et_test (ev_niI (x1 eH3 rfl) (.inr (ed_any (ev_var rfl) (dp_ex eH3 hrv))))) (fun hb2 H4 e4 => ?_) (fun hb2 H4 e4 => ?_)
      · have hr : moreF ds rooms held = some d2 := hit d2 (by
          simp only [Bool.and_eq_true, decide_eq_true_eq, Bool.not_eq_true', decide_eq_false_iff_not] at hb2
          unfold moreD
          rw [if_pos hb, if_pos hb2])
        rw [hr] at q
        exact s_ret (x1 (eH3.trans e4) rfl) fun H5 e5 => q H5 ((eH3.trans e4).trans e5)
      have eH4 := eH3.trans e4
      refine s_when (b := decide (d2 ∈ rooms) && !decide (d1 ∈ rooms)) (et_and (et_test (ev_inI (x1 eH4 rfl) (.inr (ed_any (ev_var rfl) (dp_ex eH4 hrv))))) fun _ => et_test (ev_niI (x0 eH4 rfl) (.inr (ed_any (ev_var rfl) (dp_ex eH4 hrv))))) (fun hb3 H5 e5 => ?_) (fun hb3 H5 e5 => ⟨eH4.trans e5, _, rfl, miss ?_⟩)
      · have hr : moreF ds rooms held = some d1 := hit d1 (by
          simp only [Bool.and_eq_true, decide_eq_true_eq, Bool.not_eq_true', decide_eq_false_iff_not] at hb3
          have hb2' : ¬ (d1 ∈ rooms ∧ d2 ∉ rooms) := fun z => hb3.2 z.1
          unfold moreD
          rw [if_pos hb, if_neg hb2', if_pos hb3])
        rw [hr] at q
        exact s_ret (x0 (eH4.trans e5) rfl) fun H6 e6 => q H6 ((eH4.trans e5).trans e6)
      · have hb2' : ¬ (d1 ∈ rooms ∧ d2 ∉ rooms) := fun z => by simp [z.1, z.2] at hb2
        have hb3' : ¬ (d2 ∈ rooms ∧ d1 ∉ rooms) := fun z => by simp [z.1, z.2] at hb3
        unfold moreD
        rw [if_pos hb, if_neg hb2', if_neg hb3']
    · obtain ⟨eH, y, rfl, hno⟩ := hP
      rw [List.length_map, List.take_length] at hno
      have hr : moreF ds rooms held = none := hno
      rw [hr] at q
      exact s_ret ev_c fun H3 e3 => q H3 (eH.trans e3)
theorem sv_room_more {H : Hp} {v rv hv : V} {n : Int} {ds : List Door} {ks : List Key2} {rooms held : List Int} (hm : Dp K H v (mazeF n ds ks)) (hrv : Dp K H rv (.list (rooms.map PyData.int))) (hh : Dp K H hv (intsD held)) : SpV (sp_room_more K) [v, rv, hv] H (optV (moreF ds rooms held)) := fun H1 e Q q E => ⟨v, rv, hv, n, ds, ks, rooms, held, rfl, dp_ex e hm, dp_ex e hrv, dp_ex e hh, q⟩
/-! ### come -/
def sp_come (K : PySem.W.Frag) : Sp := fun vs H Q E => ∃ (v : V) (n start : Int) (ds : List Door) (ks : List Key2), vs = [v, .int start] ∧ Dp K H v (mazeF n ds ks) ∧ DoorsOk n ds ∧ n ≤ 60 ∧
  (Here n start → ∀ R, ComeOk n ds ks start R → ∀ p H2, H p = none → Ex H H2 → LstT H2 p (R.map PyData.int) → Q (.ref p) H2) ∧ (¬ Here n start → ∀ H2, Ex H H2 → E (cNoRoom K) none H2)
theorem td_unit {σ : L2.St} {H : Hp} : EvTd (tTup tNil) σ H (intsD []) := td_tup (ds := []) ea_tn (by simp)
theorem ok_come (T : Txt K mg) : Kept P w K mg base 3 "come" ["maze", "start"] (sp_come K) := by
  refine T.d_come.kept sc_come (fun vs H Q E h => ?_) (fun cdv A outer s H vs Q E hr h => ?_)
  · obtain ⟨v, n, start, ds, ks, rfl, _⟩ := h
    rfl
  · obtain ⟨v, n, start, ds, ks, rfl, hm, hok, hn60, q, qe⟩ := h
    refine ⟨_, (pss_cons (ps_expr (pe_fn (ok_need_room (K := K) T) (hr.mono (by decide)) (passR (takes_of rfl rfl rfl rfl)) (by rfl) (pa_cons (pv 0) (pa_cons (pv 1) pa_nil))))
      (pss_cons (ps_set (i := 2) sc_come.nd rfl (Or.inl rfl) (pe_lst (pa_cons (pv 1) pa_nil)))
      (pss_cons (ps_set (i := 3) sc_come.nd rfl (Or.inl rfl) (pe_fn (ok_taken (K := K) T) (hr.mono (by decide)) (passR (takes_of rfl rfl rfl rfl)) (by rfl) (pa_cons (pv 0) (pa_cons (pv 1) (pa_cons (pe_tup pa_nil) pa_nil)))))
      (pss_cons (ps_set (i := 4) sc_come.nd rfl (Or.inl rfl) (pe_fn (ok_room_more (K := K) T) (hr.mono (by decide)) passL (by rfl) (pa_cons (pv 0) (pa_cons (pv 2) (pa_cons (pv 3) pa_nil)))))
      (pss_cons (ps_while (passes_of rfl) (pt_cmpR op_notN (pv 4) pe_non (nomark _))
        (pss_cons (ps_expr (pe_bm_K (K := K) rfl PySem.F.plainAttrs_list PySem.F.slot_list_append PySem.F.type_list_append mt_append (pv 2) (pa_cons (pv 4) pa_nil)))
      (pss_cons (ps_set (i := 3) sc_come.nd rfl (Or.inl rfl) (pe_fn (ok_taken (K := K) T) (hr.mono (by decide)) (passR (takes_of rfl rfl rfl rfl)) (by rfl) (pa_cons (pv 0) (pa_cons (pv 4) (pa_cons (pv 3) pa_nil)))))
      (pss_one (ps_set (i := 4) sc_come.nd rfl (Or.inl rfl) (pe_fn (ok_room_more (K := K) T) (hr.mono (by decide)) passL (by rfl) (pa_cons (pv 0) (pa_cons (pv 2) (pa_cons (pv 3) pa_nil)))))))))
      (pss_one (ps_ret (pv 2)))))))), ?_⟩
    refine ⟨_, rfl, _, rfl, v, n, start, _, rfl, hm, fun hst H1 e1 => ?_, qe⟩
    dsimp only
    refine q_asgLT (ds := ([start] : List Int).map PyData.int) (lt_lst (ea_tc (td_int (ev_var rfl)) ea_tn) (by simp)) fun l H2 nl e2 hl => ?_
    have nlH : H l = none := fresh_back e1 nl
    have e12 := e1.trans e2
    refine q_asgP (P := fun v H' => Td H' v (intsD (heldOf ks [start]))) ?_ fun hv H3 e3 hhv => ?_
    · intro H3 e3 Q' q'
      refine ea_pv (R := fun vs H' => ∃ hv, vs = [v, .int start, hv] ∧ Td H' hv (intsD [])) (ev_var rfl) (fun H4 e4 => ea_pv (ev_var rfl) fun H5 e5 => ea_pc td_unit fun u H6 e6 hu => ea_pn fun H7 e7 => ⟨u, rfl, hu.ex e7⟩) H3 e3 _ fun vs H4 e4 hvs => ?_
      obtain ⟨hv, rfl, hhv⟩ := hvs
      refine ⟨v, hv, n, start, _, ks, [], rfl, dp_ex ((e12.trans e3).trans e4) hm, hhv.dp, fun _ v H5 e5 p => q' v H5 (e4.trans e5) ?_, fun z => absurd hst z⟩
      have := taken_heldOf ks [] start
      rw [heldOf_nil] at this
      rw [this] at p
      exact p
    have e13 := e12.trans e3
    have hl3 := hl.ex e3
    refine q_asg (v := optV (moreF ds [start] (heldOf ks [start]))) (ev_call0 (ea_cons (ev_var rfl) (ea_cons (ev_var rfl) (ea_cons (ev_var rfl) ea_nil))) (sv_room_more (dp_ex e13 hm) hl3.dp hhv.dp)) fun H4 e4 => ?_
    have e14 := e13.trans e4
    refine q_while (fun m σ' H' => Ex H H' ∧ ∃ (R : List Int) (hv : V), σ' = [some v, some (.int start), some (.ref l), some hv, some (optV (moreF ds R (heldOf ks R)))] ∧ LstT H' l (R.map PyData.int) ∧ Td H' hv (intsD (heldOf ks R)) ∧ ComeI n ds ks start R ∧ m = 100 - R.length) 99 ⟨e14, [start], hv, rfl, hl3.ex e4, hhv.ex e4, ComeI.one hst, rfl⟩ fun m σ' H5 hW => ?_
    obtain ⟨eH, R, hv, rfl, hL, hhv, hI, rfl⟩ := hW
    have hlen := hI.len
    cases hmo : moreF ds R (heldOf ks R) with
    | none =>
      refine ⟨false, ?_, (fun z => by cases z), fun _ H6 e6 => ?_⟩
      · exact et_test (ev_is (ev_notN (ev_var rfl)) (by simp [optV]))
      · refine s_ret (ev_var rfl) fun H7 e7 => q hst R ⟨hI, ?_⟩ l H7 nlH ((eH.trans e6).trans e7) (hL.ex (e6.trans e7))
        rw [← moreF_due (n := n) hok.1]
        exact hmo
    | some r =>
      obtain ⟨hhr, hnr⟩ := moreF_some hok.1 hmo
      refine ⟨true, ?_, fun _ H6 e6 => ⟨fun σ' H' => Ex H H' ∧ ∃ (hv : V), σ' = [some v, some (.int start), some (.ref l), some hv, some (optV (moreF ds (R ++ [r]) (heldOf ks (R ++ [r]))))] ∧ LstT H' l ((R ++ [r]).map PyData.int) ∧ Td H' hv (intsD (heldOf ks (R ++ [r]))) ∧ ComeI n ds ks start (R ++ [r]), fun σ2 H' hN => ?_, ?_⟩, (fun z => by cases z)⟩
      · exact et_test (ev_is (ev_notN (ev_var rfl)) (by simp [optV]))
      · obtain ⟨eN, hv2, rfl, h1, h2, h3⟩ := hN
        exact ⟨100 - (R ++ [r]).length, by rw [List.length_append, List.length_singleton]; omega, eN, _, hv2, rfl, h1, h2, h3, rfl⟩
      · have hI2 := hI.push hok.1 (by rw [← moreF_due (n := n) hok.1]; exact hmo)
        refine q_appT (d := .int r) (hL.ex e6) (ev_var rfl) (td_int (ev_var rfl)) (by rw [List.length_map]; omega) fun H7 xs v7 e7 hx7 hp7 => ?_
        have eHu : Ex H (upd H7 l (.lst (xs ++ [v7]))) := Ex.mut ((eH.trans e6).trans e7) nlH
        have hhvu : Td (upd H7 l (.lst (xs ++ [v7]))) hv (intsD (heldOf ks R)) := (hhv.ex (e6.trans e7)).upd hx7
        have hLu : LstT (upd H7 l (.lst (xs ++ [v7]))) l ((R ++ [r]).map PyData.int) := by rw [List.map_append]; exact hp7
        refine q_asgP (P := fun v H' => Td H' v (intsD (heldOf ks (R ++ [r])))) (by rw [← taken_heldOf]; exact td_takenC (ea_cons (ev_var rfl) (ea_cons (ev_var rfl) (ea_cons (ev_var rfl) ea_nil))) (dp_ex eHu hm) hhvu.dp hhr) fun hv2 H8 e8 hhv2 => ?_
        refine s_asg (v := optV (moreF ds (R ++ [r]) (heldOf ks (R ++ [r])))) (ev_call0 (ea_cons (ev_var rfl) (ea_cons (ev_var rfl) (ea_cons (ev_var rfl) ea_nil))) (sv_room_more (dp_ex (eHu.trans e8) hm) (hLu.ex e8).dp hhv2.dp)) fun H9 e9 => ⟨(eHu.trans e8).trans e9, hv2, rfl, hLu.ex (e8.trans e9), hhv2.ex e9, hI2⟩
end

section
variable {P : Program} {w : World} {K : PySem.W.Frag} {mg : Str → Option Value} {base : Heap}
theorem q_asgG {σ : L2.St} {H : Hp} {te : TE} {tz : TS} {D : Ends} {g : TG} {Pd : V → Hp → Prop} (h : EvP te σ H Pd) (k : ∀ v H1, Ex H H1 → Pd v H1 → g v σ H1 (fun σ2 H2 => tz D σ2 H2)) : tSeq (tAsg te g) tz D σ H := h H (Ex.refl H) _ fun v H1 e p => k v H1 e p
theorem q_dispT {σ : L2.St} {H : Hp} {ta tb : TE} {tz : TS} {D : Ends} {k : State} {v : V} {i : Nat} (hk : EvTd ta σ H (stateD k)) (hv : ∀ H1, Ex H H1 → Ev tb σ H1 v) (kk : ∀ p b H1, H p = none → Ex H H1 → SD P w H1 p [(k, b, v)] → tz D (σ.set i (some (.ref p))) H1) : tSeq (tAsg (tDispN P w ta tb) (gName i)) tz D σ H := fun p np => by
  have e1 := Ex.new (o := DN P w p []) np
  refine (hk.mono e1) _ (Ex.refl _) _ fun x H1 e2 t => hv H1 (e1.trans e2) H1 (Ex.refl H1) _ fun H2 e3 => ?_
  have hx : ∃ b, x = .ref b := by unfold stateD at t; cases t; exact ⟨_, rfl⟩
  obtain ⟨b, rfl⟩ := hx
  refine ⟨b, k, rfl, t.ex e3, (e2.trans e3) _ _ upd_same, ?_⟩
  have hp : H2 p = some (DN P w p []) := (e2.trans e3) _ _ upd_same
  refine kk p b _ np (Ex.mut ((e1.trans e2).trans e3) np) ⟨upd_same, fun q hq => ?_⟩
  simp at hq
  subst hq
  exact (t.ex e3).tk (Tk.ext hp)
theorem lt_l_stepsC {σ : L2.St} {H : Hp} {tr : TA} {E : XK} {dv lv hv : V} {room : Int} {ds : List Door} {ks : List Key2} {held : List Int} (h : EvA tr σ H [dv, lv, .int room, hv]) (hd : Dp K H dv (.list (ds.map doorD))) (hm : Dp K H lv (.list (ks.map keyD))) (hh : Dp K H hv (intsD held)) (hl : ds.length ≤ 1000) : EvLT (tCall (sp_l_steps K) [] E tr) σ H ((stepsF ds ks room held).map stateD) := fun H1 e Q q => h H1 e _ fun H2 e2 => ⟨dv, lv, hv, room, ds, ks, held, rfl, dp_ex (e.trans e2) hd, dp_ex (e.trans e2) hm, dp_ex (e.trans e2) hh, hl, fun p H3 np e3 hp => q p H3 (fresh_back e2 np) (e2.trans e3) hp⟩
end

section
variable {P : Program} {w : World} {K : PySem.W.Frag} {mg : Str → Option Value} {base : Heap}
/-! ### the keys of rooms -/
def sp_handp (K : PySem.W.Frag) : Sp := fun vs H Q _ => ∃ (v rv : V) (n : Int) (ds : List Door) (ks : List Key2) (rooms : List Int), vs = [v, rv] ∧ Dp K H v (mazeF n ds ks) ∧ Dp K H rv (.list (rooms.map PyData.int)) ∧ (∀ r ∈ rooms, Here n r) ∧ ∀ u H2, Ex H H2 → Td H2 u (intsD (heldOf ks rooms)) → Q u H2
theorem ok_hand (T : Txt K mg) : Kept P w K mg base 3 "hand" ["maze", "rooms"] (sp_handp K) := by
  refine T.d_hand.kept sc_hand (fun vs H Q E h => ?_) (fun cdv A outer s H vs Q E hr h => ?_)
  · obtain ⟨v, rv, n, ds, ks, rooms, rfl, _⟩ := h
    rfl
  · obtain ⟨v, rv, n, ds, ks, rooms, rfl, hm, hrv, hh, q⟩ := h
    refine ⟨_, (pss_cons (ps_set (i := 2) sc_hand.nd rfl (Or.inl rfl) (pe_tup pa_nil))
      (pss_cons (ps_for (passes_of rfl) rfl (pi_list_K (K := K) rfl (pv 1)) (pg_name (i := 3) sc_hand.nd rfl (Or.inl rfl))
        (pss_one (ps_set (i := 2) sc_hand.nd rfl (Or.inl rfl) (pe_fn (ok_taken (K := K) T) (hr.mono (by decide)) (passR (takes_of rfl rfl rfl rfl)) (by rfl) (pa_cons (pv 0) (pa_cons (pv 3) (pa_cons (pv 2) pa_nil)))))))
      (pss_one (ps_ret (pv 2))))), ?_⟩
    refine q_asgP (P := fun u H' => Td H' u (intsD [])) td_unit0 fun u H1 e1 hu => ?_
    refine q_forV (K := K) (g := gName 3) (ev_var rfl) hrv e1 (fun i σ' H' => Ex H H' ∧ ∃ u y, σ' = [some v, some rv, some u, y] ∧ Td H' u (intsD (heldOf ks (rooms.take i)))) (fun H2 e2 => ⟨e1.trans e2, u, none, rfl, by rw [List.take_zero, heldOf_nil]; exact hu.ex e2⟩) (fun i σ' H' hP => hP.1) (fun i d x σ' H' hdi hx hP => ?_) (fun σ' H' hP => ?_)
    · obtain ⟨eH, u, y, rfl, hu⟩ := hP
      rw [List.getElem?_map] at hdi
      obtain ⟨r, hri, rfl⟩ := Option.map_eq_some_iff.mp hdi
      cases dp_int_inv hx
      show tAsg _ _ _ _ _
      refine s_asgP (P := fun u H' => Td H' u (intsD (takenF ks r (heldOf ks (rooms.take i))))) (td_takenC (ea_cons (ev_var rfl) (ea_cons (ev_var rfl) (ea_cons (ev_var rfl) ea_nil))) (dp_ex eH hm) hu.dp (hh r (List.mem_of_getElem? hri))) fun u2 H2 e2 hu2 => ⟨eH.trans e2, u2, _, rfl, ?_⟩
      have e : rooms.take (i + 1) = rooms.take i ++ [r] := by rw [List.take_succ, hri]; rfl
      rw [e, ← taken_heldOf]
      exact hu2
    · obtain ⟨eH, u, y, rfl, hu⟩ := hP
      rw [List.length_map, List.take_length] at hu
      exact s_ret (ev_var rfl) fun H3 e3 => q u H3 (eH.trans e3) (hu.ex e3)
theorem td_handC {σ : L2.St} {H : Hp} {tr : TA} {E : XK} {v rv : V} {n : Int} {ds : List Door} {ks : List Key2} {rooms : List Int} (h : EvA tr σ H [v, rv]) (hm : Dp K H v (mazeF n ds ks)) (hrv : Dp K H rv (.list (rooms.map PyData.int))) (hh : ∀ r ∈ rooms, Here n r) : EvTd (tCall (sp_handp K) [] E tr) σ H (intsD (heldOf ks rooms)) := fun H1 e Q q => h H1 e _ fun H2 e2 => ⟨v, rv, n, ds, ks, rooms, rfl, dp_ex (e.trans e2) hm, dp_ex (e.trans e2) hrv, hh, fun u H3 e3 hu => q u H3 (e2.trans e3) hu⟩
/-! ### the guide -/
def sp_guide (K : PySem.W.Frag) : Sp := fun vs H Q E => ∃ (v : V) (n start goal : Int) (ds : List Door) (ks : List Key2), vs = [v, .int start, .int goal] ∧ Dp K H v (mazeF n ds ks) ∧ DoorsOk n ds ∧ n ≤ 60 ∧
  (Here n start → Here n goal → (∀ t r p l H2, FirstAt ds ks start goal t r → H l = none → Ex H H2 → H2 p = some (.tup [.str "walk", .ref l]) → LstT H2 l (r.map PyData.int) → Q (.ref p) H2) ∧
    (∀ t R p l hv H2, NoneAt ds ks start goal t → ComeOk n ds ks start R → H l = none → Ex H H2 → H2 p = some (.tup [.str "shut", .ref l, hv]) → LstT H2 l (R.map PyData.int) → Td H2 hv (intsD (heldOf ks R)) → Q (.ref p) H2)) ∧
  (¬ (Here n start ∧ Here n goal) → ∀ H2, Ex H H2 → E (cNoRoom K) none H2)
theorem ok_guide (T : Txt K mg) : Kept P w K mg base 5 "guide" ["maze", "start", "goal"] (sp_guide K) := by
  refine T.d_guide.kept sc_guide (fun vs H Q E h => ?_) (fun cdv A outer s H vs Q E hr h => ?_)
  · obtain ⟨v, n, start, goal, ds, ks, rfl, _⟩ := h
    rfl
  · obtain ⟨v, n, start, goal, ds, ks, rfl, hm, hok, hn60, q, qe⟩ := h
    refine ⟨_, (pss_cons (ps_expr (pe_fn (ok_need_room (K := K) T) (hr.mono (by decide)) (passR (takes_of rfl rfl rfl rfl)) (by rfl) (pa_cons (pv 0) (pa_cons (pv 1) pa_nil))))
      (pss_cons (ps_expr (pe_fn (ok_need_room (K := K) T) (hr.mono (by decide)) (passR (takes_of rfl rfl rfl rfl)) (by rfl) (pa_cons (pv 0) (pa_cons (pv 2) pa_nil))))
      (pss_cons (ps_set (i := 3) sc_guide.nd rfl (Or.inl rfl) (pe_tup (pa_cons (pv 1) (pa_cons (pe_fn (ok_taken (K := K) T) (hr.mono (by decide)) (passR (takes_of rfl rfl rfl rfl)) (by rfl) (pa_cons (pv 0) (pa_cons (pv 1) (pa_cons (pe_tup pa_nil) pa_nil)))) pa_nil))))
      (pss_cons (ps_set (i := 4) sc_guide.nd rfl (Or.inl rfl) (pe_dispN (P := P) (w := w) rfl rfl hr.units (pv 3) pe_bl))
      (pss_cons (ps_set (i := 5) sc_guide.nd rfl (Or.inl rfl) (pe_dispN (P := P) (w := w) rfl rfl hr.units (pv 3) (pe_lst (pa_cons (pv 1) pa_nil))))
      (pss_cons (ps_while (passes_of rfl) (pt_cmpR op_gt (pe_callB (call_lenN (P := P) (w := w) rfl rfl) (by rfl) T.n_len (by decide +kernel) (pa_cons (pv 5) pa_nil)) pe_int (nomark _))
        (pss_cons (ps_set (i := 6) sc_guide.nd rfl (Or.inl rfl) (pe_fn (ok_least (K := K) T) (hr.mono (by decide)) passL (by rfl) (pa_cons (pv 5) (pa_cons (pv 2) pa_nil))))
      (pss_cons (ps_if (pt_cmpR op_notN (pv 6) pe_non (nomark _))
        (pss_one (ps_ret (pe_tup (pa_cons pe_str (pa_cons (pv 6) pa_nil)))))
        pss_nil)
      (pss_one (ps_set (i := 5) sc_guide.nd rfl (Or.inl rfl) (pe_fn (ok_onward (K := K) T) (hr.mono (by decide)) (passR (takes_of rfl rfl rfl rfl)) (by rfl) (pa_cons (pv 0) (pa_cons (pv 5) (pa_cons (pv 4) pa_nil)))))))))
      (pss_cons (ps_set (i := 7) sc_guide.nd rfl (Or.inl rfl) (pe_fn (ok_come (K := K) T) (hr.mono (by decide)) (passR (takes_of rfl rfl rfl rfl)) (by rfl) (pa_cons (pv 0) (pa_cons (pv 1) pa_nil))))
      (pss_one (ps_ret (pe_tup (pa_cons pe_str (pa_cons (pv 7) (pa_cons (pe_fn (ok_hand (K := K) T) (hr.mono (by decide)) (passR (takes_of rfl rfl rfl rfl)) (by rfl) (pa_cons (pv 0) (pa_cons (pv 7) pa_nil))) pa_nil))))))))))))), ?_⟩
    refine ⟨_, rfl, _, rfl, v, n, start, _, rfl, hm, fun hst H1 e1 => ?_, fun z H1 e1 => qe (fun hh => z hh.1) H1 e1⟩
    refine ⟨_, rfl, _, rfl, v, n, goal, _, rfl, dp_ex e1 hm, fun hgo H2 e2 => ?_, fun z H2 e2 => qe (fun hh => z hh.2) H2 (e1.trans e2)⟩
    obtain ⟨qw, qs⟩ := q hst hgo
    dsimp only
    have e12 := e1.trans e2
    refine q_asgP (P := fun u H' => Td H' u (stateD (firstS ks start))) (td_state (ev_var rfl) (td_takenU (ev_var rfl) (ev_var rfl) (dp_ex e12 hm) hst)) fun fv H3 e3 hfv => ?_
    have e13 := e12.trans e3
    refine q_dispT (P := P) (w := w) (k := firstS ks start) (v := .bl true) (td_any (ev_var rfl) hfv) (fun _ _ => ev_c) fun e eb H4 ne e4 hSD => ?_
    have hSe : SeenK P w H4 e [firstS ks start] := ⟨_, hSD, rfl⟩
    have e14 := e13.trans e4
    have neH : H e = none := fresh_back e13 ne
    refine q_dispTL (P := P) (w := w) (k := firstS ks start) (ds := ([start] : List Int).map PyData.int) (td_any (ev_var rfl) (hfv.ex e4)) (fun H5 e5 => lt_lst (ea_tc (td_int (ev_var rfl)) ea_tn) (by simp)) fun d db l0 H5 nd nl0 hdl e5 hD hl0 => ?_
    have ndH : H d = none := fresh_back e14 nd
    have hed0 : e ≠ d := fun z => by
      subst z
      obtain ⟨φ, h⟩ := hSe.del_ext
      rw [nd] at h
      cases h
    have hfl : ∀ t, (wayAt ds ks start t).1.length ≤ 1920 := fun t => by have := (ways_len (ks := ks) hok.1 hst t).1; omega
    refine q_while (fun m σ' H' => ∃ (t : Nat) (d : Addr) (L : List Ent) (y6 y7 : Option V), σ' = [some v, some (.int start), some (.int goal), some fv, some (.ref e), some (.ref d), y6, y7] ∧ Ex H H' ∧ SD P w H' d L ∧ EntsW H H' L (wayAt ds ks start t).1 ∧ SeenK P w H' e (wayAt ds ks start t).2 ∧ e ≠ d ∧ H d = none ∧ (∀ u, u < t → bestF goal (wayAt ds ks start u).1 = none) ∧ m = 3000 - t) 3000
      ⟨0, d, _, none, none, rfl, e14.trans e5, hD, .cons ⟨rfl, l0, rfl, fresh_back e14 nl0, hl0⟩ .nil, hSe.ex e5, hed0, ndH, fun u hu => by omega, rfl⟩ fun m σ' H' hW => ?_
    obtain ⟨t, d, L, y6, y7, rfl, eH, hD, hE, hS, hed, ndH, hno, rfl⟩ := hW
    have hwi := wi_at (ks := ks) hok.1 hst t
    have hLl := hE.len
    refine ⟨decide ((0 : Int) < (L.length : Int)), et_test (ev_op (ev_lenN (ev_var rfl) hD.r) ev_c rv_I0), fun hb H6 e6 => ?_, fun hb H6 e6 => ?_⟩
    · have hne : (wayAt ds ks start t).1 ≠ [] := fun z => by
        rw [z] at hLl
        rw [hLl] at hb
        simp at hb
      have htl := ways_t (ks := ks) hok.1 hst hne
      refine ⟨fun σ' H' => ∃ (t2 : Nat) (d : Addr) (L : List Ent) (y6 y7 : Option V), t2 = t + 1 ∧ σ' = [some v, some (.int start), some (.int goal), some fv, some (.ref e), some (.ref d), y6, y7] ∧ Ex H H' ∧ SD P w H' d L ∧ EntsW H H' L (wayAt ds ks start t2).1 ∧ SeenK P w H' e (wayAt ds ks start t2).2 ∧ e ≠ d ∧ H d = none ∧ (∀ u, u < t2 → bestF goal (wayAt ds ks start u).1 = none), fun σ2 H2 hN => ?_, ?_⟩
      · obtain ⟨t2, d2, L2, y62, y72, ht2, h1, h2, h3, h4, h5, h6, h7, h8⟩ := hN
        exact ⟨3000 - t2, by omega, t2, d2, L2, y62, y72, h1, h2, h3, h4, h5, h6, h7, h8, rfl⟩
      refine q_asgA (vs := [.ref d, .int goal]) (ea_cons (ev_var rfl) (ea_cons (ev_var rfl) ea_nil)) fun H7 e7 => ⟨d, goal, H, L, (wayAt ds ks start t).1, rfl, hD.ex (e6.trans e7), hE.lk (Lk.ex (e6.trans e7)), hwi.nd, by have := hfl t; omega, fun hbn H8 e8 => ?_, fun r l H8 hbs e8 hl hlT => ?_⟩
      · have e68 := (e6.trans e7).trans e8
        refine q_when (b := false) (et_test (ev_is (ev_notN (ev_var rfl)) (by simp))) (fun z => Bool.noConfusion z) (fun _ H9 e9 => ?_)
        have e69 := e68.trans e9
        refine s_asgA (vs := [v, .ref d, .ref e]) (ea_cons (ev_var rfl) (ea_cons (ev_var rfl) (ea_cons (ev_var rfl) ea_nil))) fun H10 e10 => ?_
        have e610 := e69.trans e10
        refine ⟨v, d, e, H, n, ds, ks, L, (wayAt ds ks start t).1, (wayAt ds ks start t).2, rfl, dp_ex (eH.trans e610) hm, hok, hn60, hD.ex e610, hE.lk (Lk.ex e610), hS.ex e610, hed, eH.trans e610, ndH, neH, ⟨hwi.nd, fun s hs => ?_⟩, hwi.ns, hwi.vs, fun p hp => ?_, fun p Lz H11 np e11 hD2 hE2 hS2 => ?_⟩
        · obtain ⟨p, hp, rfl⟩ := List.mem_map.mp hs
          exact hwi.vs _ (hwi.sub p hp)
        · have := (hwi.low p hp).1
          omega
        · have hep : e ≠ p := fun z => by
            subst z
            obtain ⟨φ, h⟩ := (hS.ex e610).del_ext
            rw [np] at h
            cases h
          refine ⟨t + 1, p, Lz, _, _, rfl, rfl, (ex_del (eH.trans e610) neH).trans e11, hD2, hE2, hS2, hep, fresh_back (eH.trans e610) np, fun u hu => ?_⟩
          by_cases c : u < t
          · exact hno u c
          · have : u = t := by omega
            subst this
            exact hbn
      · have e68 := (e6.trans e7).trans e8
        refine q_when (b := true) (et_test (ev_is (ev_notN (ev_var rfl)) (by simp))) (fun _ H9 e9 => ?_) (fun z => Bool.noConfusion z)
        refine s_retP (ep_tupP (R := fun vs _ => vs = [.str "walk", .ref l]) (ea_pv ev_c fun H10 e10 => ea_pv (ev_var rfl) fun H11 e11 => ea_pn fun H12 e12 => rfl) (fun vs H' h => by rw [h]; simp)) fun u H10 e10 hu => ?_
        obtain ⟨p, vs, Hm, rfl, hp, _, _, rfl⟩ := hu
        exact qw t r p l H10 ⟨hno, hbs⟩ hl ((eH.trans e68).trans (e9.trans e10)) hp (hlT.ex (e9.trans e10))
    · have hnil : (wayAt ds ks start t).1 = [] := by
        have : L.length = 0 := by simp at hb; simpa using hb
        rw [this] at hLl
        exact List.eq_nil_of_length_eq_zero hLl.symm
      refine q_asgA (vs := [v, .int start]) (ea_cons (ev_var rfl) (ea_cons (ev_var rfl) ea_nil)) fun H7 e7 => ⟨v, n, start, ds, ks, rfl, dp_ex (eH.trans (e6.trans e7)) hm, hok, hn60, fun _ R hR l H8 nl e8 hl => ?_, fun z => absurd hst z⟩
      have e67 := eH.trans (e6.trans e7)
      have e68 := e67.trans e8
      refine s_retP (ep_tupP (R := fun vs H' => ∃ hv, vs = [.str "shut", .ref l, hv] ∧ Td H' hv (intsD (heldOf ks R))) (ea_pv ev_c fun H9 e9 => ea_pv (ev_var rfl) fun H10 e10 => ea_pc (td_handC (ea_cons (ev_var rfl) (ea_cons (ev_var rfl) ea_nil)) (dp_ex (e68.trans (e9.trans e10)) hm) (hl.ex (e9.trans e10)).dp hR.1.hr) fun hv H11 e11 hhv => ea_pn fun H12 e12 => ⟨hv, rfl, hhv.ex e12⟩) (fun vs H' h => by obtain ⟨hv, rfl, _⟩ := h; simp)) fun u H9 e9 hu => ?_
      obtain ⟨p, vs, Hm, rfl, hp, _, em, hv, rfl, hhv⟩ := hu
      exact qs t R p l hv H9 ⟨hno, hnil⟩ hR (fresh_back e67 nl) (e68.trans e9) hp (hl.ex e9) (hhv.ex em)
end

section
variable {P : Program} {w : World} {K : PySem.W.Frag} {mg : Str → Option Value} {base : Heap}
def sp_behind (P : Program) (w : World) (K : PySem.W.Frag) : Sp := fun vs H Q E => ∃ (v : V) (lp d : Addr) (n : Int) (ds : List Door) (ks : List Key2) (layer S : List State), vs = [v, .ref lp, .ref d] ∧ Dp K H v (mazeF n ds ks) ∧ LstT H lp (layer.map stateD) ∧ SeenK P w H d S ∧ DoorsOk n ds ∧ n ≤ 60 ∧ S.Nodup ∧ (∀ s ∈ S, VS n s) ∧ (∀ s ∈ layer, VS n s) ∧
  ∀ p H2, H p = none → Ex (del H d) H2 → SeenK P w H2 d (S ++ freshF ds ks S layer) → LstT H2 p ((sortS (freshF ds ks S layer)).map stateD) → Q (.ref p) H2
theorem flat_take {layer : List State} {ds : List Door} {ks : List Key2} {i : Nat} {s : State} (h : layer[i]? = some s) : (layer.take (i + 1)).flatMap (nextS ds ks) = (layer.take i).flatMap (nextS ds ks) ++ nextS ds ks s := by
  have e : layer.take (i + 1) = layer.take i ++ [s] := by rw [List.take_succ, h]; rfl
  rw [e, List.flatMap_append]
  simp
theorem ok_behind (T : Txt K mg) : Kept P w K mg base 4 "behind" ["maze", "layer", "seen"] (sp_behind P w K) := by
  refine T.d_behind.kept sc_behind (fun vs H Q E h => ?_) (fun cdv A outer s H vs Q E hr h => ?_)
  · obtain ⟨v, lp, d, n, ds, ks, layer, S, rfl, _⟩ := h
    rfl
  · obtain ⟨v, lp, d, n, ds, ks, layer, S, rfl, hm, hlp, hS, hok, hn60, hnd, hvS, hvl, q⟩ := h
    refine ⟨_, (pss_cons (ps_set (i := 3) sc_behind.nd rfl (Or.inl rfl) (pe_lst pa_nil))
      (pss_cons (ps_for (passes_of rfl) rfl (pi_list_K (K := K) rfl (pv 1)) (pg_name (i := 4) sc_behind.nd rfl (Or.inl rfl))
        (pss_one (ps_for (passes_of rfl) rfl (pi_list_K (K := K) rfl (pe_fn (ok_steps (K := K) T) (hr.mono (by decide)) (passR (takes_of rfl rfl rfl rfl)) (by rfl) (pa_cons (pv 0) (pa_cons (pe_ix (ix_tup_K (K := K) rfl) (pv 4) pe_int (fun _ _ => rfl)) (pa_cons (pe_ix (ix_tup_K (K := K) rfl) (pv 4) pe_int (fun _ _ => rfl)) pa_nil))))) (pg_name (i := 5) sc_behind.nd rfl (Or.inl rfl))
        (pss_one (ps_if (pt_cmpR (op_notInN (P := P) (w := w) rfl rfl hr.units) (pv 5) (pv 2) (by rfl))
        (pss_cons (ps_asg pe_bl (pg_sub (pv 2) (pv 5) (set_dN (P := P) (w := w) rfl rfl hr.units)))
      (pss_one (ps_expr (pe_bm_K (K := K) rfl PySem.F.plainAttrs_list PySem.F.slot_list_append PySem.F.type_list_append mt_append (pv 3) (pa_cons (pv 5) pa_nil)))))
        pss_nil)))))
      (pss_one (ps_ret (pe_callB (cr_sortedSt (K := K) rfl hr.units) (by rfl) T.n_sorted (by decide +kernel) (pa_cons (pv 3) pa_nil)))))), ?_⟩
    obtain ⟨φ, hφ⟩ := hS.del_ext
    have hm0 := dp_del hφ hm
    have hlp0 := hlp.del hφ
    have hd0 : del H d d = none := del_none
    have hvA : ∀ A : List State, (∀ s ∈ A, VS n s) → (S ++ newOf S A).length ≤ 1920 := fun A hA => by
      have := vs_len (nodup_newOf (A := A) hnd) (fresh_vs (ds := ds) (ks := ks) hok.1 hvS hA)
      omega
    refine q_asgLT (ds := ([] : List State).map stateD) (lt_lst ea_tn (by simp)) fun l H1 nl e1 hl => ?_
    have e01 : Ex (del H d) H1 := del_ex.trans e1
    have nl0 : del H d l = none := del_fresh nl
    refine q_forLT (K := K) (g := gName 4) (H0 := del H d) (ev_var rfl) hlp0 e01 (fun i σ' H' => Ex (del H d) H' ∧ ∃ y4 y5, σ' = [some v, some (.ref lp), some (.ref d), some (.ref l), y4, y5] ∧ SeenK P w H' d (S ++ newOf S ((layer.take i).flatMap (nextS ds ks))) ∧ LstT H' l ((newOf S ((layer.take i).flatMap (nextS ds ks))).map stateD)) (fun H2 e2 => ⟨e01.trans e2, none, none, rfl, by simpa [newOf] using hS.ex (e1.trans e2), by simpa [newOf] using hl.ex e2⟩) (fun i σ' H' hP => hP.1) (fun i dt x σ' H' hdi hx hP => ?_) (fun σ' H' hP => ?_)
    · obtain ⟨eH, y4, y5, rfl, hSe, hL⟩ := hP
      rw [List.getElem?_map] at hdi
      obtain ⟨⟨room, held⟩, hs1, rfl⟩ := Option.map_eq_some_iff.mp hdi
      have hvs := hvl _ (List.mem_of_getElem? hs1)
      obtain ⟨u0, t0, ev0⟩ := td_item (K := K) (j := 0) hx rfl
      obtain ⟨u1, t1, ev1⟩ := td_item (K := K) (j := 1) hx rfl
      cases t0
      obtain ⟨A, eA⟩ : ∃ A, (layer.take i).flatMap (nextS ds ks) = A := ⟨_, rfl⟩
      have hvA0 : ∀ s ∈ A, VS n s := by rw [← eA]; exact next_vs hok.1 _
      rw [flat_take hs1, eA]
      rw [eA] at hSe hL
      have hvn : ∀ s ∈ nextS ds ks (room, held), VS n s := vs_steps hok.1
      show tFor _ _ _ _ _ _
      refine s_forEL (K := K) (g := gName 5) (lt_stepsC (ea_cons (ev_var rfl) (ea_cons (ev0 eH (ev_var rfl) ev_c) (ea_cons (ev1 eH (ev_var rfl) ev_c) ea_nil))) (dp_ex eH hm0) (t1.ex eH).dp hok hvs.1) fun p xs H2 np e2 hp hpd => ⟨fun j σ' H'' => Ex (del H d) H'' ∧ H'' p = some (.lst xs) ∧ Tk H2 H'' ∧ ∃ y5, σ' = [some v, some (.ref lp), some (.ref d), some (.ref l), some x, y5] ∧ SeenK P w H'' d (S ++ newOf S (A ++ (nextS ds ks (room, held)).take j)) ∧ LstT H'' l ((newOf S (A ++ (nextS ds ks (room, held)).take j)).map stateD), ⟨eH.trans e2, hp, Tk.refl _, y5, rfl, by simpa using hSe.ex e2, by simpa using hL.ex e2⟩, fun j σ' H'' hP => ⟨hP.2.1, hP.2.2.1⟩, fun j dt x' σ' H'' hdj hx' hP => ?_, fun σ' H'' hP => ?_⟩
      · obtain ⟨eH'', hpp, tk, y5, rfl, hSe, hL⟩ := hP
        rw [List.getElem?_map] at hdj
        obtain ⟨o, ho1, rfl⟩ := Option.map_eq_some_iff.mp hdj
        have hvo : VS n o := hvn o (List.mem_of_getElem? ho1)
        have htk : (nextS ds ks (room, held)).take (j + 1) = (nextS ds ks (room, held)).take j ++ [o] := by rw [List.take_succ, ho1]; rfl
        obtain ⟨B, eB⟩ : ∃ B, A ++ (nextS ds ks (room, held)).take j = B := ⟨_, rfl⟩
        have hvB : ∀ s ∈ B, VS n s := by
          rw [← eB]
          intro s hs
          rcases List.mem_append.mp hs with h | h
          · exact hvA0 s h
          · exact hvn s (List.mem_of_mem_take h)
        rw [eB] at hSe hL
        have hstep : A ++ (nextS ds ks (room, held)).take (j + 1) = B ++ [o] := by rw [htk, ← List.append_assoc, eB]
        have hBl := hvA B hvB
        have hBl2 : (newOf S B).length ≤ 1920 := by rw [List.length_append] at hBl; omega
        have hx2 : ∃ b, x' = .ref b := by unfold stateD at hx'; cases hx'; exact ⟨_, rfl⟩
        obtain ⟨b, rfl⟩ := hx2
        show tIfS _ _ _ _ _ _
        refine s_when (b := !decide (o ∈ S ++ newOf S B)) (et_test (ev_niS (ev_var rfl) (ev_var rfl) hx' hSe)) (fun hb H3 e3 => ?_) (fun hb H3 e3 => ⟨eH''.trans e3, e3 _ _ hpp, tk.trans (Tk.ex e3), _, rfl, ?_, ?_⟩)
        · have hno : o ∉ S ++ newOf S B := by simpa using hb
          have hnew : newOf S (B ++ [o]) = newOf S B ++ [o] := by rw [newOf_append, newOf_one, if_neg hno]
          refine q_setS (hSe.ex e3) (v := .bl true) ev_c (ev_var rfl) (ev_var rfl) (hx'.ex e3) (by omega) fun H4 φ4 o4 e4 h4 hS4 => ?_
          rw [if_neg hno] at hS4
          have e34 := e3.trans e4
          have eu : Ex (del H d) (upd H4 d o4) := Ex.mut (eH''.trans e34) hd0
          have hL4 := (hL.ex e34).updE (o := o4) h4
          have hx4 := (hx'.ex e34).tk (Tk.ext (o := o4) h4)
          have hp4 : upd H4 d o4 p = some (.lst xs) := by
            have h := e34 _ _ hpp
            rw [upd_ne (ne_of h h4 (fun z => by cases z))]
            exact h
          have tk4 : Tk H2 (upd H4 d o4) := (tk.trans (Tk.ex e34)).trans (Tk.ext h4)
          have hpl : p ≠ l := fun z => by
            subst z
            obtain ⟨ys, hys⟩ := LstT.at (by assumption : LstT H' p _)
            rw [np] at hys
            cases hys
          refine s_appT (d := stateD o) hL4 (ev_var rfl) (td_any (ev_var rfl) hx4) (by rw [List.length_map]; omega) fun H5 zs v5 e5 hl5 hp5 => ⟨Ex.mut (eu.trans e5) nl0, by rw [upd_ne hpl]; exact e5 _ _ hp4, (tk4.trans (Tk.ex e5)).trans (Tk.lst hl5), _, rfl, ?_, by rw [hstep, hnew, List.map_append]; exact hp5⟩
          rw [hstep, hnew, ← List.append_assoc]
          exact (hS4.ex e5).lst hl5
        · have hno : o ∈ S ++ newOf S B := by simp only [Bool.not_eq_false', decide_eq_true_eq] at hb; exact hb
          have hnew : newOf S (B ++ [o]) = newOf S B := by rw [newOf_append, newOf_one, if_pos hno, List.append_nil]
          rw [hstep, hnew]
          exact hSe.ex e3
        · have hno : o ∈ S ++ newOf S B := by simp only [Bool.not_eq_false', decide_eq_true_eq] at hb; exact hb
          have hnew : newOf S (B ++ [o]) = newOf S B := by rw [newOf_append, newOf_one, if_pos hno, List.append_nil]
          rw [hstep, hnew]
          exact hL.ex e3
      · obtain ⟨eH'', hpp, tk, y5, rfl, hSe, hL⟩ := hP
        rw [List.length_map, List.take_length] at hSe hL
        exact ⟨eH'', _, _, rfl, hSe, hL⟩
    · obtain ⟨eH, y4, y5, rfl, hSe, hL⟩ := hP
      rw [List.length_map, List.take_length] at hSe hL
      have hBl := hvA _ (next_vs (ks := ks) hok.1 layer)
      refine s_retLT (lt_sortedS (ev_var rfl) hL (by rw [List.length_append] at hBl; omega)) fun p H2 np e2 hp => q p H2 ?_ (eH.trans e2) (hSe.ex e2) hp
      have h1 := fresh_back eH np
      obtain ⟨o, ho⟩ := hSe.at
      have hne : p ≠ d := fun z => by
        subst z
        rw [np] at ho
        cases ho
      rw [del_ne hne] at h1
      exact h1
end

section
variable {P : Program} {w : World} {K : PySem.W.Frag} {mg : Str → Option Value} {base : Heap}
def sp_layers (K : PySem.W.Frag) : Sp := fun vs H Q E => ∃ (v : V) (n start : Int) (ds : List Door) (ks : List Key2), vs = [v, .int start] ∧ Dp K H v (mazeF n ds ks) ∧ DoorsOk n ds ∧ n ≤ 60 ∧
  (Here n start → ∀ l ps H2, H l = none → Ex H H2 → H2 l = some (.lst (ps.map V.ref)) → (∀ p ∈ ps, p ≠ l ∧ H p = none) → RowsP H2 ps (layersF ds ks start) → Q (.ref l) H2) ∧ (¬ Here n start → ∀ H2, Ex H H2 → E (cNoRoom K) none H2)
theorem ok_layers (T : Txt K mg) : Kept P w K mg base 5 "layers" ["maze", "start"] (sp_layers K) := by
  refine T.d_layers.kept sc_layers (fun vs H Q E h => ?_) (fun cdv A outer s H vs Q E hr h => ?_)
  · obtain ⟨v, n, start, ds, ks, rfl, _⟩ := h
    rfl
  · obtain ⟨v, n, start, ds, ks, rfl, hm, hok, hn60, q, qe⟩ := h
    refine ⟨_, (pss_cons (ps_set (i := 2) sc_layers.nd rfl (Or.inl rfl) (pe_lst (pa_cons (pe_tup (pa_cons (pv 1) (pa_cons (pe_fn (ok_taken (K := K) T) (hr.mono (by decide)) (passR (takes_of rfl rfl rfl rfl)) (by rfl) (pa_cons (pv 0) (pa_cons (pv 1) (pa_cons (pe_tup pa_nil) pa_nil)))) pa_nil))) pa_nil)))
      (pss_cons (ps_set (i := 3) sc_layers.nd rfl (Or.inl rfl) (pe_dispN (P := P) (w := w) rfl rfl hr.units (pe_ix (ix_list_K (K := K) rfl) (pv 2) pe_int (fun _ _ => rfl)) pe_bl))
      (pss_cons (ps_set (i := 4) sc_layers.nd rfl (Or.inl rfl) (pe_lst pa_nil))
      (pss_cons (ps_while (passes_of rfl) (pt_cmpR (op_neD_K (K := K) rfl hr.units) (pv 2) (pe_lst pa_nil) (nomark _))
        (pss_cons (ps_expr (pe_bm_K (K := K) rfl PySem.F.plainAttrs_list PySem.F.slot_list_append PySem.F.type_list_append mt_append (pv 4) (pa_cons (pv 2) pa_nil)))
      (pss_one (ps_set (i := 2) sc_layers.nd rfl (Or.inl rfl) (pe_fn (ok_behind (K := K) T) (hr.mono (by decide)) (passR (takes_of rfl rfl rfl rfl)) (by rfl) (pa_cons (pv 0) (pa_cons (pv 2) (pa_cons (pv 3) pa_nil))))))))
      (pss_one (ps_ret (pv 4))))))), ?_⟩
    by_cases hst : Here n start
    rotate_left
    · refine ⟨_, rfl, ?_⟩
      have hA : EaP (tCons (tVar 0) (tCons (tVar 1) (tCons (tTup tNil) tNil))) [some v, some (.int start), none, none, none] H (fun vs H' => ∃ hv, vs = [v, .int start, hv] ∧ Td H' hv (intsD [])) := ea_pv (R := fun vs H' => ∃ hv, vs = [v, .int start, hv] ∧ Td H' hv (intsD [])) (ev_var rfl) (fun H4 e4 => ea_pv (ev_var rfl) fun H5 e5 => ea_pc td_unit0 fun u H6 e6 hu => ea_pn fun H7 e7 => ⟨u, rfl, hu.ex e7⟩)
      refine ta_cons ?_
      refine hA H (Ex.refl H) _ fun vs H4 e4 hvs => ?_
      obtain ⟨hv, rfl, hhv⟩ := hvs
      exact ⟨v, hv, n, start, _, ks, [], rfl, dp_ex e4 hm, hhv.dp, fun z => absurd z hst, fun _ H5 e5 => qe hst H5 (e4.trans e5)⟩
    have hv0 : VS n (firstS ks start) := vs_taken hst ks []
    refine q_asgLT (ds := ([firstS ks start] : List State).map stateD) (lt_lst (ea_tc (td_state (ev_var rfl) (td_takenU (ev_var rfl) (ev_var rfl) hm hst)) ea_tn) (by simp)) fun lp H1 nlp e1 hlp => ?_
    obtain ⟨xs1, hx1, hd1⟩ := hlp
    obtain ⟨b, t0, exs⟩ : ∃ b, Td H1 (.ref b) (stateD (firstS ks start)) ∧ xs1 = [.ref b] := by
      cases hd1 with
      | cons a r =>
        cases r
        have a2 := a
        unfold stateD at a2
        cases a2
        exact ⟨_, a, rfl⟩
    subst exs
    refine q_dispS (P := P) (w := w) (b := b) (k := firstS ks start) (v := .bl true) (fun H2 e2 => ev_op (ev_var rfl) ev_c (rv_ixL (SqL.of (e2 _ _ hx1)) (atI_nat (j := 0) rfl))) t0 (fun H2 e2 => ev_c) fun d H2 nd e2 hSD => ?_
    have hS2 : SeenK P w H2 d [firstS ks start] := ⟨_, hSD, rfl⟩
    have hlp2 : LstT H2 lp (([firstS ks start] : List State).map stateD) := ⟨_, e2 _ _ hx1, hd1.ex e2⟩
    refine q_asgLT (ds := []) (lt_lst ea_tn (by simp)) fun l H3 nl e3 hl => ?_
    obtain ⟨xs3, hx3, hd3⟩ := hl
    cases hd3
    have e13 := (e1.trans e2).trans e3
    have nd0 : H d = none := fresh_back e1 nd
    have nl0 : H l = none := fresh_back (e1.trans e2) nl
    have hne0 : lp ≠ l := fun z => by
      subst z
      rw [e2 _ _ hx1] at nl
      cases nl
    refine q_while (fun m σ' H' => Ex H H' ∧ ∃ (lp : Addr) (ps : List Addr) (dn : List (List State)) (layer S : List State) (f : Nat), σ' = [some v, some (.int start), some (.ref lp), some (.ref d), some (.ref l)] ∧ LstT H' lp (layer.map stateD) ∧ (lp ≠ l ∧ H lp = none) ∧ SeenK P w H' d S ∧ H' l = some (.lst (ps.map V.ref)) ∧ (∀ p ∈ ps, p ≠ l ∧ H p = none) ∧ RowsP H' ps dn ∧
      dn ++ layGo ds ks f layer S = layersF ds ks start ∧ f + dn.length = 2000 ∧ S.Nodup ∧ (∀ s ∈ S, VS n s) ∧ (∀ s ∈ layer, VS n s) ∧ dn.length ≤ S.length ∧ (layer ≠ [] → dn.length + 1 ≤ S.length) ∧ m = 3000 - dn.length) 3000 ⟨e13, lp, [], [], [firstS ks start], [firstS ks start], 2000, rfl, hlp2.ex e3, ⟨hne0, nlp⟩, hS2.ex e3, hx3, (fun p hp => absurd hp (by simp)), .nil, rfl, rfl, by simp, (fun s hs => by simp at hs; subst hs; exact hv0), (fun s hs => by simp at hs; subst hs; exact hv0), by simp, (fun _ => by simp), rfl⟩ fun m σ' H' hW => ?_
    obtain ⟨eH, lp, ps, dn, layer, S, f, rfl, hL, hne, hSe, hl, hpl, hR, htot, hf, hnd, hvS, hvl, hc1, hc2, rfl⟩ := hW
    have hSl : S.length ≤ 1920 := by
      have := vs_len hnd hvS
      omega
    have hpsl := hR.len
    refine ⟨!decide (layer = []), et_test (ev_is (ev_neD (d := .list (layer.map stateD)) (e := .list (([] : List State).map stateD)) (ed_any (ev_var rfl) hL.dp) (ed_lt (lt_lst (ds := []) ea_tn (by simp))) (sh_states _) (sh_states _)) (by rw [eqv_states])), fun hb H4 e4 => ?_, fun hb H4 e4 => ?_⟩
    · have hlne : layer ≠ [] := by simpa using hb
      have hc3 := hc2 hlne
      obtain ⟨f', rfl⟩ : ∃ f', f = f' + 1 := ⟨f - 1, by omega⟩
      refine ⟨fun σ' H' => Ex H H' ∧ ∃ (lp2 : Addr), σ' = [some v, some (.int start), some (.ref lp2), some (.ref d), some (.ref l)] ∧ LstT H' lp2 ((sortS (freshF ds ks S layer)).map stateD) ∧ (lp2 ≠ l ∧ H lp2 = none) ∧ SeenK P w H' d (S ++ freshF ds ks S layer) ∧ H' l = some (.lst ((ps ++ [lp]).map V.ref)) ∧ RowsP H' (ps ++ [lp]) (dn ++ [layer]), fun σ2 H2 hN => ?_, ?_⟩
      · obtain ⟨eN, lp2, rfl, h1, h2, h3, h4, h5⟩ := hN
        have hvf : ∀ s ∈ S ++ freshF ds ks S layer, VS n s := fresh_vs (ds := ds) (ks := ks) hok.1 hvS (next_vs hok.1 layer)
        refine ⟨3000 - (dn ++ [layer]).length, by rw [List.length_append, List.length_singleton]; omega, eN, lp2, ps ++ [lp], dn ++ [layer], sortS (freshF ds ks S layer), S ++ freshF ds ks S layer, f', rfl, h1, h2, h3, h4, ?_, h5, ?_, by rw [List.length_append, List.length_singleton]; omega, nodup_newOf hnd, hvf, fun s hs => hvf s (List.mem_append_right _ (mem_sortS.mp hs)), ?_, fun hz => ?_, rfl⟩
        · intro p hp
          rcases List.mem_append.mp hp with h | h
          · exact hpl p h
          · simp at h
            subst h
            exact hne
        · rw [← htot]
          show _ = dn ++ (if layer = [] then [] else layer :: layGo ds ks f' (sortS (freshF ds ks S layer)) (S ++ freshF ds ks S layer))
          rw [if_neg hlne]
          simp
        · simp only [List.length_append, List.length_singleton]
          omega
        · have hpos : 0 < (freshF ds ks S layer).length := by
            rw [← (sortS_perm (freshF ds ks S layer)).length_eq]
            exact List.length_pos_iff.mpr hz
          simp only [List.length_append, List.length_singleton]
          omega
      · refine q_app (e4 _ _ hl) (ev_var rfl) (ev_var rfl) (by rw [List.length_map]; omega) fun H5 e5 => ?_
        have e45 := e4.trans e5
        have hl5 : H5 l = some (.lst (ps.map V.ref)) := e45 _ _ hl
        have eu : Ex H (upd H5 l (.lst (ps.map V.ref ++ [.ref lp]))) := Ex.mut (eH.trans e45) nl0
        have hLu : LstT (upd H5 l (.lst (ps.map V.ref ++ [.ref lp]))) lp (layer.map stateD) := (hL.ex e45).upd_ne hl5 hne.1
        have hSu := (hSe.ex e45).lst (o := .lst (ps.map V.ref ++ [.ref lp])) hl5
        have hRu : RowsP (upd H5 l (.lst (ps.map V.ref ++ [.ref lp]))) ps dn := (hR.ex e45).imp fun p hp ds' h => h.upd_ne hl5 (hpl p hp).1
        refine s_asgA (vs := [v, .ref lp, .ref d]) (ea_cons (ev_var rfl) (ea_cons (ev_var rfl) (ea_cons (ev_var rfl) ea_nil))) fun H6 e6 => ⟨v, lp, d, n, ds, ks, layer, S, rfl, dp_ex (eu.trans e6) hm, hLu.ex e6, hSu.ex e6, hok, hn60, hnd, hvS, hvl, fun p H7 np e7 hS7 hL7 => ?_⟩
        have hl6 : H6 l = some (.lst ((ps ++ [lp]).map V.ref)) := by
          rw [List.map_append]
          exact e6 _ _ upd_same
        obtain ⟨φ, hφ⟩ := (hSu.ex e6).del_ext
        have hld : l ≠ d := ne_of hl6 hφ (fun z => by cases z)
        have hpl2 : p ≠ l := fun z => by
          subst z
          rw [np] at hl6
          cases hl6
        refine ⟨(ex_del (eu.trans e6) nd0).trans e7, p, rfl, hL7, ⟨hpl2, fresh_back (eu.trans e6) np⟩, hS7, e7 _ _ (by rw [del_ne hld]; exact hl6), ?_⟩
        have h1 := (hRu.ex e6).imp (H' := del H6 d) fun p _ ds' h => h.del hφ
        exact Paired.snoc (h1.ex e7) (((hLu.ex e6).del hφ).ex e7)
    · have hl0 : layer = [] := by simpa using hb
      subst hl0
      have hdn : dn = layersF ds ks start := by
        rw [← htot]
        cases f with
        | zero => simp [layGo]
        | succ f => simp [layGo]
      rw [hdn] at hR
      exact s_ret (ev_var rfl) fun H5 e5 => q hst l ps H5 nl0 ((eH.trans e4).trans e5) ((e4.trans e5) _ _ hl) hpl (hR.ex (e4.trans e5))
end

/-! ### going through all states, in plain -/
structure Lab (next : State → List State) (s0 : State) (A : List (State × Nat)) : Prop where
  zero : (s0, 0) ∈ A
  fn : (A.map (·.1)).Nodup
  edge : ∀ p ∈ A, ∀ y ∈ next p.1, ∃ j, (y, j) ∈ A ∧ j ≤ p.2 + 1
  pred : ∀ p ∈ A, p = (s0, 0) ∨ ∃ p' ∈ A, p.2 = p'.2 + 1 ∧ p.1 ∈ next p'.1
  srt : A.Pairwise (fun p q => p.2 ≤ q.2)
theorem fst_fn {A : List (State × Nat)} (h : (A.map (·.1)).Nodup) : ∀ {s : State} {i j : Nat}, (s, i) ∈ A → (s, j) ∈ A → i = j := by
  induction A with
  | nil => intro s i j hi; cases hi
  | cons a r ih =>
    intro s i j hi hj
    rw [List.map_cons, List.nodup_cons] at h
    rcases List.mem_cons.mp hi with h1 | h1 <;> rcases List.mem_cons.mp hj with h2 | h2
    · rw [← h1] at h2
      cases h2
      rfl
    · exact absurd (List.mem_map.mpr ⟨(s, j), h2, by rw [← h1]⟩) h.1
    · exact absurd (List.mem_map.mpr ⟨(s, i), h1, by rw [← h2]⟩) h.1
    · exact ih h.2 h1 h2
theorem Lab.le {next : State → List State} {s0 : State} {A B : List (State × Nat)} (a : Lab next s0 A) (b : Lab next s0 B) : ∀ (k : Nat) (s : State), (s, k) ∈ A → ∃ j, (s, j) ∈ B ∧ j ≤ k := by
  intro k
  induction k with
  | zero =>
    intro s h
    rcases a.pred _ h with e | ⟨p', _, e, _⟩
    · cases e
      exact ⟨0, b.zero, Nat.le_refl _⟩
    · simp at e
  | succ k ih =>
    intro s h
    rcases a.pred _ h with e | ⟨⟨s', k'⟩, h1, e, h2⟩
    · cases e
    · have : k' = k := by simp at e; omega
      subst this
      obtain ⟨j', h3, h4⟩ := ih s' h1
      obtain ⟨j, h5, h6⟩ := b.edge _ h3 s h2
      exact ⟨j, h5, by simp only at h6; omega⟩
theorem Lab.sub {next : State → List State} {s0 : State} {A B : List (State × Nat)} (a : Lab next s0 A) (b : Lab next s0 B) : ∀ p ∈ A, p ∈ B := by
  rintro ⟨s, k⟩ h
  obtain ⟨j, h1, h2⟩ := a.le b k s h
  obtain ⟨i, h3, h4⟩ := b.le a j s h1
  have := fst_fn a.fn h h3
  have : j = k := by omega
  subst this
  exact h1
/-- the first label of a room -/
def near (n : Int) (A : List (State × Nat)) : List (Option Int) := (List.range n.toNat).map fun (r : Nat) => (A.find? fun p => decide (p.1.1 = (r : Int))).map fun p => (p.2 : Int)
theorem find_le {A : List (State × Nat)} {f : State × Nat → Bool} (h : A.Pairwise (fun p q => p.2 ≤ q.2)) {a x : State × Nat} (e : A.find? f = some a) (hx : x ∈ A) (fx : f x = true) : a.2 ≤ x.2 := by
  induction A with
  | nil => cases hx
  | cons b r ih =>
    rw [List.pairwise_cons] at h
    rw [List.find?_cons] at e
    cases hb : f b with
    | true =>
      rw [hb] at e
      cases e
      rcases List.mem_cons.mp hx with h1 | h1
      · rw [h1]
        exact Nat.le_refl _
      · exact h.1 x h1
    | false =>
      rw [hb] at e
      rcases List.mem_cons.mp hx with h1 | h1
      · rw [h1, hb] at fx
        cases fx
      · exact ih h.2 e h1
theorem near_eq {next : State → List State} {s0 : State} {A B : List (State × Nat)} (a : Lab next s0 A) (b : Lab next s0 B) (n : Int) : near n A = near n B := by
  unfold near
  refine List.map_congr_left fun r _ => ?_
  have key : ∀ {A B : List (State × Nat)}, Lab next s0 A → Lab next s0 B → ∀ x, A.find? (fun p => decide (p.1.1 = (r : Int))) = some x → ∃ y, B.find? (fun p => decide (p.1.1 = (r : Int))) = some y ∧ y.2 ≤ x.2 := by
    intro A B a b x e
    have hx := List.mem_of_find?_eq_some e
    have fx := List.find?_some e
    have hb := a.sub b x hx
    cases e2 : B.find? (fun p => decide (p.1.1 = (r : Int))) with
    | none =>
      have := List.find?_eq_none.mp e2 x hb
      exact absurd fx this
    | some y => exact ⟨y, rfl, find_le b.srt e2 hb fx⟩
  cases eA : A.find? (fun p => decide (p.1.1 = (r : Int))) with
  | none =>
    cases eB : B.find? (fun p => decide (p.1.1 = (r : Int))) with
    | none => rfl
    | some y =>
      obtain ⟨x, e, _⟩ := key b a y eB
      rw [eA] at e
      cases e
  | some x =>
    obtain ⟨y, e1, h1⟩ := key a b x eA
    obtain ⟨x', e2, h2⟩ := key b a y e1
    rw [eA] at e2
    cases e2
    rw [e1]
    have : x.2 = y.2 := by omega
    simp [this]
theorem near_len (n : Int) (A : List (State × Nat)) : (near n A).length = n.toNat := by simp [near]
theorem near_get {n : Int} {A : List (State × Nat)} {r : Int} (h : Here n r) : (near n A)[r.toNat]? = some ((A.find? fun p => decide (p.1.1 = r)).map fun p => (p.2 : Int)) := by
  have h1 : r.toNat < n.toNat := by have := h.1; have := h.2; omega
  have e : ((r.toNat : Nat) : Int) = r := by have := h.1; omega
  unfold near
  rw [List.getElem?_map, List.getElem?_range h1, Option.map_some, e]
theorem near_old {n : Int} {A : List (State × Nat)} {p : State × Nat} {v : Int} (h : Here n p.1.1) (e : (near n A)[p.1.1.toNat]? = some (some v)) : near n (A ++ [p]) = near n A := by
  rw [near_get h] at e
  unfold near
  refine List.map_congr_left fun r _ => ?_
  rw [List.find?_append]
  cases c : A.find? (fun q => decide (q.1.1 = (r : Int))) with
  | some y => rfl
  | none =>
    have hne : ¬ p.1.1 = (r : Int) := fun z => by
      rw [z, c] at e
      cases e
    simp [List.find?_cons, hne]
theorem near_new {n : Int} {A : List (State × Nat)} {p : State × Nat} (h : Here n p.1.1) (e : (near n A)[p.1.1.toNat]? = some none) : near n (A ++ [p]) = (near n A).set p.1.1.toNat (some (p.2 : Int)) := by
  rw [near_get h] at e
  have e2 : A.find? (fun q => decide (q.1.1 = p.1.1)) = none := by simpa using e
  refine List.ext_getElem? fun i => ?_
  rw [List.getElem?_set]
  by_cases hi : i < n.toNat
  · by_cases c : p.1.1.toNat = i
    · rw [if_pos c, near_len, if_pos (by omega)]
      subst c
      rw [near_get h, List.find?_append, e2]
      simp [List.find?_cons]
    · rw [if_neg c]
      unfold near
      rw [List.getElem?_map, List.getElem?_map, List.getElem?_range hi, Option.map_some, Option.map_some, List.find?_append]
      have hne : ¬ p.1.1 = (i : Int) := fun z => c (by rw [z]; simp)
      simp [List.find?_cons, hne]
  · have h1 : (near n (A ++ [p]))[i]? = none := List.getElem?_eq_none (by rw [near_len]; omega)
    have h2 : (near n A)[i]? = none := List.getElem?_eq_none (by rw [near_len]; omega)
    rw [h1, h2]
    have hb := h.2
    have ha := h.1
    rw [if_neg (by omega)]
/-- layers, with their labels -/
def lbl (k : Nat) (l : List State) : List (State × Nat) := l.map fun s => (s, k)
def labGo (ds : List Door) (ks : List Key2) : Nat → Nat → List State → List State → List (State × Nat)
  | 0, _, _, _ => []
  | f + 1, k, layer, S => if layer = [] then [] else lbl k layer ++ labGo ds ks f (k + 1) (sortS (freshF ds ks S layer)) (S ++ freshF ds ks S layer)
theorem lbl_fst (k : Nat) (l : List State) : (lbl k l).map (·.1) = l := by
  unfold lbl
  rw [List.map_map]
  show l.map (fun s => s) = l
  simp
theorem mem_lbl {k : Nat} {l : List State} {p : State × Nat} : p ∈ lbl k l ↔ p.1 ∈ l ∧ p.2 = k := by
  unfold lbl
  rw [List.mem_map]
  constructor
  · rintro ⟨s, h, rfl⟩
    exact ⟨h, rfl⟩
  · rintro ⟨h, rfl⟩
    exact ⟨p.1, h, rfl⟩
/-- what holds while layers are made -/
structure LI (next : State → List State) (s0 : State) (dn : List (State × Nat)) (k : Nat) (layer S : List State) : Prop where
  zero : (s0, 0) ∈ dn ++ lbl k layer
  fn : ((dn ++ lbl k layer).map (·.1)).Nodup
  mem : ∀ x, x ∈ S ↔ x ∈ (dn ++ lbl k layer).map (·.1)
  low : ∀ p ∈ dn, p.2 < k
  edge : ∀ p ∈ dn, ∀ y ∈ next p.1, ∃ j, (y, j) ∈ dn ++ lbl k layer ∧ j ≤ p.2 + 1
  pred : ∀ p ∈ dn ++ lbl k layer, p = (s0, 0) ∨ ∃ p' ∈ dn ++ lbl k layer, p.2 = p'.2 + 1 ∧ p.1 ∈ next p'.1
  srt : dn.Pairwise (fun p q => p.2 ≤ q.2)
theorem LI.first (next : State → List State) (s0 : State) : LI next s0 [] 0 [s0] [s0] := ⟨by simp [lbl], by simp [lbl], fun x => by simp [lbl], by simp, by simp, fun p hp => .inl (by simpa [lbl] using hp), .nil⟩
theorem LI.step {ds : List Door} {ks : List Key2} {s0 : State} {dn : List (State × Nat)} {k : Nat} {layer S : List State} (h : LI (nextS ds ks) s0 dn k layer S) (hS : S.Nodup) : LI (nextS ds ks) s0 (dn ++ lbl k layer) (k + 1) (sortS (freshF ds ks S layer)) (S ++ freshF ds ks S layer) := by
  obtain ⟨zero, fn, mem, low, edge, pred, srt⟩ := h
  have hfr : ∀ x, x ∈ sortS (freshF ds ks S layer) ↔ (∃ a ∈ layer, x ∈ nextS ds ks a) ∧ x ∉ S := fun x => by
    rw [mem_sortS, freshF, mem_newOf, List.mem_flatMap]
  have hnd := nodup_newOf (A := layer.flatMap (nextS ds ks)) hS
  refine ⟨List.mem_append_left _ zero, ?_, fun x => ?_, fun p hp => ?_, fun p hp y hy => ?_, fun p hp => ?_, ?_⟩
  · rw [List.map_append, lbl_fst, List.nodup_append]
    refine ⟨fn, ((sortS_perm (freshF ds ks S layer)).nodup_iff).mpr (List.nodup_append.mp hnd).2.1, fun x hx y hy z => ?_⟩
    subst z
    exact ((hfr x).mp hy).2 ((mem x).mpr hx)
  · rw [List.map_append, lbl_fst, List.mem_append, List.mem_append, mem x, mem_sortS]
  · rcases List.mem_append.mp hp with h1 | h1
    · have := low p h1
      omega
    · have := (mem_lbl.mp h1).2
      omega
  · rcases List.mem_append.mp hp with h1 | h1
    · obtain ⟨j, h2, h3⟩ := edge p h1 y hy
      exact ⟨j, List.mem_append_left _ h2, h3⟩
    · obtain ⟨h2, h3⟩ := mem_lbl.mp h1
      by_cases c : y ∈ S
      · obtain ⟨q, hq, e⟩ := List.mem_map.mp ((mem y).mp c)
        refine ⟨q.2, List.mem_append_left _ (by rw [← e]; exact hq), ?_⟩
        rcases List.mem_append.mp hq with h4 | h4
        · have := low q h4
          omega
        · have := (mem_lbl.mp h4).2
          omega
      · exact ⟨k + 1, List.mem_append_right _ (mem_lbl.mpr ⟨(hfr y).mpr ⟨⟨p.1, h2, hy⟩, c⟩, rfl⟩), by omega⟩
  · rcases List.mem_append.mp hp with h1 | h1
    · rcases pred p h1 with h2 | ⟨p', h2, h3⟩
      · exact .inl h2
      · exact .inr ⟨p', List.mem_append_left _ h2, h3⟩
    · obtain ⟨h2, h3⟩ := mem_lbl.mp h1
      obtain ⟨⟨a, ha, h4⟩, _⟩ := (hfr p.1).mp h2
      exact .inr ⟨(a, k), List.mem_append_left _ (List.mem_append_right _ (mem_lbl.mpr ⟨ha, rfl⟩)), h3, h4⟩
  · rw [List.pairwise_append]
    refine ⟨srt, ?_, fun p hp q hq => ?_⟩
    · unfold lbl
      rw [List.pairwise_map]
      exact List.pairwise_of_forall (fun _ _ => Nat.le_refl _)
    · have h1 := low p hp
      have h2 := (mem_lbl.mp hq).2
      omega
theorem LI.done {ds : List Door} {ks : List Key2} {s0 : State} {dn : List (State × Nat)} {k : Nat} {S : List State} (h : LI (nextS ds ks) s0 dn k [] S) : Lab (nextS ds ks) s0 dn := by
  obtain ⟨zero, fn, mem, low, edge, pred, srt⟩ := h
  simp only [lbl, List.map_nil, List.append_nil] at *
  exact ⟨zero, fn, edge, pred, srt⟩
theorem lab_go {n : Int} {ds : List Door} {ks : List Key2} (hn : n ≤ 60) (hw : ∀ d ∈ ds, WfD n d) {s0 : State} : ∀ (f k : Nat) (dn : List (State × Nat)) (layer S : List State), LI (nextS ds ks) s0 dn k layer S → S.Nodup → (∀ s ∈ S, VS n s) → 1921 ≤ f + S.length + (if layer = [] then 1 else 0) → Lab (nextS ds ks) s0 (dn ++ labGo ds ks f k layer S)
  | 0, k, dn, layer, S, h, hS, hv, hf => by
    have hl := vs_len hS hv
    by_cases c : layer = []
    · subst c
      simp only [labGo, List.append_nil]
      exact h.done
    · rw [if_neg c] at hf
      omega
  | f + 1, k, dn, layer, S, h, hS, hv, hf => by
    by_cases c : layer = []
    · subst c
      simp only [labGo, if_true, List.append_nil]
      exact h.done
    · rw [if_neg c] at hf
      simp only [labGo, if_neg c]
      rw [← List.append_assoc]
      refine lab_go hn hw f (k + 1) _ _ _ (h.step hS) (nodup_newOf hS) (fresh_vs (ds := ds) (ks := ks) hw hv (next_vs hw layer)) ?_
      rw [List.length_append]
      by_cases c2 : sortS (freshF ds ks S layer) = []
      · rw [if_pos c2]
        omega
      · have hpos : 0 < (freshF ds ks S layer).length := by
          rw [← (sortS_perm (freshF ds ks S layer)).length_eq]
          exact List.length_pos_iff.mpr c2
        omega
def labF (ds : List Door) (ks : List Key2) (start : Int) : List (State × Nat) := labGo ds ks 2000 0 [firstS ks start] [firstS ks start]
theorem lab_F {n : Int} {ds : List Door} {ks : List Key2} (hn : n ≤ 60) (hw : ∀ d ∈ ds, WfD n d) {start : Int} (hs : Here n start) : Lab (nextS ds ks) (firstS ks start) (labF ds ks start) := by
  have := lab_go (ks := ks) hn hw 2000 0 [] [firstS ks start] [firstS ks start] (LI.first _ _) (by simp) (fun s h => by simp at h; subst h; exact vs_taken hs ks []) (by simp)
  rw [List.nil_append] at this
  exact this
/-- the labels of rows -/
def rowsLbl : Nat → List (List State) → List (State × Nat)
  | _, [] => []
  | k, r :: rs => lbl k r ++ rowsLbl (k + 1) rs
theorem rows_lab (ds : List Door) (ks : List Key2) : ∀ (f k : Nat) (layer S : List State), rowsLbl k (layGo ds ks f layer S) = labGo ds ks f k layer S
  | 0, _, _, _ => rfl
  | f + 1, k, layer, S => by
    simp only [layGo, labGo]
    split
    · rfl
    · rw [rowsLbl, rows_lab ds ks f]
theorem rowsLbl_append : ∀ (A B : List (List State)) (k : Nat), rowsLbl k (A ++ B) = rowsLbl k A ++ rowsLbl (k + A.length) B
  | [], B, k => by simp [rowsLbl]
  | a :: A, B, k => by
    rw [List.cons_append, rowsLbl, rowsLbl, rowsLbl_append A B (k + 1), List.append_assoc, List.length_cons]
    congr 3
    omega
/-- the queue -/
def qF (ds : List Door) (ks : List Key2) (s0 : State) : Nat → List (State × Nat)
  | 0 => [(s0, 0)]
  | t + 1 => match (qF ds ks s0 t)[t]? with
    | none => qF ds ks s0 t
    | some p => qF ds ks s0 t ++ lbl (p.2 + 1) (newOf ((qF ds ks s0 t).map (·.1)) (nextS ds ks p.1))
structure QI (n : Int) (next : State → List State) (s0 : State) (t : Nat) (A : List (State × Nat)) : Prop where
  zero : (s0, 0) ∈ A
  fn : (A.map (·.1)).Nodup
  vs : ∀ p ∈ A, VS n p.1
  edge : ∀ p ∈ A.take t, ∀ y ∈ next p.1, ∃ j, (y, j) ∈ A ∧ j ≤ p.2 + 1
  pred : ∀ p ∈ A, p = (s0, 0) ∨ ∃ p' ∈ A, p.2 = p'.2 + 1 ∧ p.1 ∈ next p'.1
  srt : A.Pairwise (fun p q => p.2 ≤ q.2)
  hi : ∀ p, A[t]? = some p → ∀ q ∈ A, q.2 ≤ p.2 + 1
theorem qi_F {n : Int} {ds : List Door} {ks : List Key2} (hw : ∀ d ∈ ds, WfD n d) {s0 : State} (h0 : VS n s0) : ∀ t, QI n (nextS ds ks) s0 t (qF ds ks s0 t)
  | 0 => ⟨by simp [qF], by simp [qF], by simp [qF]; exact h0, by simp, by simp [qF], by simp [qF], by simp [qF]⟩
  | t + 1 => by
    obtain ⟨zero, fn, vs, edge, pred, srt, hi⟩ := qi_F (n := n) (ks := ks) hw h0 t
    have e : qF ds ks s0 (t + 1) = match (qF ds ks s0 t)[t]? with
      | none => qF ds ks s0 t
      | some p => qF ds ks s0 t ++ lbl (p.2 + 1) (newOf ((qF ds ks s0 t).map (·.1)) (nextS ds ks p.1)) := rfl
    rw [e]
    generalize qF ds ks s0 t = A at *
    cases c : A[t]? with
    | none =>
      have hlen : A.length ≤ t := List.getElem?_eq_none_iff.mp c
      refine ⟨zero, fn, vs, fun p hp => edge p (by rw [List.take_of_length_le hlen]; exact List.mem_of_mem_take hp), pred, srt, fun p hp => ?_⟩
      have h0 : A[t + 1]? = none := List.getElem?_eq_none (by omega)
      rw [h0] at hp
      cases hp
    | some p =>
      have hp : p ∈ A := List.mem_of_getElem? c
      have hlt : t < A.length := (List.getElem?_eq_some_iff.mp c).1
      have hnew : ∀ x, x ∈ newOf (A.map (·.1)) (nextS ds ks p.1) ↔ x ∈ nextS ds ks p.1 ∧ x ∉ A.map (·.1) := fun x => mem_newOf
      have hiA := hi p c
      refine ⟨List.mem_append_left _ zero, ?_, fun q hq => ?_, fun q hq y hy => ?_, fun q hq => ?_, ?_, fun q hq r hr => ?_⟩
      · rw [List.map_append, lbl_fst]
        exact nodup_newOf fn
      · rcases List.mem_append.mp hq with h | h
        · exact vs q h
        · exact vs_steps hw _ ((hnew q.1).mp (mem_lbl.mp h).1).1
      · rw [List.take_append_of_le_length (by omega), List.take_succ, c] at hq
        rcases List.mem_append.mp hq with h | h
        · obtain ⟨j, h1, h2⟩ := edge q h y hy
          exact ⟨j, List.mem_append_left _ h1, h2⟩
        · simp at h
          subst h
          by_cases cy : y ∈ A.map (·.1)
          · obtain ⟨r, hr, er⟩ := List.mem_map.mp cy
            exact ⟨r.2, List.mem_append_left _ (by rw [← er]; exact hr), hiA r hr⟩
          · exact ⟨q.2 + 1, List.mem_append_right _ (mem_lbl.mpr ⟨(hnew y).mpr ⟨hy, cy⟩, rfl⟩), Nat.le_refl _⟩
      · rcases List.mem_append.mp hq with h | h
        · rcases pred q h with h1 | ⟨p', h1, h2⟩
          · exact .inl h1
          · exact .inr ⟨p', List.mem_append_left _ h1, h2⟩
        · obtain ⟨h1, h2⟩ := mem_lbl.mp h
          exact .inr ⟨p, List.mem_append_left _ hp, h2, ((hnew q.1).mp h1).1⟩
      · rw [List.pairwise_append]
        refine ⟨srt, ?_, fun a ha b hb => ?_⟩
        · unfold lbl
          rw [List.pairwise_map]
          exact List.pairwise_of_forall (fun _ _ => Nat.le_refl _)
        · have h1 := hiA a ha
          have h2 := (mem_lbl.mp hb).2
          omega
      · have hrl : r.2 ≤ p.2 + 1 := by
          rcases List.mem_append.mp hr with h | h
          · exact hiA r h
          · have := (mem_lbl.mp h).2
            omega
        have hpq : p.2 ≤ q.2 := by
          by_cases c2 : t + 1 < A.length
          · rw [List.getElem?_append_left c2] at hq
            have h1 := List.getElem?_eq_some_iff.mp c
            have h2 := List.getElem?_eq_some_iff.mp hq
            have := List.pairwise_iff_getElem.mp srt t (t + 1) h1.1 h2.1 (by omega)
            rw [h1.2, h2.2] at this
            exact this
          · rw [List.getElem?_append_right (by omega)] at hq
            have := (mem_lbl.mp (List.mem_of_getElem? hq)).2
            omega
        omega
theorem lab_Q {n : Int} {ds : List Door} {ks : List Key2} (hw : ∀ d ∈ ds, WfD n d) {s0 : State} (h0 : VS n s0) {t : Nat} (ht : n.toNat * 32 ≤ t) : Lab (nextS ds ks) s0 (qF ds ks s0 t) ∧ (qF ds ks s0 t).length ≤ n.toNat * 32 := by
  obtain ⟨zero, fn, vs, edge, pred, srt, hi⟩ := qi_F (n := n) (ks := ks) hw h0 t
  have hl : (qF ds ks s0 t).length ≤ n.toNat * 32 := by
    have := vs_len fn fun s hs => by
      obtain ⟨p, hp, rfl⟩ := List.mem_map.mp hs
      exact vs p hp
    simpa using this
  exact ⟨⟨zero, fn, fun p hp => edge p (by rw [List.take_of_length_le (by omega)]; exact hp), pred, srt⟩, hl⟩

/-! ### rows, in plain -/
theorem layGo_len (ds : List Door) (ks : List Key2) : ∀ (f : Nat) (layer S : List State), (layGo ds ks f layer S).length ≤ f
  | 0, _, _ => by simp [layGo]
  | f + 1, layer, S => by
    simp only [layGo]
    split
    · simp
    · have := layGo_len ds ks f (sortS (freshF ds ks S layer)) (S ++ freshF ds ks S layer)
      simp only [List.length_cons]
      omega
theorem layGo_vs {n : Int} {ds : List Door} {ks : List Key2} (hw : ∀ d ∈ ds, WfD n d) : ∀ (f : Nat) (layer S : List State), (∀ s ∈ layer, VS n s) → ∀ r ∈ layGo ds ks f layer S, ∀ s ∈ r, VS n s
  | 0, _, _, _ => fun r hr => by simp [layGo] at hr
  | f + 1, layer, S, hv => fun r hr => by
    simp only [layGo] at hr
    split at hr
    · cases hr
    · rcases List.mem_cons.mp hr with h | h
      · subst h
        exact hv
      · exact layGo_vs hw f _ _ (fun s hs => next_vs (ks := ks) hw layer s (mem_newOf.mp (mem_sortS.mp hs)).1) r h
theorem layers_vs {n : Int} {ds : List Door} {ks : List Key2} (hw : ∀ d ∈ ds, WfD n d) {start : Int} (hs : Here n start) : ∀ r ∈ layersF ds ks start, ∀ s ∈ r, VS n s := layGo_vs hw _ _ _ fun s h => by
  simp at h
  subst h
  exact vs_taken hs ks []
theorem rowsLbl_take {rows : List (List State)} {i : Nat} {r : List State} (h : rows[i]? = some r) : rowsLbl 0 (rows.take (i + 1)) = rowsLbl 0 (rows.take i) ++ lbl i r := by
  have hi : i < rows.length := (List.getElem?_eq_some_iff.mp h).1
  have e : rows.take (i + 1) = rows.take i ++ [r] := by rw [List.take_succ, h]; rfl
  rw [e, rowsLbl_append, List.length_take, Nat.min_eq_left (by omega)]
  simp [rowsLbl]
theorem lbl_take {r : List State} {i j : Nat} {s : State} (h : r[j]? = some s) : lbl i (r.take (j + 1)) = lbl i (r.take j) ++ [(s, i)] := by
  have e : r.take (j + 1) = r.take j ++ [s] := by rw [List.take_succ, h]; rfl
  rw [e]
  simp [lbl]
theorem rowsLbl_fst : ∀ (k : Nat) (rows : List (List State)), (rowsLbl k rows).map (·.1) = rows.flatten
  | _, [] => rfl
  | k, r :: rs => by rw [rowsLbl, List.map_append, lbl_fst, rowsLbl_fst (k + 1) rs, List.flatten_cons]

section
variable {P : Program} {w : World} {K : PySem.W.Frag} {mg : Str → Option Value} {base : Heap}
def sp_l_is_state (K : PySem.W.Frag) : Sp := fun vs H Q _ => ∃ (v : V) (s : State), vs = [v] ∧ Dp K H v (stateD s) ∧ ∀ H2, Ex H H2 → Q (.bl true) H2
theorem ok_l_is_state (T : Txt K mg) : Kept P w K mg base 3 "_law_is_state" ["_law_found"] (sp_l_is_state K) := by
  refine T.d_l_is_state.kept sc_l_is_state (fun vs H Q E h => ?_) (fun cdv A outer s H vs Q E hr h => ?_)
  · obtain ⟨v, s, rfl, _⟩ := h
    rfl
  · obtain ⟨v, st, rfl, hv, q⟩ := h
    refine ⟨_, (pss_cons (ps_if (PW.pt (pw_or (pt_not (pt_val (pe_callB (call_isi_K (K := K) rfl) (by rfl) T.n_isinstance (by decide +kernel) (pa_cons (pv 0) (pa_cons (pe_bltn (v := .ty "tuple") (u := .type "tuple") (by rfl) T.n_tuple (by decide +kernel) rfl) pa_nil))))) (pw_or (pt_cmpR op_ne (pe_callB (call_len_seq_K (K := K) rfl) (by rfl) T.n_len (by decide +kernel) (pa_cons (pv 0) pa_nil)) pe_int (nomark _)) (pw_or1 (pt_not (pt_val (pe_fn (ok_l_whole (K := K) T) (hr.mono (by decide)) passL (by rfl) (pa_cons (pe_ix (ix_tup_K (K := K) rfl) (pv 0) pe_int (fun _ _ => rfl)) pa_nil))))))))
        (pss_one (ps_ret pe_bl))
        pss_nil)
      (pss_one (ps_ret (pe_and (pe_callB (call_isi_K (K := K) rfl) (by rfl) T.n_isinstance (by decide +kernel) (pa_cons (pe_ix (ix_tup_K (K := K) rfl) (pv 0) pe_int (fun _ _ => rfl)) (pa_cons (pe_bltn (v := .ty "tuple") (u := .type "tuple") (by rfl) T.n_tuple (by decide +kernel) rfl) pa_nil))) (pe_one (pe_fn (ok_l_hand (K := K) T) (hr.mono (by decide)) passL (by rfl) (pa_cons (pe_ix (ix_tup_K (K := K) rfl) (pv 0) pe_int (fun _ _ => rfl)) (pa_cons (pe_ix (ix_tup_K (K := K) rfl) (pv 0) pe_int (fun _ _ => rfl)) pa_nil)))))))), ?_⟩
    refine q_when (b := (!true) || (!decide ((([.int st.1, intsD st.2] : List PyData).length : Int) = 2) || !true)) (et_or (et_not (et_B (ev_isiD (n := "tuple") (ed_any (ev_var rfl) hv) (fun v H1 _ h => ty_tup h) (by decide +kernel)))) fun _ => et_or (et_test (ev_op (ev_lenD (ed_any (ev_var rfl) hv) (.inr rfl)) ev_c rv_neI)) fun _ => et_not (et_B (ev_call0 (ea_cons (ev_of_ed (ed_ixT (ed_any (ev_var rfl) hv) ev_c atI0)) ea_nil) sv_l_whole))) (fun hb H2 e2 => by simp at hb) (fun hb H2 e2 => ?_)
    have hv2 := dp_ex e2 hv
    refine s_ret (v := .bl (true && true)) (ev_andV (ev_isiD (n := "tuple") (d := intsD st.2) (ed_ixT (ed_any (ev_var rfl) hv2) ev_c atI1) (fun v H1 _ h => ty_tup h) (by decide +kernel)) fun _ => ev_callP (ea_dc (K := K) (d := intsD st.2) (ed_ixT (ed_any (ev_var rfl) hv2) ev_c atI1) (ea_dc (d := intsD st.2) (ed_ixT (ed_any (ev_var rfl) hv2) ev_c atI1) ea_dn)) fun vs H3 e3 hd2 => ?_) fun H4 e4 => q H4 (e2.trans e4)
    obtain ⟨v1, u1, rfl, hv1, hu1⟩ := dpAll2 hd2
    have := sv_l_hand hv1 hu1
    simpa using this
theorem sv_l_is_state {H : Hp} {v : V} {s : State} (h : Dp K H v (stateD s)) : SpV (sp_l_is_state K) [v] H (.bl true) := fun H1 e Q q E => ⟨v, s, rfl, dp_ex e h, q⟩
end

/-! ### what the layers keep -/
theorem layGo_srt {ds : List Door} {ks : List Key2} : ∀ (f : Nat) (layer S : List State), layer.Pairwise LtS → S.Nodup → ∀ r ∈ layGo ds ks f layer S, r ≠ [] ∧ r.Pairwise LtS
  | 0, _, _, _, _ => fun r hr => by simp [layGo] at hr
  | f + 1, layer, S, hl, hS => fun r hr => by
    simp only [layGo] at hr
    split at hr
    · cases hr
    · rename_i hne
      rcases List.mem_cons.mp hr with h | h
      · subst h
        exact ⟨hne, hl⟩
      · have hnd := nodup_newOf (A := layer.flatMap (nextS ds ks)) hS
        exact layGo_srt f _ _ (sortS_lt (List.nodup_append.mp hnd).2.1) hnd r h
theorem layGo_fst (ds : List Door) (ks : List Key2) (f : Nat) (s : State) (S : List State) : (layGo ds ks (f + 1) [s] S)[0]? = some [s] := by
  rw [layGo, if_neg (by simp)]
  rfl
structure RowsOk (n : Int) (ds : List Door) (ks : List Key2) (start : Int) (rows : List (List State)) : Prop where
  nd : rows.flatten.Nodup
  row : ∀ r ∈ rows, r ≠ [] ∧ r.Pairwise LtS
  vs : ∀ r ∈ rows, ∀ s ∈ r, VS n s
  fl : rows.flatten.length ≤ 1920
  len : rows.length ≤ 2000
  fst : rows[0]? = some [firstS ks start]
  lab : Lab (nextS ds ks) (firstS ks start) (rowsLbl 0 rows)
theorem rows_ok {n : Int} {ds : List Door} {ks : List Key2} (hn : n ≤ 60) (hw : ∀ d ∈ ds, WfD n d) {start : Int} (hs : Here n start) : RowsOk n ds ks start (layersF ds ks start) := by
  have e : rowsLbl 0 (layersF ds ks start) = labF ds ks start := rows_lab ds ks 2000 0 _ _
  have hL := lab_F (ks := ks) hn hw hs
  have hnd : (layersF ds ks start).flatten.Nodup := by
    rw [← rowsLbl_fst 0, e]
    exact hL.fn
  have hvs := layers_vs (ks := ks) hw hs
  refine ⟨hnd, layGo_srt 2000 _ _ (by simp) (by simp), hvs, ?_, layGo_len ds ks 2000 _ _, ?_, by rw [e]; exact hL⟩
  · have := vs_len hnd fun s h => by
      obtain ⟨r, hr, h2⟩ := List.mem_flatten.mp h
      exact hvs r hr s h2
    omega
  · exact layGo_fst ds ks 1999 _ _

/-! ### walks, and none shorter, in plain -/
theorem steps_form {ds : List Door} {ks : List Key2} {room : Int} {held : List Int} {s : State} (h : s ∈ stepsF ds ks room held) : s.2 = takenF ks s.1 held := by
  obtain ⟨d, _, hs⟩ := List.mem_flatMap.mp h
  unfold stepF at hs
  split at hs
  · split at hs
    · simp at hs
      subst hs
      rfl
    · split at hs
      · simp at hs
        subst hs
        rfl
      · simp at hs
  · simp at hs
def handOf (ks : List Key2) (l : Way) : List Int := l.foldl (fun h r => takenF ks r h) []
theorem handOf_push (ks : List Key2) (l : Way) (r : Int) : handOf ks (l ++ [r]) = takenF ks r (handOf ks l) := by
  unfold handOf
  rw [List.foldl_append]
  rfl
/-- a way that can be walked -/
structure PathOk (ds : List Door) (ks : List Key2) (start : Int) (s : State) (w : Way) : Prop where
  hd : w[0]? = some start
  last : w[w.length - 1]? = some s.1
  held : s.2 = handOf ks w
  stp : ∀ k r r', w[k]? = some r → w[k + 1]? = some r' → (r', takenF ks r' (handOf ks (w.take (k + 1)))) ∈ stepsF ds ks r (handOf ks (w.take (k + 1)))
theorem PathOk.push {ds : List Door} {ks : List Key2} {start : Int} {s o : State} {w : Way} (h : PathOk ds ks start s w) (ho : o ∈ nextS ds ks s) : PathOk ds ks start o (w ++ [o.1]) := by
  obtain ⟨hd, last, held, stp⟩ := h
  have hl : 0 < w.length := (List.getElem?_eq_some_iff.mp hd).1
  refine ⟨by rw [List.getElem?_append_left hl]; exact hd, ?_, ?_, fun k r r' h1 h2 => ?_⟩
  · rw [List.length_append, List.length_singleton, Nat.add_sub_cancel, List.getElem?_append_right (Nat.le_refl _)]
    simp
  · rw [handOf_push, ← held]
    exact steps_form ho
  · have hk : k + 1 < w.length + 1 := by
      have := (List.getElem?_eq_some_iff.mp h2).1
      simpa using this
    rw [List.take_append_of_le_length (by omega)]
    rw [List.getElem?_append_left (by omega)] at h1
    by_cases c : k + 1 < w.length
    · rw [List.getElem?_append_left c] at h2
      exact stp k r r' h1 h2
    · have e : k + 1 = w.length := by omega
      rw [List.getElem?_append_right (by omega), e, Nat.sub_self] at h2
      simp at h2
      subst h2
      rw [e, List.take_length, ← held]
      have e2 : w.length - 1 = k := by omega
      rw [e2, h1] at last
      cases last
      have := steps_form ho
      show (o.1, takenF ks o.1 s.2) ∈ _
      rw [← this]
      exact ho
theorem path_at (ds : List Door) (ks : List Key2) (start : Int) : ∀ t, ∀ p ∈ (wayAt ds ks start t).1, PathOk ds ks start p.1 p.2
  | 0 => fun p hp => by
    simp [wayAt] at hp
    subst hp
    refine ⟨rfl, rfl, rfl, fun k r r' h1 h2 => ?_⟩
    simp at h2
  | t + 1 => fun p hp => by
    obtain ⟨_, q, hq, h1, h2⟩ := onward_mem (show p ∈ onwardF ds ks (wayAt ds ks start t).1 (wayAt ds ks start t).2 from hp)
    have h := (path_at ds ks start t q hq).push h1
    rw [← h2] at h
    exact h
/-- layers and ways -/
def layAt (ds : List Door) (ks : List Key2) (start : Int) : Nat → List State × List State
  | 0 => ([firstS ks start], [firstS ks start])
  | t + 1 => (sortS (freshF ds ks (layAt ds ks start t).2 (layAt ds ks start t).1), (layAt ds ks start t).2 ++ freshF ds ks (layAt ds ks start t).2 (layAt ds ks start t).1)
theorem lay_way (ds : List Door) (ks : List Key2) (start : Int) : ∀ t x, (x ∈ (layAt ds ks start t).1 ↔ x ∈ keysW (wayAt ds ks start t).1) ∧ (x ∈ (layAt ds ks start t).2 ↔ x ∈ (wayAt ds ks start t).2)
  | 0 => fun x => by simp [layAt, wayAt]
  | t + 1 => fun x => by
    have ih := lay_way ds ks start t
    have h1 : x ∈ freshF ds ks (layAt ds ks start t).2 (layAt ds ks start t).1 ↔ x ∈ keysW (onwardF ds ks (wayAt ds ks start t).1 (wayAt ds ks start t).2) := by
      rw [onward_keys, freshF, mem_newOf, List.mem_flatMap, (ih x).2]
      constructor
      · rintro ⟨⟨a, ha, h1⟩, h2⟩
        obtain ⟨p, hp, rfl⟩ := List.mem_map.mp ((ih a).1.mp ha)
        exact ⟨h2, p, hp, h1⟩
      · rintro ⟨h2, p, hp, h1⟩
        exact ⟨⟨p.1, (ih p.1).1.mpr (List.mem_map.mpr ⟨p, hp, rfl⟩), h1⟩, h2⟩
    constructor
    · show x ∈ sortS _ ↔ _
      rw [mem_sortS]
      exact h1
    · show x ∈ _ ++ _ ↔ x ∈ _ ++ _
      rw [List.mem_append, List.mem_append, (ih x).2, h1]
theorem lay_get (ds : List Door) (ks : List Key2) (start : Int) : ∀ (f i k : Nat), k < f → (∀ j, j ≤ k → (layAt ds ks start (i + j)).1 ≠ []) → (layGo ds ks f (layAt ds ks start i).1 (layAt ds ks start i).2)[k]? = some (layAt ds ks start (i + k)).1
  | 0, _, _, h, _ => by omega
  | f + 1, i, k, h, hn => by
    rw [layGo, if_neg (show (layAt ds ks start i).1 ≠ [] from hn 0 (by omega))]
    cases k with
    | zero => rfl
    | succ k =>
      rw [List.getElem?_cons_succ]
      have := lay_get ds ks start f (i + 1) k (by omega) fun j hj => by
        have := hn (j + 1) (by omega)
        rw [show i + 1 + j = i + (j + 1) by omega]
        exact this
      rw [show i + (k + 1) = i + 1 + k by omega]
      exact this
theorem rows_at {n : Int} {ds : List Door} {ks : List Key2} {start : Int} (hw : ∀ d ∈ ds, WfD n d) (hs : Here n start) (hn : n ≤ 60) {t : Nat} (h : (wayAt ds ks start t).1 ≠ []) {k : Nat} (hk : k ≤ t) : ∃ r, (layersF ds ks start)[k]? = some r ∧ ∀ x, x ∈ r ↔ x ∈ keysW (wayAt ds ks start k).1 := by
  have ht := ways_t hw hs h
  refine ⟨(layAt ds ks start k).1, ?_, fun x => (lay_way ds ks start k x).1⟩
  have := lay_get ds ks start 2000 0 k (by omega) fun j hj => ?_
  · rw [Nat.zero_add] at this
    exact this
  · rw [Nat.zero_add]
    intro z
    apply h
    refine ways_nil (t := j) ?_ t (by omega)
    cases e : (wayAt ds ks start j).1 with
    | nil => rfl
    | cons a r =>
      have := (lay_way ds ks start j a.1).1.mpr (by rw [e]; simp)
      rw [z] at this
      cases this
theorem seen_at (ds : List Door) (ks : List Key2) (start : Int) : ∀ t x, x ∈ (wayAt ds ks start t).2 ↔ ∃ j, j ≤ t ∧ x ∈ keysW (wayAt ds ks start j).1
  | 0 => fun x => by
    constructor
    · intro h
      exact ⟨0, Nat.le_refl _, by simpa [wayAt] using h⟩
    · rintro ⟨j, hj, h⟩
      have : j = 0 := by omega
      subst this
      simpa [wayAt] using h
  | t + 1 => fun x => by
    show x ∈ _ ++ keysW (wayAt ds ks start (t + 1)).1 ↔ _
    rw [List.mem_append, seen_at ds ks start t x]
    constructor
    · rintro (⟨j, hj, h⟩ | h)
      · exact ⟨j, by omega, h⟩
      · exact ⟨t + 1, Nat.le_refl _, h⟩
    · rintro ⟨j, hj, h⟩
      by_cases c : j ≤ t
      · exact .inl ⟨j, c, h⟩
      · have : j = t + 1 := by omega
        subst this
        exact .inr h
theorem way_next {ds : List Door} {ks : List Key2} {start : Int} {t : Nat} {x y : State} (hx : x ∈ keysW (wayAt ds ks start t).1) (hy : y ∈ nextS ds ks x) : ∃ j, j ≤ t + 1 ∧ y ∈ keysW (wayAt ds ks start j).1 := by
  refine (seen_at ds ks start (t + 1) y).mp ?_
  show y ∈ _ ++ keysW (onwardF ds ks _ _)
  rw [List.mem_append]
  by_cases c : y ∈ (wayAt ds ks start t).2
  · exact .inl c
  · obtain ⟨p, hp, rfl⟩ := List.mem_map.mp hx
    exact .inr (onward_keys.mpr ⟨c, p, hp, hy⟩)
/-! ### where no walk leads there -/
def Rch (ds : List Door) (ks : List Key2) (start : Int) (x : State) : Prop := ∃ u, x ∈ keysW (wayAt ds ks start u).1
theorem Rch.next {ds : List Door} {ks : List Key2} {start : Int} {x y : State} (h : Rch ds ks start x) (hy : y ∈ nextS ds ks x) : Rch ds ks start y := by
  obtain ⟨u, hu⟩ := h
  obtain ⟨j, _, hj⟩ := way_next hu hy
  exact ⟨j, hj⟩
theorem NoneAt.rch {ds : List Door} {ks : List Key2} {start goal : Int} {t : Nat} (h : NoneAt ds ks start goal t) {x : State} (hx : Rch ds ks start x) : x.1 ≠ goal := by
  obtain ⟨u, hu⟩ := hx
  obtain ⟨p, hp, rfl⟩ := List.mem_map.mp hu
  by_cases c : u < t
  · exact bestF_none.mp (h.1 u c) p hp
  · rw [ways_nil h.2 u (by omega)] at hp
    cases hp
def Sub5 (h h' : List Int) : Prop := ∀ i : Nat, i < 5 → (i : Int) ∈ h → (i : Int) ∈ h'
theorem Sub5.trans {a b c : List Int} (h : Sub5 a b) (q : Sub5 b c) : Sub5 a c := fun i hi z => q i hi (h i hi z)
theorem sub_taken (ks : List Key2) (r : Int) (h : List Int) : Sub5 h (takenF ks r h) := fun i hi z => (takenF_mem hi).mpr (.inl z)
theorem opens_sub {n : Int} {d : Door} (hw : WfD n d) {h h' : List Int} (s : Sub5 h h') (o : opensF d h = true) : opensF d h' = true := by
  obtain ⟨d1, d2, l⟩ := d
  cases l with
  | none => rfl
  | some k =>
    have hk := hw.2.2
    simp [lockOk] at hk
    have hk2 : k.toNat < 5 := by omega
    have e : ((k.toNat : Nat) : Int) = k := by omega
    simp only [opensF, decide_eq_true_eq] at o ⊢
    have := s k.toNat hk2 (by rw [e]; exact o)
    rw [e] at this
    exact this
theorem step_1 {ds : List Door} {ks : List Key2} {d : Door} {h : List Int} (hd : d ∈ ds) (o : opensF d h = true) : (d.2.1, takenF ks d.2.1 h) ∈ nextS ds ks (d.1, h) := List.mem_flatMap.mpr ⟨d, hd, by simp [stepF, o]⟩
theorem step_2 {ds : List Door} {ks : List Key2} {d : Door} {h : List Int} (hd : d ∈ ds) (o : opensF d h = true) (hne : d.1 ≠ d.2.1) : (d.1, takenF ks d.1 h) ∈ nextS ds ks (d.2.1, h) := List.mem_flatMap.mpr ⟨d, hd, by simp [stepF, o, hne]⟩
theorem heldOf_sub (ks : List Key2) {a b : List Int} (h : ∀ x ∈ a, x ∈ b) : Sub5 (heldOf ks a) (heldOf ks b) := fun i hi z => by
  unfold heldOf at *
  rw [mem_kinds hi] at *
  simp only [decide_eq_true_eq] at *
  obtain ⟨r, h1, h2⟩ := z
  exact ⟨r, h r h1, h2⟩
theorem due_door {n : Int} {ds : List Door} {ks : List Key2} {rooms : List Int} {r : Int} (hw : ∀ d ∈ ds, WfD n d) (h : dueF ds ks rooms = some r) : ∃ d ∈ ds, opensF d (heldOf ks rooms) = true ∧ ((d.1 ∈ rooms ∧ d.2.1 ∉ rooms ∧ r = d.2.1) ∨ (d.2.1 ∈ rooms ∧ d.1 ∉ rooms ∧ r = d.1)) := by
  rw [← moreF_due (n := n) hw] at h
  obtain ⟨d, hd, he⟩ := List.exists_of_findSome?_eq_some h
  refine ⟨d, hd, ?_⟩
  unfold moreD at he
  split at he
  · rename_i o
    refine ⟨o, ?_⟩
    split at he
    · rename_i c
      cases he
      exact .inl ⟨c.1, c.2, rfl⟩
    · split at he
      · rename_i c
        cases he
        exact .inr ⟨c.1, c.2, rfl⟩
      · cases he
  · cases he
structure Cn (ds : List Door) (ks : List Key2) (start : Int) (R : List Int) : Prop where
  conn : ∀ x ∈ R, ∀ y ∈ R, ∀ h, Sub5 (heldOf ks R) h → Rch ds ks start (x, h) → ∃ h', Sub5 h h' ∧ Rch ds ks start (y, h')
  one : ∃ x ∈ R, ∃ h, Sub5 (heldOf ks R) h ∧ Rch ds ks start (x, h)
theorem Cn.push {n : Int} {ds : List Door} {ks : List Key2} {start r : Int} {R : List Int} (hw : ∀ d ∈ ds, WfD n d) (c : Cn ds ks start R) (e : dueF ds ks R = some r) : Cn ds ks start (R ++ [r]) := by
  obtain ⟨conn, x1, hx1, h1, s1, r1⟩ := c
  obtain ⟨d, hd, ho, hc⟩ := due_door hw e
  have hwd := hw d hd
  -- the end within, and the steps between it and r
  obtain ⟨z, hz, fwd, bwd⟩ : ∃ z ∈ R, (∀ h, Sub5 (heldOf ks R) h → Rch ds ks start (z, h) → Rch ds ks start (r, takenF ks r h)) ∧ (∀ h, Sub5 (heldOf ks R) h → Rch ds ks start (r, h) → Rch ds ks start (z, takenF ks z h)) := by
    rcases hc with ⟨a, b, rfl⟩ | ⟨a, b, rfl⟩
    · have hne : d.1 ≠ d.2.1 := fun z => b (by rw [← z]; exact a)
      exact ⟨d.1, a, fun h s q => q.next (step_1 hd (opens_sub hwd s ho)), fun h s q => q.next (step_2 hd (opens_sub hwd s ho) hne)⟩
    · have hne : d.1 ≠ d.2.1 := fun z => b (by rw [z]; exact a)
      exact ⟨d.2.1, a, fun h s q => q.next (step_2 hd (opens_sub hwd s ho) hne), fun h s q => q.next (step_1 hd (opens_sub hwd s ho))⟩
  have hsub : Sub5 (heldOf ks R) (heldOf ks (R ++ [r])) := heldOf_sub ks fun x hx => List.mem_append_left _ hx
  refine ⟨fun x hx y hy h s q => ?_, ?_⟩
  · have s' := hsub.trans s
    rcases List.mem_append.mp hx with hx1 | hx1 <;> rcases List.mem_append.mp hy with hy1 | hy1
    · exact conn x hx1 y hy1 h s' q
    · have ey : y = r := by simpa using hy1
      obtain ⟨h', s2, q2⟩ := conn x hx1 z hz h s' q
      rw [ey]
      exact ⟨_, s2.trans (sub_taken ks r h'), fwd h' (s'.trans s2) q2⟩
    · have ex : x = r := by simpa using hx1
      rw [ex] at q
      have q2 := bwd h s' q
      obtain ⟨h', s3, q3⟩ := conn z hz y hy1 _ (s'.trans (sub_taken ks z h)) q2
      exact ⟨h', (sub_taken ks z h).trans s3, q3⟩
    · have ex : x = r := by simpa using hx1
      have ey : y = r := by simpa using hy1
      rw [ey, ← ex]
      exact ⟨h, fun i _ z => z, q⟩
  · obtain ⟨h', s2, q2⟩ := conn x1 hx1 z hz h1 s1 r1
    refine ⟨r, by simp, _, ?_, fwd h' (s1.trans s2) q2⟩
    intro i hi hm
    rw [takenF_mem hi]
    unfold heldOf at hm
    rw [mem_kinds hi] at hm
    simp only [decide_eq_true_eq] at hm
    obtain ⟨r2, hr2, hk⟩ := hm
    rcases List.mem_append.mp hr2 with h | h
    · refine .inl (s2 i hi (s1 i hi ?_))
      unfold heldOf
      rw [mem_kinds hi]
      simp only [decide_eq_true_eq]
      exact ⟨r2, h, hk⟩
    · simp at h
      subst h
      exact .inr hk
theorem come_cn {n : Int} {ds : List Door} {ks : List Key2} {start : Int} {R : List Int} (hw : ∀ d ∈ ds, WfD n d) (h : ComeI n ds ks start R) : ∀ k, 0 < k → k ≤ R.length → Cn ds ks start (R.take k)
  | 0, h1, _ => by omega
  | k + 1, _, h2 => by
    by_cases c : k = 0
    · subst c
      have e : R.take 1 = [start] := by
        cases hR : R with
        | nil => rw [hR] at h2; simp at h2
        | cons a r =>
          have := h.fst
          rw [hR] at this
          simp at this
          simp [this]
      rw [Nat.zero_add, e]
      refine ⟨fun x hx y hy h' s q => ?_, start, by simp, takenF ks start [], ?_, 0, by simp [wayAt, firstS]⟩
      · simp at hx hy
        subst hx
        subst hy
        exact ⟨h', fun i _ z => z, q⟩
      · have := taken_heldOf ks [] start
        rw [heldOf_nil] at this
        rw [this]
        exact fun i _ z => z
    · have e : R.take (k + 1) = R.take k ++ [R[k]] := by rw [List.take_succ, List.getElem?_eq_getElem (by omega)]; rfl
      rw [e]
      refine (come_cn hw h k (by omega) (by omega)).push hw ?_
      rw [h.stp k (by omega) (by omega)]
      exact List.getElem?_eq_getElem (by omega)
theorem shut_goal {n : Int} {ds : List Door} {ks : List Key2} {start goal : Int} {R : List Int} {t : Nat} (hw : ∀ d ∈ ds, WfD n d) (h : ComeI n ds ks start R) (hN : NoneAt ds ks start goal t) : goal ∉ R := by
  intro z
  have hl := h.len
  have c := come_cn hw h R.length hl.2 (Nat.le_refl _)
  rw [List.take_length] at c
  obtain ⟨x, hx, h1, s1, r1⟩ := c.one
  obtain ⟨h', _, r2⟩ := c.conn x hx goal z h1 s1 r1
  exact hN.rch r2 rfl
/-- of the rooms come to -/
theorem due_none {n : Int} {ds : List Door} {ks : List Key2} {R : List Int} (hw : ∀ d ∈ ds, WfD n d) (h : dueF ds ks R = none) {d : Door} (hd : d ∈ ds) (hc : decide (d.1 ∈ R) ≠ decide (d.2.1 ∈ R)) : opensF d (heldOf ks R) = false := by
  have h1 := List.findSome?_eq_none_iff.mp h d hd
  rw [opens_heldOf (hw d hd)]
  unfold dueD at h1
  rw [if_pos (by simpa using hc)] at h1
  cases e : lieF ks R d.2.2 with
  | false => rfl
  | true =>
    rw [if_pos e] at h1
    cases h1

section
variable {P : Program} {w : World} {K : PySem.W.Frag} {mg : Str → Option Value} {base : Heap}
/-! ### the goal -/
def sp_l_goal (K : PySem.W.Frag) : Sp := fun vs H Q _ => ∃ (a : Addr) (ns : List Int) (n : Int), vs = [.ref a, .int n] ∧ SqL K H a (ns.map V.int) ∧ SizeOk (cellAt ns 0) n ∧ ∀ g, Here n g → ∀ H2, Ex H H2 → Q (.int g) H2
theorem ok_l_goal (T : Txt K mg) : Kept P w K mg base 2 "_law_goal" ["_law_script", "_law_size_here"] (sp_l_goal K) := by
  refine T.d_l_goal.kept sc_l_goal (fun vs H Q E h => ?_) (fun cdv A outer s H vs Q E hr h => ?_)
  · obtain ⟨a, ns, n, rfl, _⟩ := h
    rfl
  · obtain ⟨a, ns, n, rfl, hS, hz, q⟩ := h
    refine ⟨_, (pss_cons (ps_set (i := 2) sc_l_goal.nd rfl (Or.inl rfl) (pe_fn (ok_l_cell_at (K := K) T) (hr.mono (by decide)) passL (by rfl) (pa_cons (pv 0) (pa_cons pe_int pa_nil))))
      (pss_cons (ps_if (PW.pt (pw_and (pt_cmpR op_eq (pe_op op_mod (pv 2) pe_int) pe_int (nomark _)) (pw_and1 (pt_cmpR op_eq (pe_op op_mod (pe_fn (ok_l_cell_at (K := K) T) (hr.mono (by decide)) passL (by rfl) (pa_cons (pv 0) (pa_cons pe_int pa_nil))) pe_int) pe_int (nomark _)))))
        (pss_one (ps_ret (pe_op op_sub (pv 1) pe_int)))
        pss_nil)
      (pss_cons (ps_if (PW.pt (pw_and (pt_cmpR (op_in_seq_K (K := K) rfl) (pe_op op_mod (pv 2) pe_int) (pe_tup (pa_cons pe_int (pa_cons pe_int pa_nil))) (by rfl)) (pw_and1 (pt_cmpR op_gt (pe_op op_mod (pe_fn (ok_l_cell_at (K := K) T) (hr.mono (by decide)) passL (by rfl) (pa_cons (pv 0) (pa_cons pe_int pa_nil))) pe_int) pe_int (nomark _)))))
        (pss_one (ps_ret (pe_op op_mod (pe_op op_mul (pe_op op_sub (pv 1) pe_int) (pe_op op_add pe_int (pe_op op_mod (pe_fn (ok_l_mix (K := K) T) (hr.mono (by decide)) passL (by rfl) (pa_cons (pv 2) (pa_cons pe_int pa_nil))) (pe_op op_sub (pv 1) pe_int)))) (pv 1))))
        pss_nil)
      (pss_one (ps_ret (pe_op op_mod (pe_fn (ok_l_cell_at (K := K) T) (hr.mono (by decide)) passL (by rfl) (pa_cons (pv 0) (pa_cons pe_int pa_nil))) (pv 1))))))), ?_⟩
    have hn1 : 1 ≤ n := hz.1
    obtain ⟨f, ef⟩ : ∃ f, cellAt ns 0 = f := ⟨_, rfl⟩
    rw [ef] at hz
    refine q_asg (v := .int f) ?_ fun H1 e1 => ?_
    · rw [← ef]
      exact ev_call0 (ea_cons (ev_var rfl) (ea_cons ev_c ea_nil)) (sv_l_cell_at hS (by decide))
    have c2 : ∀ {σ : L2.St} {H' : Hp}, Ex H H' → σ[0]? = some (some (.ref a)) → Ev (tCall (sp_l_cell_at K) [] E (tCons (tVar 0) (tCons (tC (.int 2)) tNil))) σ H' (.int (cellAt ns 2)) := fun e h => ev_call0 (ea_cons (ev_var h) (ea_cons ev_c ea_nil)) (sv_l_cell_at (ex_l e hS) (by decide))
    refine q_when (b := decide (f % 12 = 10) && decide (cellAt ns 2 % 2 = 1)) (et_and (et_test (by walk_at "mz ev")) fun _ => et_test (ev_op (ev_op (c2 e1 rfl) ev_c (rv_I (by walk_at "mz side"))) ev_c rv_eqI)) (fun _ H2 e2 => ?_) (fun _ H2 e2 => ?_)
    · exact s_ret (v := .int (n - 1)) (by walk_at "mz ev") fun H3 e3 => q (n - 1) ⟨by omega, by omega⟩ H3 ((e1.trans e2).trans e3)
    have e12 := e1.trans e2
    refine q_when (b := decide (f % 12 ∈ [6, 8]) && decide ((0 : Int) < cellAt ns 2 % 4)) (et_and (et_test (ev_in2 (by walk_at "mz ev"))) fun _ => et_test (ev_op (ev_op (c2 e12 rfl) ev_c (rv_I (by walk_at "mz side"))) ev_c rv_I0)) (fun hb H3 e3 => ?_) (fun _ H3 e3 => ?_)
    · have hb1 : f % 12 = 6 ∨ f % 12 = 8 := by
        simp only [Bool.and_eq_true, decide_eq_true_eq] at hb
        simpa using hb.1
      have hn := hz.2.2.2.2.2.2.2.1 hb1
      obtain ⟨m, em⟩ : ∃ m, mix f 0 = m := ⟨_, rfl⟩
      refine s_ret (v := .int ((n - 1) * (1 + m % (n - 1)) % n)) ?_ fun H4 e4 => q _ (mod_here (by omega) _) H4 ((e12.trans e3).trans e4)
      have hr0 : 0 ≤ m % (n - 1) := Int.emod_nonneg _ (by omega)
      have hr1 : m % (n - 1) < n - 1 := Int.emod_lt_of_pos _ (by omega)
      rw [← em] at hr0 hr1 ⊢
      exact ev_op (ev_op (ev_op (ev_var rfl) ev_c rv_I0) (ev_op ev_c (ev_op (ev_call0 (ea_cons (ev_var rfl) (ea_cons ev_c ea_nil)) sv_l_mix) (ev_op (ev_var rfl) ev_c rv_I0) (rv_I (by omega))) rv_I0) (rv_I (by walk_at "mz side"))) (ev_var rfl) (rv_I (by omega))
    · exact s_ret (v := .int (cellAt ns 2 % n)) (ev_op (c2 (e12.trans e3) rfl) (ev_var rfl) (rv_I (by omega))) fun H4 e4 => q _ (mod_here (by omega) _) H4 ((e12.trans e3).trans e4)
end

section
variable {P : Program} {w : World} {K : PySem.W.Frag} {mg : Str → Option Value} {base : Heap}
/-! ### what the guide gives, as data -/
theorem dp_walk {H : Hp} {p l : Addr} {r : Way} (hp : H p = some (.tup [.str "walk", .ref l])) (hl : LstT H l (r.map PyData.int)) : Dp K H (.ref p) (.tuple [.str "walk", intlD r]) := .tup (SqT.of hp) (.cons (.str _) (.cons hl.dp .nil))
theorem dp_shut {H : Hp} {p l : Addr} {hv : V} {R : List Int} {ks : List Key2} (hp : H p = some (.tup [.str "shut", .ref l, hv])) (hl : LstT H l (R.map PyData.int)) (hh : Td H hv (intsD (heldOf ks R))) : Dp K H (.ref p) (.tuple [.str "shut", intlD R, intsD (heldOf ks R)]) := .tup (SqT.of hp) (.cons (.str _) (.cons hl.dp (.cons hh.dp .nil)))
theorem ed_guideW {σ : L2.St} {H : Hp} {tr : TA} {E : XK} {n start goal : Int} {ds : List Door} {ks : List Key2} {t : Nat} {r : Way} (h : EaD K tr σ H [mazeF n ds ks, .int start, .int goal]) (hok : DoorsOk n ds) (h60 : n ≤ 60) (hst : Here n start) (hgo : Here n goal) (hF : FirstAt ds ks start goal t r) : EvD K (tCall (sp_guide K) [] E tr) σ H (.tuple [.str "walk", intlD r]) := fun H1 e Q q => h H1 e _ fun vs H2 e2 hvs => by
  obtain ⟨v, u, x, rfl, h1, h2, h3⟩ := dpAll3 hvs
  cases dp_int_inv h2
  cases dp_int_inv h3
  refine ⟨v, n, start, goal, ds, ks, rfl, h1, hok, h60, fun _ _ => ⟨fun t2 r2 p l H3 hF2 nl e3 hp hl => ?_, fun t2 R p l hv H3 hN hR nl e3 hp hl hhv => ?_⟩, fun z => absurd ⟨hst, hgo⟩ z⟩
  · have e := hF.uniq hF2
    subst e
    exact q _ H3 (e2.trans e3) (dp_walk hp hl)
  · exact (hF.no hN).elim
theorem ed_guideS {σ : L2.St} {H : Hp} {tr : TA} {E : XK} {n start goal : Int} {ds : List Door} {ks : List Key2} {t : Nat} {R : List Int} (h : EaD K tr σ H [mazeF n ds ks, .int start, .int goal]) (hok : DoorsOk n ds) (h60 : n ≤ 60) (hst : Here n start) (hgo : Here n goal) (hN : NoneAt ds ks start goal t) (hR : ComeOk n ds ks start R) : EvD K (tCall (sp_guide K) [] E tr) σ H (.tuple [.str "shut", intlD R, intsD (heldOf ks R)]) := fun H1 e Q q => h H1 e _ fun vs H2 e2 hvs => by
  obtain ⟨v, u, x, rfl, h1, h2, h3⟩ := dpAll3 hvs
  cases dp_int_inv h2
  cases dp_int_inv h3
  refine ⟨v, n, start, goal, ds, ks, rfl, h1, hok, h60, fun _ _ => ⟨fun t2 r2 p l H3 hF2 nl e3 hp hl => ?_, fun t2 R2 p l hv H3 hN2 hR2 nl e3 hp hl hhv => ?_⟩, fun z => absurd ⟨hst, hgo⟩ z⟩
  · exact (hF2.no hN).elim
  · have e := come_uniq hR hR2
    subst e
    exact q _ H3 (e2.trans e3) (dp_shut hp hl hhv)
theorem first_lt {n start goal : Int} {ds : List Door} {ks : List Key2} {t : Nat} {r : Way} (hw : ∀ d ∈ ds, WfD n d) (hs : Here n start) (h : FirstAt ds ks start goal t r) : t < n.toNat * 32 := ways_t (ks := ks) hw hs fun z => by
  have := h.2
  rw [z] at this
  cases this
theorem ep_callS {σ : L2.St} {H : Hp} {sp : Sp} {E : L2.St → XK} {tr : TA} {vs : List V} {Pd : V → Hp → Prop} (h : EvA tr σ H vs) (hs : ∀ H1, Ex H H1 → ∀ (Q : VK) (E' : XK), (∀ v H2, Ex H1 H2 → Pd v H2 → Q v H2) → sp vs H1 Q E') : EvP (tCallS sp E tr) σ H Pd := fun H1 e Q q => h H1 e _ fun H2 e2 => hs H2 (e.trans e2) Q (E σ) fun v H3 e3 p => q v H3 (e2.trans e3) p
theorem s_dropS {σ : L2.St} {H : Hp} {D : Ends} {sp : Sp} {E : L2.St → XK} {tr : TA} {ds : List PyData} (h : EaD K tr σ H ds) (k : ∀ vs H1, Ex H H1 → DpAll K H1 vs ds → sp vs H1 (fun _ H2 => D.nx σ H2) (E σ)) : tDrop (tCallS sp E tr) D σ H := h H (Ex.refl H) _ fun vs H1 e1 p => k vs H1 e1 p
end

section
variable {P : Program} {w : World} {K : PySem.W.Frag} {mg : Str → Option Value} {base : Heap}
theorem td_lock {H : Hp} {x : V} {l : Option Int} (h : Dp K H x (lockD l)) : Td H x (lockD l) := by
  cases l with
  | none => cases h; exact .non
  | some k => cases h; exact .int k
theorem nb_locks (ls : List (Option Int)) : nb (.list (ls.map lockD)) = true := by simp only [nb]; exact nbAll_map nb_lock ls
theorem sh_locks (ls : List (Option Int)) : SeqAt.shaped (.list (ls.map lockD)) = true := shaped_of (nb_locks ls) (by
  have := depth_list (n := 0) (depth_map (f := lockD) (fun i => by rw [dep_lock]; exact Nat.le_refl 0) ls)
  omega)
theorem eqv_locks (ds es : List (Option Int)) : PyData.eqv (.list (ds.map lockD)) (.list (es.map lockD)) = decide (ds = es) := eqv_dec (nb_locks ds) (nb_locks es) ⟨fun e => map_inj (f := lockD) (fun a b z => by
  cases a <;> cases b <;> simp [lockD] at z <;> simp [z]) (by simpa using e), fun e => by rw [e]⟩
theorem td_l_takenU {σ : L2.St} {H : Hp} {t1 t2 : TE} {E : XK} {v : V} {room : Int} {ks : List Key2} (h1 : Ev t1 σ H v) (h2 : Ev t2 σ H (.int room)) (hm : Dp K H v (.list (ks.map keyD))) : EvTd (tCall (sp_l_taken K) [] E (tCons t1 (tCons t2 (tCons (tTup tNil) tNil)))) σ H (intsD (takenF ks room [])) := by
  intro H3 e3 Q' q'
  refine ea_pv (R := fun vs H' => ∃ hv, vs = [v, .int room, hv] ∧ Td H' hv (intsD [])) h1 (fun H4 e4 => ea_pv (h2.mono e4) fun H5 e5 => ea_pc td_unit0 fun u H6 e6 hu => ea_pn fun H7 e7 => ⟨u, rfl, hu.ex e7⟩) H3 e3 _ fun vs H4 e4 hvs => ?_
  obtain ⟨hv, rfl, hhv⟩ := hvs
  exact ⟨v, hv, room, ks, [], rfl, dp_ex (e3.trans e4) hm, hhv.dp, fun v H5 e5 p => q' v H5 (e4.trans e5) p⟩
end

section
variable {P : Program} {w : World} {K : PySem.W.Frag} {mg : Str → Option Value} {base : Heap}
/-! ### a walk, gone through by the law -/
theorem atI_neg1 {α : Type} {xs : List α} {v : α} (h : xs[xs.length - 1]? = some v) : atI xs (-1) = some v := by
  have hl : 0 < xs.length := by
    have := (List.getElem?_eq_some_iff.mp h).1
    omega
  unfold atI ixN
  rw [if_neg (by omega), if_pos (by omega)]
  show xs[(-1 + (xs.length : Int)).toNat]? = some v
  rw [show (-1 + (xs.length : Int)).toNat = xs.length - 1 by omega]
  exact h
theorem any_state (s : State) : ∀ ss : List State, ((ss.map stateD).any fun z => PyData.eqv z (stateD s)) = decide (s ∈ ss)
  | [] => by simp
  | a :: r => by
    have h := any_state s r
    have e0 : PyData.eqv (stateD a) (stateD s) = decide (a = s) := eqv_dec (nb_state a) (nb_state s) ⟨fun e => stateD_inj e, fun e => by rw [e]⟩
    rw [List.map_cons, List.any_cons, h, e0]
    by_cases e : a = s
    · subst e; simp
    · have e2 : ¬ s = a := fun z => e z.symm
      simp [e, e2]
theorem sh_state (s : State) : SeqAt.shaped (stateD s) = true := shaped_of (nb_state s) (by have := dep_state s; omega)
def sp_l_walks (K : PySem.W.Frag) : Sp := fun vs H Q _ => ∃ (dv lv : V) (l : Addr) (start goal : Int) (ds : List Door) (ks : List Key2) (w : Way) (s : State), vs = [dv, lv, .ref l, .int start, .int goal] ∧ Dp K H dv (.list (ds.map doorD)) ∧ Dp K H lv (.list (ks.map keyD)) ∧ LstT H l (w.map PyData.int) ∧ PathOk ds ks start s w ∧ s.1 = goal ∧ w.length ≤ 2000 ∧ ds.length ≤ 1000 ∧ ∀ H2, Ex H H2 → Q (.bl true) H2
theorem ok_l_walks (T : Txt K mg) : Kept P w K mg base 3 "_law_walks" ["_law_doors_here", "_law_lying_here", "_law_walk", "_law_start", "_law_goal_here"] (sp_l_walks K) := by
  refine T.d_l_walks.kept sc_l_walks (fun vs H Q E h => ?_) (fun cdv A outer s H vs Q E hr h => ?_)
  · obtain ⟨dv, lv, l, start, goal, ds, ks, w, s, rfl, _⟩ := h
    rfl
  · obtain ⟨dv, lv, l, start, goal, ds, ks, wy, st, rfl, hdv, hlv, hl, hp, hg, hwl, hdl, q⟩ := h
    refine ⟨_, (pss_cons (ps_if (PW.pt (pw_or (pt_not (pt_val (pe_callB (call_isi_K (K := K) rfl) (by rfl) T.n_isinstance (by decide +kernel) (pa_cons (pv 2) (pa_cons (pe_bltn (v := .ty "list") (u := .type "list") (by rfl) T.n_list (by decide +kernel) rfl) pa_nil))))) (pw_or1 (pt_cmpR op_lt (pe_callB (call_len_seq_K (K := K) rfl) (by rfl) T.n_len (by decide +kernel) (pa_cons (pv 2) pa_nil)) pe_int (nomark _)))))
        (pss_one (ps_ret pe_bl))
        pss_nil)
      (pss_cons (ps_if (PW.pt (pw_or (pt_cmpR op_ne (pe_ix (ix_list_K (K := K) rfl) (pv 2) pe_int (fun _ _ => rfl)) (pv 3) (nomark _)) (pw_or1 (pt_cmpR op_ne (pe_ix (ix_list_K (K := K) rfl) (pv 2) (pe_un un_neg pe_int) (fun _ _ => rfl)) (pv 4) (nomark _)))))
        (pss_one (ps_ret pe_bl))
        pss_nil)
      (pss_cons (ps_set (i := 5) sc_l_walks.nd rfl (Or.inl rfl) (pe_tup pa_nil))
      (pss_cons (ps_for (passes_of rfl) rfl (pi_range1 (by rfl) T.n_range (pa_cons (pe_callB (call_len_seq_K (K := K) rfl) (by rfl) T.n_len (by decide +kernel) (pa_cons (pv 2) pa_nil)) pa_nil)) (pg_name (i := 6) sc_l_walks.nd rfl (Or.inl rfl))
        (pss_cons (ps_if (pt_not (pt_val (pe_fn (ok_l_whole (K := K) T) (hr.mono (by decide)) passL (by rfl) (pa_cons (pe_ix (ix_list_K (K := K) rfl) (pv 2) (pv 6) (fun _ _ => rfl)) pa_nil))))
        (pss_one (ps_ret pe_bl))
        pss_nil)
      (pss_cons (ps_set (i := 7) sc_l_walks.nd rfl (Or.inl rfl) (pe_tup (pa_cons (pe_ix (ix_list_K (K := K) rfl) (pv 2) (pv 6) (fun _ _ => rfl)) (pa_cons (pe_fn (ok_l_taken (K := K) T) (hr.mono (by decide)) passL (by rfl) (pa_cons (pv 1) (pa_cons (pe_ix (ix_list_K (K := K) rfl) (pv 2) (pv 6) (fun _ _ => rfl)) (pa_cons (pv 5) pa_nil)))) pa_nil))))
      (pss_cut (ps_if (pt_cmpR op_gt (pv 6) pe_int (nomark _))
        (pss_cons (ps_set (i := 8) sc_l_walks.nd rfl (Or.inl rfl) (pe_fn (ok_l_steps (K := K) T) (hr.mono (by decide)) passL (by rfl) (pa_cons (pv 0) (pa_cons (pv 1) (pa_cons (pe_ix (ix_list_K (K := K) rfl) (pv 2) (pe_op op_sub (pv 6) pe_int) (fun _ _ => rfl)) (pa_cons (pv 5) pa_nil))))))
      (pss_one (ps_if (pt_cmpR (op_notInD_K (K := K) rfl (u65 hr)) (pv 7) (pv 8) (by rfl))
        (pss_one (ps_ret pe_bl))
        pss_nil)))
        pss_nil)
      (pss_one (ps_set (i := 5) sc_l_walks.nd rfl (Or.inl rfl) (pe_ix (ix_tup_K (K := K) rfl) (pv 7) pe_int (fun _ _ => rfl))))))))
      (pss_one (ps_ret pe_bl)))))), ?_⟩
    have hw0 : 0 < wy.length := (List.getElem?_eq_some_iff.mp hp.hd).1
    have item : ∀ {σ : L2.St} {H' : Hp} {tb : TE} {i : Int} {r : Int}, Ex H H' → σ[2]? = some (some (.ref l)) → Ev tb σ H' (.int i) → atI (wy.map PyData.int) i = some (.int r) → Ev (tOp (rIxL K) (tVar 2) tb) σ H' (.int r) := fun e h hb ha => ev_of_td (td_ixLV (ev_var h) (hl.ex e) hb ha)
    refine q_when (b := (!true) || decide (((wy.map PyData.int).length : Int) < 1)) (et_or (et_not (et_B (ev_isiD (K := K) (n := "list") (ed_any (ev_var rfl) hl.dp) (fun v H1 _ h => ty_lst h) (by decide +kernel)))) fun _ => et_test (ev_op (ev_lenD (K := K) (ed_any (ev_var rfl) hl.dp) (.inl rfl)) ev_c rv_I0)) (fun hb H1 e1 => ?_) (fun hb H1 e1 => ?_)
    · simp at hb
      omega
    refine q_when (b := (!decide (start = start)) || !decide (st.1 = goal)) (et_or (et_test (ev_op (item e1 rfl ev_c (at0 (j := 0) (by rw [List.getElem?_map, hp.hd]; rfl))) (ev_var rfl) rv_neI)) fun _ => et_test (ev_op (item e1 rfl (ev_un ev_c ru_neg) (atI_neg1 (by rw [List.length_map, List.getElem?_map, hp.last]; rfl))) (ev_var rfl) rv_neI)) (fun hb H2 e2 => ?_) (fun hb H2 e2 => ?_)
    · rw [hg] at hb
      simp at hb
    have e12 := e1.trans e2
    refine q_asgP (P := fun u H' => Td H' u (intsD [])) td_unit0 fun u H3 e3 hu => ?_
    have e13 := e12.trans e3
    refine q_forR1 (n := (wy.length : Int)) (ea_cons (ev_is (ev_lenD (K := K) (ed_any (ev_var rfl) (hl.ex e13).dp) (.inl rfl)) (by rw [List.length_map])) ea_nil) ⟨by omega, by omega⟩ (fun i σ' H' => Ex H H' ∧ ∃ hv y6 y7 y8, σ' = [some dv, some lv, some (.ref l), some (.int start), some (.int goal), some hv, y6, y7, y8] ∧ Td H' hv (intsD (handOf ks (wy.take i)))) (fun H4 e4 => ⟨e13.trans e4, u, none, none, none, rfl, by rw [List.take_zero]; exact hu.ex e4⟩) (fun i σ' H' hi hP => ?_) (fun σ' H' hP => ?_)
    · obtain ⟨eH, hv, y6, y7, y8, rfl, hh⟩ := hP
      have hi2 : i < wy.length := by omega
      obtain ⟨r, hri⟩ : ∃ r, wy[i]? = some r := ⟨_, List.getElem?_eq_getElem hi2⟩
      have hai : atI (wy.map PyData.int) (i : Int) = some (.int r) := at0 (by rw [List.getElem?_map, hri]; rfl)
      have htk : wy.take (i + 1) = wy.take i ++ [r] := by rw [List.take_succ, hri]; rfl
      refine q_when (b := !true) (et_not (et_B (ev_call0 (ea_cons (item eH rfl (ev_var rfl) hai) ea_nil) sv_l_whole))) (fun z => Bool.noConfusion z) (fun _ H4 e4 => ?_)
      have eH4 := eH.trans e4
      refine q_asgP (P := fun u H' => Td H' u (stateD (r, takenF ks r (handOf ks (wy.take i))))) (td_state (item eH4 rfl (ev_var rfl) hai) (td_l_takenC (ea_cons (ev_var rfl) (ea_cons (item eH4 rfl (ev_var rfl) hai) (ea_cons (ev_var rfl) ea_nil))) (dp_ex eH4 hlv) (hh.ex e4).dp)) fun hr5 H5 e5 hhere => ?_
      have eH5 := eH4.trans e5
      have hh5 := hh.ex (e4.trans e5)
      refine q_cut (M := fun σ' H' => Ex H5 H' ∧ ∃ y8, σ' = [some dv, some lv, some (.ref l), some (.int start), some (.int goal), some hv, some (.int (i : Int)), some hr5, y8]) ?_ fun σ' H6 hM => ?_
      · refine s_when (b := decide ((0 : Int) < (i : Int))) (et_test (ev_op (ev_var rfl) ev_c rv_I0)) (fun hb H6 e6 => ?_) (fun _ H6 e6 => ⟨e6, y8, rfl⟩)
        have hi0 : 0 < i := by simpa using hb
        have eH6 := eH5.trans e6
        obtain ⟨r0, hr0⟩ : ∃ r0, wy[i - 1]? = some r0 := ⟨_, List.getElem?_eq_getElem (by omega)⟩
        have hai0 : atI (wy.map PyData.int) ((i : Int) - 1) = some (.int r0) := by
          rw [show (i : Int) - 1 = ((i - 1 : Nat) : Int) by omega]
          exact at0 (by rw [List.getElem?_map, hr0]; rfl)
        have hst := hp.stp (i - 1) r0 r hr0 (by rw [show i - 1 + 1 = i by omega]; exact hri)
        rw [show i - 1 + 1 = i by omega] at hst
        refine q_asgLT (lt_l_stepsC (ds := ds) (ks := ks) (held := handOf ks (wy.take i)) (ea_cons (ev_var rfl) (ea_cons (ev_var rfl) (ea_cons (item eH6 rfl (ev_op (ev_var rfl) ev_c rv_I0) hai0) (ea_cons (ev_var rfl) ea_nil)))) (dp_ex eH6 hdv) (dp_ex eH6 hlv) (hh5.ex e6).dp hdl) fun wp H7 nw e7 hwp => ?_
        refine s_when (b := !decide ((r, takenF ks r (handOf ks (wy.take i))) ∈ stepsF ds ks r0 (handOf ks (wy.take i)))) (et_test (ev_is (ev_niD (K := K) (ed_any (ev_var rfl) (hhere.ex (e6.trans e7)).dp) (ed_any (ev_var rfl) hwp.dp) (sh_state _) (sh_states _)) (by rw [any_state]))) (fun hb2 H8 e8 => ?_) (fun _ H8 e8 => ⟨(e6.trans e7).trans e8, _, rfl⟩)
        rw [decide_eq_true hst] at hb2
        cases hb2
      · obtain ⟨e6, y8, rfl⟩ := hM
        refine s_asgP (P := fun u H' => Td H' u (intsD (takenF ks r (handOf ks (wy.take i))))) (td_ixT (ds := [.int r, intsD (takenF ks r (handOf ks (wy.take i)))]) (td_any (ev_var rfl) (hhere.ex e6)) ev_c atI1) fun u2 H7 e7 hu2 => ⟨(eH5.trans e6).trans e7, u2, _, _, _, rfl, ?_⟩
        rw [htk, handOf_push]
        exact hu2
    · obtain ⟨eH, hv, y6, y7, y8, rfl, hh⟩ := hP
      exact s_ret ev_c fun H4 e4 => q H4 (eH.trans e4)
theorem sv_l_walks {H : Hp} {dv lv : V} {l : Addr} {start goal : Int} {ds : List Door} {ks : List Key2} {wy : Way} {s : State} (hd : Dp K H dv (.list (ds.map doorD))) (hm : Dp K H lv (.list (ks.map keyD))) (hl : LstT H l (wy.map PyData.int)) (hp : PathOk ds ks start s wy) (hg : s.1 = goal) (hwl : wy.length ≤ 2000) (hdl : ds.length ≤ 1000) : SpV (sp_l_walks K) [dv, lv, .ref l, .int start, .int goal] H (.bl true) := fun H1 e Q q E => ⟨dv, lv, l, start, goal, ds, ks, wy, s, rfl, dp_ex e hd, dp_ex e hm, hl.ex e, hp, hg, hwl, hdl, q⟩
end

section
variable {P : Program} {w : World} {K : PySem.W.Frag} {mg : Str → Option Value} {base : Heap}
/-! ### none is shorter -/
theorem lt_catV {σ : L2.St} {H : Hp} {ta tb : TE} {a b : Addr} {ds es : List PyData} (ha : Ev ta σ H (.ref a)) (hA : LstT H a ds) (hb : Ev tb σ H (.ref b)) (hB : LstT H b es) (hz : ds.length + es.length ≤ 100000) : EvLT (tOp rCat ta tb) σ H (ds ++ es) := fun H1 e Q q => ha H1 e _ fun H2 e2 => hb H2 (e.trans e2) _ fun H3 e3 => by
  obtain ⟨xs, hxs, hxd⟩ := hA.ex ((e.trans e2).trans e3)
  obtain ⟨zs, hzs, hzd⟩ := hB.ex ((e.trans e2).trans e3)
  exact ⟨a, b, xs, zs, rfl, rfl, hxs, hzs, sz_of (by rw [hxd.len, hzd.len]; exact hz), fun p np => q p _ (fresh_back (e2.trans e3) np) ((e2.trans e3).trans (Ex.new np)) ⟨_, upd_same, TdAll.append (hxd.ex (Ex.new np)) (hzd.ex (Ex.new np))⟩⟩
theorem q_forEL {σ : L2.St} {H : Hp} {tl : TE} {g : TG} {tu tz : TS} {D : Ends} {ds : List PyData} (h : EvLT tl σ H ds) (k : ∀ p xs H1, H p = none → Ex H H1 → H1 p = some (.lst xs) → TdAll H1 xs ds → ∃ Pv : Nat → L2.St → Hp → Prop, Pv 0 σ H1 ∧ (∀ i σ' H', Pv i σ' H' → H' p = some (.lst xs) ∧ Tk H1 H') ∧
    (∀ i d x σ' H', ds[i]? = some d → Td H' x d → Pv i σ' H' → g x σ' H' fun σ2 H2 => tu { D with nx := Pv (i + 1), ct := Pv (i + 1), bk := tz D } σ2 H2) ∧ ∀ σ' H', Pv ds.length σ' H' → tz D σ' H') : tSeq (tFor (iList K tl) g tu) tz D σ H := s_forEL (D := { D with nx := tz D }) h k
def SeenV (n : Int) (S : List State) : Prop := S.Nodup ∧ ∀ s ∈ S, VS n s
theorem SeenV.len {n : Int} {S : List State} (h : SeenV n S) (hn : n ≤ 60) : S.length ≤ 1920 := by
  have := vs_len h.1 h.2
  omega
theorem SeenV.put {n : Int} {S : List State} {o : State} (h : SeenV n S) (ho : VS n o) : SeenV n (if o ∈ S then S else S ++ [o]) := by
  split
  · exact h
  · rename_i c
    refine ⟨?_, fun s hs => ?_⟩
    · rw [List.nodup_append]
      refine ⟨h.1, by simp, fun x hx y hy z => ?_⟩
      simp at hy
      subst hy
      subst z
      exact c hx
    · rcases List.mem_append.mp hs with h1 | h1
      · exact h.2 s h1
      · simp at h1
        subst h1
        exact ho
theorem mem_put {S : List State} {o s : State} : s ∈ (if o ∈ S then S else S ++ [o]) ↔ s ∈ S ∨ s = o := by
  split
  · rename_i hin
    exact ⟨.inl, fun h => h.elim id fun h => by rw [h]; exact hin⟩
  · simp
def sp_l_none_shorter (K : PySem.W.Frag) : Sp := fun vs H Q _ => ∃ (dv lv fv : V) (l : Addr) (goal n : Int) (t : Nat) (ds : List Door) (ks : List Key2) (ps : List Addr) (rows : List (List State)) (first : State) (r0 : List State), vs = [dv, lv, .ref l, fv, .int goal, .int (t : Int)] ∧ Dp K H dv (.list (ds.map doorD)) ∧ Dp K H lv (.list (ks.map keyD)) ∧ H l = some (.lst (ps.map V.ref)) ∧ RowsP H ps rows ∧ Td H fv (stateD first) ∧
  t < rows.length ∧ rows.length ≤ 2000 ∧ (∀ r ∈ rows, ∀ s ∈ r, VS n s) ∧ (∀ r ∈ rows, r.length ≤ 2000) ∧ n ≤ 60 ∧ ds.length ≤ 1000 ∧ rows[0]? = some r0 ∧ first ∈ r0 ∧ (∀ k r, k < t → rows[k]? = some r → ∀ s ∈ r, s.1 ≠ goal) ∧ (∀ k r, k < t → rows[k]? = some r → ∀ s ∈ r, ∀ y ∈ nextS ds ks s, ∃ (j : Nat) (r' : List State), j ≤ k + 1 ∧ rows[j]? = some r' ∧ y ∈ r') ∧ ∀ H2, Ex H H2 → Q (.bl true) H2
theorem ok_l_none_shorter (T : Txt K mg) : Kept P w K mg base 4 "_law_none_shorter" ["_law_doors_here", "_law_lying_here", "_law_rows", "_law_first", "_law_goal_here", "_law_many_here"] (sp_l_none_shorter K) := by
  refine T.d_l_none_shorter.kept sc_l_none_shorter (fun vs H Q E h => ?_) (fun cdv A outer s H vs Q E hr h => ?_)
  · obtain ⟨dv, lv, fv, l, goal, n, t, ds, ks, ps, rows, first, r0, rfl, _⟩ := h
    rfl
  · obtain ⟨dv, lv, fv, l, goal, n, t, ds, ks, ps, rows, first, r0, rfl, hdv, hlv, hl, hR, hfv, htl, hrl, hvs, hrlen, hn60, hdl, hr0, hf0, hgo, hnx, q⟩ := h
    refine ⟨_, (pss_cons (ps_if (PW.pt (pw_or (pt_not (pt_val (pe_callB (call_isi_K (K := K) rfl) (by rfl) T.n_isinstance (by decide +kernel) (pa_cons (pv 2) (pa_cons (pe_bltn (v := .ty "list") (u := .type "list") (by rfl) T.n_list (by decide +kernel) rfl) pa_nil))))) (pw_or1 (pt_cmpR op_le (pe_callB (call_len_seq_K (K := K) rfl) (by rfl) T.n_len (by decide +kernel) (pa_cons (pv 2) pa_nil)) (pv 5) (nomark _)))))
        (pss_one (ps_ret pe_bl))
        pss_nil)
      (pss_cons (ps_for (passes_of rfl) rfl (pi_list_K (K := K) rfl (pv 2)) (pg_name (i := 6) sc_l_none_shorter.nd rfl (Or.inl rfl))
        (pss_cons (ps_if (pt_not (pt_val (pe_callB (call_isi_K (K := K) rfl) (by rfl) T.n_isinstance (by decide +kernel) (pa_cons (pv 6) (pa_cons (pe_bltn (v := .ty "list") (u := .type "list") (by rfl) T.n_list (by decide +kernel) rfl) pa_nil)))))
        (pss_one (ps_ret pe_bl))
        pss_nil)
      (pss_one (ps_for (passes_of rfl) rfl (pi_list_K (K := K) rfl (pv 6)) (pg_name (i := 7) sc_l_none_shorter.nd rfl (Or.inl rfl))
        (pss_one (ps_if (pt_not (pt_val (pe_fn (ok_l_is_state (K := K) T) (hr.mono (by decide)) passL (by rfl) (pa_cons (pv 7) pa_nil))))
        (pss_one (ps_ret pe_bl))
        pss_nil))))))
      (pss_cons (ps_if (pt_cmpR (op_notInD_K (K := K) rfl (u65 hr)) (pv 3) (pe_ix (ix_list_K (K := K) rfl) (pv 2) pe_int (fun _ _ => rfl)) (by rfl))
        (pss_one (ps_ret pe_bl))
        pss_nil)
      (pss_cons (ps_set (i := 8) sc_l_none_shorter.nd rfl (Or.inl rfl) (pe_dnewN (P := P) (w := w) rfl rfl))
      (pss_cons (ps_for (passes_of rfl) rfl (pi_range1 (by rfl) T.n_range (pa_cons (pv 5) pa_nil)) (pg_name (i := 9) sc_l_none_shorter.nd rfl (Or.inl rfl))
        (pss_cons (ps_for (passes_of rfl) rfl (pi_list_K (K := K) rfl (pe_op op_cat (pe_ix (ix_list_K (K := K) rfl) (pv 2) (pv 9) (fun _ _ => rfl)) (pe_ix (ix_list_K (K := K) rfl) (pv 2) (pe_op op_add (pv 9) pe_int) (fun _ _ => rfl)))) (pg_name (i := 7) sc_l_none_shorter.nd rfl (Or.inl rfl))
        (pss_one (ps_asg pe_bl (pg_sub (pv 8) (pv 7) (set_dN (P := P) (w := w) rfl rfl hr.units)))))
      (pss_one (ps_for (passes_of rfl) rfl (pi_list_K (K := K) rfl (pe_ix (ix_list_K (K := K) rfl) (pv 2) (pv 9) (fun _ _ => rfl))) (pg_name (i := 7) sc_l_none_shorter.nd rfl (Or.inl rfl))
        (pss_cons (ps_if (pt_cmpR op_eq (pe_ix (ix_tup_K (K := K) rfl) (pv 7) pe_int (fun _ _ => rfl)) (pv 4) (nomark _))
        (pss_one (ps_ret pe_bl))
        pss_nil)
      (pss_one (ps_for (passes_of rfl) rfl (pi_list_K (K := K) rfl (pe_fn (ok_l_steps (K := K) T) (hr.mono (by decide)) passL (by rfl) (pa_cons (pv 0) (pa_cons (pv 1) (pa_cons (pe_ix (ix_tup_K (K := K) rfl) (pv 7) pe_int (fun _ _ => rfl)) (pa_cons (pe_ix (ix_tup_K (K := K) rfl) (pv 7) pe_int (fun _ _ => rfl)) pa_nil)))))) (pg_name (i := 10) sc_l_none_shorter.nd rfl (Or.inl rfl))
        (pss_one (ps_if (pt_cmpR (op_notInN (P := P) (w := w) rfl rfl hr.units) (pv 10) (pv 8) (by rfl))
        (pss_one (ps_ret pe_bl))
        pss_nil)))))))))
      (pss_one (ps_ret pe_bl))))))), ?_⟩
    have hpl := hR.len
    have hdpR : Dp K H (.ref l) (.list (rows.map fun r => .list (r.map stateD))) := .lst (SqL.of hl) hR.dp
    have item : ∀ {σ : L2.St} {H' : Hp} {tb : TE} {i : Nat} {p : Addr}, Ex H H' → σ[2]? = some (some (.ref l)) → Ev tb σ H' (.int (i : Int)) → ps[i]? = some p → Ev (tOp (rIxL K) (tVar 2) tb) σ H' (.ref p) := fun e h hb hp => ev_op (ev_var h) hb (rv_ixL (SqL.of (e _ _ hl)) (atI_nat (by rw [List.getElem?_map, hp]; rfl)))
    refine q_when (b := (!true) || decide ((rows.length : Int) ≤ (t : Int))) (et_or (et_not (et_B (ev_isiD (K := K) (n := "list") (ed_any (ev_var rfl) hdpR) (fun v H1 _ h => ty_lst h) (by decide +kernel)))) fun _ => et_test (ev_op (ev_is (ev_lenS (K := K) (ev_var rfl) (SqL.of hl)) (by rw [List.length_map, hpl])) (ev_var rfl) rv_I0)) (fun hb H1 e1 => ?_) (fun hb H1 e1 => ?_)
    · simp at hb
      omega
    refine q_forL (K := K) (g := gName 6) (a := l) (xs := ps.map V.ref) (ev_var rfl) (SqL.of (e1 _ _ hl)) (fun i σ' H' => Ex H H' ∧ ∃ y6 y7, σ' = [some dv, some lv, some (.ref l), some fv, some (.int goal), some (.int (t : Int)), y6, y7, none, none, none]) (fun H2 e2 => ⟨e1.trans e2, none, none, rfl⟩) (fun i σ' H' _ h => SqL.of (h.1 _ _ hl)) (fun i x σ' H' hx hP => ?_) (fun σ' H' hP => ?_)
    · obtain ⟨eH, y6, y7, rfl⟩ := hP
      rw [List.getElem?_map] at hx
      obtain ⟨p, hp, rfl⟩ := Option.map_eq_some_iff.mp hx
      obtain ⟨r, hri⟩ : ∃ r, rows[i]? = some r := ⟨_, List.getElem?_eq_getElem (by have := (List.getElem?_eq_some_iff.mp hp).1; omega)⟩
      obtain ⟨p2, hp2, hpT⟩ := hR.get hri
      rw [hp] at hp2
      cases hp2
      show tSeq _ _ _ _ _
      refine q_when (b := !true) (et_not (et_B (ev_isiD (K := K) (n := "list") (d := .list (r.map stateD)) (ed_any (ev_var rfl) (hpT.ex eH).dp) (fun v H1 _ h => ty_lst h) (by decide +kernel)))) (fun z => Bool.noConfusion z) (fun _ H2 e2 => ?_)
      refine s_forLT (K := K) (g := gName 7) (H0 := H) (ev_var rfl) hpT (eH.trans e2) (fun j σ' H' => Ex H H' ∧ ∃ y7, σ' = [some dv, some lv, some (.ref l), some fv, some (.int goal), some (.int (t : Int)), some (.ref p), y7, none, none, none]) (fun H3 e3 => ⟨(eH.trans e2).trans e3, y7, rfl⟩) (fun j σ' H' h => h.1) (fun j d x σ' H' hdj hx2 hP => ?_) (fun σ' H' hP => ?_)
      · obtain ⟨eH', y7, rfl⟩ := hP
        rw [List.getElem?_map] at hdj
        obtain ⟨s1, hs1, rfl⟩ := Option.map_eq_some_iff.mp hdj
        show tIfS _ _ _ _ _ _
        exact s_when (b := !true) (et_not (et_B (ev_call0 (ea_cons (ev_var rfl) ea_nil) (sv_l_is_state (hx2.ex eH').dp)))) (fun z => Bool.noConfusion z) (fun _ H3 e3 => ⟨eH'.trans e3, _, rfl⟩)
      · obtain ⟨eH', y7, rfl⟩ := hP
        exact ⟨eH', _, _, rfl⟩
    obtain ⟨eH, y6, y7, rfl⟩ := hP
    obtain ⟨p0, hp0, hp0T⟩ := hR.get hr0
    refine q_when (b := !decide (first ∈ r0)) (et_test (ev_is (ev_niD (K := K) (ed_any (ev_var rfl) (hfv.ex eH).dp) (ed_any (item (i := 0) eH rfl ev_c hp0) (hp0T.ex eH).dp) (sh_state _) (sh_states _)) (by rw [any_state]))) (fun hb H2 e2 => ?_) (fun _ H2 e2 => ?_)
    · rw [decide_eq_true hf0] at hb
      cases hb
    have eH2 := eH.trans e2
    refine (show tSeq (tAsg (tDNewN P w) (gName 8)) _ _ _ _ from fun e ne => ?_)
    have neH : H e = none := fresh_back eH2 ne
    have eHe : Ex H (upd H2 e (DN P w e [])) := Ex.mut eH2 neH
    refine q_forR1 (n := (t : Int)) (ea_cons (ev_var rfl) ea_nil) ⟨by omega, by omega⟩ (fun i σ' H' => Ex H H' ∧ ∃ y6 y7 y9 y10 S, σ' = [some dv, some lv, some (.ref l), some fv, some (.int goal), some (.int (t : Int)), y6, y7, some (.ref e), y9, y10] ∧ SeenK P w H' e S ∧ SeenV n S ∧ (0 < i → ∀ j r, j ≤ i → rows[j]? = some r → ∀ s ∈ r, s ∈ S)) (fun H3 e3 => ⟨eHe.trans e3, y6, y7, none, none, [], rfl, ⟨[], (SD.ex e3 ⟨upd_same, fun p hp => absurd hp (by simp)⟩), rfl⟩, ⟨by simp, by simp⟩, fun z => by omega⟩) (fun i σ' H' hi hP => ?_) (fun σ' H' hP => ?_)
    · obtain ⟨eH', y6, y7, y9, y10, S, rfl, hS, hSV, hcov⟩ := hP
      have hi2 : i < t := by omega
      obtain ⟨ra, hra⟩ : ∃ r, rows[i]? = some r := ⟨_, List.getElem?_eq_getElem (by omega)⟩
      obtain ⟨rb, hrb⟩ : ∃ r, rows[i + 1]? = some r := ⟨_, List.getElem?_eq_getElem (by omega)⟩
      obtain ⟨pa, hpa, hpaT⟩ := hR.get hra
      obtain ⟨pb, hpb, hpbT⟩ := hR.get hrb
      have hral := hrlen ra (List.mem_of_getElem? hra)
      have hrbl := hrlen rb (List.mem_of_getElem? hrb)
      have hvab : ∀ s ∈ ra ++ rb, VS n s := fun s hs => by
        rcases List.mem_append.mp hs with h | h
        · exact hvs ra (List.mem_of_getElem? hra) s h
        · exact hvs rb (List.mem_of_getElem? hrb) s h
      show tSeq _ _ _ _ _
      refine q_forEL (K := K) (g := gName 7) (ds := (ra ++ rb).map stateD) (by
        rw [List.map_append]
        exact lt_catV (item eH' rfl (ev_var rfl) hpa) (hpaT.ex eH') (item (i := i + 1) eH' rfl (ev_op (ev_var rfl) ev_c rv_I0) hpb) (hpbT.ex eH') (by rw [List.length_map, List.length_map]; omega)) fun pp xs H4 npp e4 hpp hpd => ⟨fun j σ' H'' => Ex H H'' ∧ H'' pp = some (.lst xs) ∧ Tk H4 H'' ∧ ∃ y7 S', σ' = [some dv, some lv, some (.ref l), some fv, some (.int goal), some (.int (t : Int)), y6, y7, some (.ref e), some (.int (i : Int)), y10] ∧ SeenK P w H'' e S' ∧ SeenV n S' ∧ (∀ x ∈ S, x ∈ S') ∧ ∀ x ∈ (ra ++ rb).take j, x ∈ S', ⟨eH'.trans e4, hpp, Tk.refl _, y7, S, rfl, hS.ex e4, hSV, fun x hx => hx, by simp⟩, fun j σ' H'' h => ⟨h.2.1, h.2.2.1⟩, fun j dt x σ' H'' hdj hx hP => ?_, fun σ' H'' hP => ?_⟩
      · obtain ⟨eH5, hpp5, tk5, y7, S', rfl, hS5, hSV5, hin5, hcl5⟩ := hP
        rw [List.getElem?_map] at hdj
        obtain ⟨o, ho1, rfl⟩ := Option.map_eq_some_iff.mp hdj
        obtain ⟨ob, rfl⟩ : ∃ b, x = .ref b := by
          have hx2 := hx
          unfold stateD at hx2
          cases hx2
          exact ⟨_, rfl⟩
        have hSl := hSV5.len hn60
        show tAsg _ _ _ _ _
        refine s_setS hS5 (v := .bl true) ev_c (ev_var rfl) (ev_var rfl) hx (by omega) fun H6 φ od e6 h6 hS6 => ⟨Ex.mut (eH5.trans e6) neH, ?_, (tk5.trans (Tk.ex e6)).trans (Tk.ext h6), _, _, rfl, hS6, hSV5.put (hvab o (List.mem_of_getElem? ho1)), fun x hx => mem_put.mpr (.inl (hin5 x hx)), fun x hx => ?_⟩
        · have hpp6 := e6 _ _ hpp5
          rw [L2.upd_ne (ne_of hpp6 h6 (fun z => by cases z))]
          exact hpp6
        · have htk : (ra ++ rb).take (j + 1) = (ra ++ rb).take j ++ [o] := by rw [List.take_succ, ho1]; rfl
          rw [htk] at hx
          rcases List.mem_append.mp hx with h | h
          · exact mem_put.mpr (.inl (hcl5 x h))
          · exact mem_put.mpr (.inr (by simpa using h))
      obtain ⟨eH5, _, _, y7, S', rfl, hS5, hSV5, hin5, hcl5⟩ := hP
      rw [List.length_map, List.take_length] at hcl5
      have hcov2 : ∀ j r, j ≤ i + 1 → rows[j]? = some r → ∀ s ∈ r, s ∈ S' := fun j r hj hjr s hs => by
        by_cases c1 : j = i + 1
        · subst c1
          rw [hrb] at hjr
          cases hjr
          exact hcl5 s (List.mem_append_right _ hs)
        · by_cases c2 : j = i
          · subst c2
            rw [hra] at hjr
            cases hjr
            exact hcl5 s (List.mem_append_left _ hs)
          · exact hin5 s (hcov (by omega) j r (by omega) hjr s hs)
      refine s_forLT (K := K) (g := gName 7) (H0 := H'') (item eH5 rfl (ev_var rfl) hpa) (hpaT.ex eH5) (Ex.refl _) (fun j σ' H7 => Ex H'' H7 ∧ ∃ y7 y10, σ' = [some dv, some lv, some (.ref l), some fv, some (.int goal), some (.int (t : Int)), y6, y7, some (.ref e), some (.int (i : Int)), y10]) (fun H6 e6 => ⟨e6, _, _, rfl⟩) (fun j σ' H' h => h.1) (fun j d x σ' H7 hdj hx hP => ?_) (fun σ' H7 hP => ?_)
      · obtain ⟨e7, y7, y10, rfl⟩ := hP
        rw [List.getElem?_map] at hdj
        obtain ⟨⟨room, held⟩, hs1, rfl⟩ := Option.map_eq_some_iff.mp hdj
        have hsm : (room, held) ∈ ra := List.mem_of_getElem? hs1
        obtain ⟨u0, t0, ev0⟩ := td_item (K := K) (j := 0) hx rfl
        obtain ⟨u1, t1, ev1⟩ := td_item (K := K) (j := 1) hx rfl
        cases t0
        show tSeq _ _ _ _ _
        refine q_when (b := decide (room = goal)) (et_test (ev_op (ev0 e7 (ev_var rfl) ev_c) (ev_var rfl) rv_eqI)) (fun hb H8 e8 => ?_) (fun _ H8 e8 => ?_)
        · exact absurd (of_decide_eq_true hb) (hgo i ra hi2 hra _ hsm)
        have e78 := e7.trans e8
        have eH8 := eH5.trans e78
        refine s_forEL (K := K) (g := gName 10) (lt_l_stepsC (ds := ds) (ks := ks) (held := held) (ea_cons (ev_var rfl) (ea_cons (ev_var rfl) (ea_cons (ev0 e78 (ev_var rfl) ev_c) (ea_cons (ev1 e78 (ev_var rfl) ev_c) ea_nil)))) (dp_ex eH8 hdv) (dp_ex eH8 hlv) (t1.ex e78).dp hdl) fun qp ys H9 nq e9 hqp hqd => ⟨fun m σ' H10 => Ex H'' H10 ∧ H10 qp = some (.lst ys) ∧ Tk H9 H10 ∧ ∃ y10, σ' = [some dv, some lv, some (.ref l), some fv, some (.int goal), some (.int (t : Int)), y6, some x, some (.ref e), some (.int (i : Int)), y10], ⟨e78.trans e9, hqp, Tk.refl _, y10, rfl⟩, fun m σ' H10 h => ⟨h.2.1, h.2.2.1⟩, fun m dt x2 σ' H10 hdm hx2 hP => ?_, fun σ' H10 hP => ?_⟩
        · obtain ⟨e10, hq10, tk10, y10, rfl⟩ := hP
          rw [List.getElem?_map] at hdm
          obtain ⟨o, ho1, rfl⟩ := Option.map_eq_some_iff.mp hdm
          have hon : o ∈ nextS ds ks (room, held) := List.mem_of_getElem? ho1
          obtain ⟨ob, rfl⟩ : ∃ b, x2 = .ref b := by
            have hx3 := hx2
            unfold stateD at hx3
            cases hx3
            exact ⟨_, rfl⟩
          obtain ⟨j2, r2, hj2, hr2, hor⟩ := hnx i ra hi2 hra _ hsm o hon
          have hoS := hcov2 j2 r2 hj2 hr2 o hor
          show tIfS _ _ _ _ _ _
          refine s_when (b := !decide (o ∈ S')) (et_test (ev_niS (ev_var rfl) (ev_var rfl) hx2 (hS5.ex e10))) (fun hb H11 e11 => ?_) (fun _ H11 e11 => ⟨e10.trans e11, e11 _ _ hq10, tk10.trans (Tk.ex e11), _, rfl⟩)
          rw [decide_eq_true hoS] at hb
          cases hb
        · obtain ⟨e10, _, _, y10, rfl⟩ := hP
          exact ⟨e10, _, _, rfl⟩
      · obtain ⟨e7, y7, y10, rfl⟩ := hP
        exact ⟨eH5.trans e7, _, _, _, _, S', rfl, hS5.ex e7, hSV5, fun _ => hcov2⟩
    · obtain ⟨eH', y6, y7, y9, y10, S, rfl, _⟩ := hP
      exact s_ret ev_c fun H3 e3 => q H3 (eH'.trans e3)
end

section
variable {P : Program} {w : World} {K : PySem.W.Frag} {mg : Str → Option Value} {base : Heap}
/-! ### the rooms that are told, gone through -/
def wayB (ks : List Key2) (pre : List Int) (r : Int) (d : Door) : List Bool :=
  (if (decide (d.1 = r) && decide (d.2.1 ∈ pre)) = true then [opensF d (heldOf ks pre)] else []) ++ (if (decide (d.2.1 = r) && decide (d.1 ∈ pre)) = true then [opensF d (heldOf ks pre)] else [])
theorem wayB_len (ks : List Key2) (pre : List Int) (r : Int) (d : Door) : (wayB ks pre r d).length ≤ 2 := by
  unfold wayB
  rw [List.length_append]
  split <;> split <;> simp
theorem waysB_len (ks : List Key2) (pre : List Int) (r : Int) : ∀ ds : List Door, (ds.flatMap (wayB ks pre r)).length ≤ 2 * ds.length
  | [] => by simp
  | d :: ds => by
    have h1 := waysB_len ks pre r ds
    have h2 := wayB_len ks pre r d
    rw [List.flatMap_cons, List.length_append, List.length_cons]
    omega
theorem waysB_take {ks : List Key2} {pre : List Int} {r : Int} {ds : List Door} {i : Nat} {d : Door} (h : ds[i]? = some d) : (ds.take (i + 1)).flatMap (wayB ks pre r) = (ds.take i).flatMap (wayB ks pre r) ++ wayB ks pre r d := by
  have e : ds.take (i + 1) = ds.take i ++ [d] := by rw [List.take_succ, h]; rfl
  rw [e, List.flatMap_append]
  simp
theorem ways_true {n : Int} {ds : List Door} {ks : List Key2} {pre : List Int} {r : Int} (hw : ∀ d ∈ ds, WfD n d) (h : dueF ds ks pre = some r) : true ∈ ds.flatMap (wayB ks pre r) := by
  obtain ⟨d, hd, ho, hc⟩ := due_door hw h
  refine List.mem_flatMap.mpr ⟨d, hd, ?_⟩
  unfold wayB
  rcases hc with ⟨a, b, c⟩ | ⟨a, b, c⟩
  · rw [ho]
    simp [c, a]
  · rw [ho]
    simp [c, a]
theorem inV_bl (b : Bool) : ∀ bs : List Bool, inV (.bl b) (bs.map V.bl) = decide (b ∈ bs)
  | [] => by simp [inV]
  | c :: r => by
    have h := inV_bl b r
    have e0 : inV (.bl b) ((c :: r).map V.bl) = ((c == b) || inV (.bl b) (r.map V.bl)) := by
      cases b <;> cases c <;> rfl
    rw [e0, h]
    cases b <;> cases c <;> simp
theorem ev_niB {σ : L2.St} {H : Hp} {ta tb : TE} {b : Bool} {bs : List Bool} {l : Addr} (ha : Ev ta σ H (.bl b)) (hb : Ev tb σ H (.ref l)) (hl : LstT H l (bs.map PyData.bool)) : Ev (tOp (rIn K true) ta tb) σ H (.bl (!decide (b ∈ bs))) := fun H1 x Q q => ha H1 x _ fun H2 x2 => hb H2 (x.trans x2) _ fun H3 x3 => by
  obtain ⟨xs, hx, hd⟩ := hl.ex ((x.trans x2).trans x3)
  have e := tdAll_bls hd
  subst e
  refine ⟨l, _, rfl, .inl (SqL.of hx), rfl, flat_bls bs, ?_⟩
  show Q (.bl (!inV (.bl b) (bs.map V.bl))) H3
  rw [inV_bl]
  exact q H3 (x2.trans x3)
theorem q_par {σ : L2.St} {H : Hp} {ta : TA} {tz : TS} {D : Ends} {i j : Nat} {v w : V} (h : EvA ta σ H [v, w]) (k : ∀ H1, Ex H H1 → tz D ((σ.set i (some v)).set j (some w)) H1) : tSeq (tPar i j ta) tz D σ H := h H (Ex.refl H) _ fun H1 e1 => ⟨v, w, rfl, k H1 e1⟩
def sp_l_shut (K : PySem.W.Frag) : Sp := fun vs H Q _ => ∃ (dv lv hv : V) (p l : Addr) (n start goal : Int) (ds : List Door) (ks : List Key2) (R : List Int), vs = [dv, lv, .ref p, .int start, .int goal] ∧ H p = some (.tup [.str "shut", .ref l, hv]) ∧ LstT H l (R.map PyData.int) ∧ Td H hv (intsD (heldOf ks R)) ∧ ComeOk n ds ks start R ∧ goal ∉ R ∧ Dp K H dv (.list (ds.map doorD)) ∧ Dp K H lv (.list (ks.map keyD)) ∧ DoorsOk n ds ∧ n ≤ 60 ∧ ∀ H2, Ex H H2 → Q (.bl true) H2
theorem ok_l_shut (T : Txt K mg) : Kept P w K mg base 3 "_law_shut" ["_law_doors_here", "_law_lying_here", "_law_found", "_law_start", "_law_goal_here"] (sp_l_shut K) := by
  refine T.d_l_shut.kept sc_l_shut (fun vs H Q E h => ?_) (fun cdv A outer s H vs Q E hr h => ?_)
  · obtain ⟨dv, lv, hv, p, l, n, start, goal, ds, ks, R, rfl, _⟩ := h
    rfl
  · obtain ⟨dv, lv, hv, p, l, n, start, goal, ds, ks, R, rfl, hp, hl, hhv, hR, hgo, hdv, hlv, hok, hn60, q⟩ := h
    refine ⟨_, (pss_cons (ps_par (i := 5) (j := 6) rfl sc_l_shut.nd rfl rfl (by decide) (by rfl) (by rfl) (pa_cons (pe_ix (ix_tup_K (K := K) rfl) (pv 2) pe_int (fun _ _ => rfl)) (pa_cons (pe_ix (ix_tup_K (K := K) rfl) (pv 2) pe_int (fun _ _ => rfl)) pa_nil)) (by rfl))
      (pss_cons (ps_if (PW.pt (pw_or (pt_not (pt_val (pe_callB (call_isi_K (K := K) rfl) (by rfl) T.n_isinstance (by decide +kernel) (pa_cons (pv 5) (pa_cons (pe_bltn (v := .ty "list") (u := .type "list") (by rfl) T.n_list (by decide +kernel) rfl) pa_nil))))) (pw_or (pt_cmpR (op_eqD_K (K := K) rfl hr.units) (pv 5) (pe_lst pa_nil) (nomark _)) (pw_or (pt_cmpR op_ne (pe_ix (ix_list_K (K := K) rfl) (pv 5) pe_int (fun _ _ => rfl)) (pv 3) (nomark _)) (pw_or1 (pt_cmpR (op_in_seq_K (K := K) rfl) (pv 4) (pv 5) (by rfl)))))))
        (pss_one (ps_ret pe_bl))
        pss_nil)
      (pss_cons (ps_set (i := 7) sc_l_shut.nd rfl (Or.inl rfl) (pe_tup pa_nil))
      (pss_cons (ps_for (passes_of rfl) rfl (pi_range1 (by rfl) T.n_range (pa_cons (pe_callB (call_len_seq_K (K := K) rfl) (by rfl) T.n_len (by decide +kernel) (pa_cons (pv 5) pa_nil)) pa_nil)) (pg_name (i := 8) sc_l_shut.nd rfl (Or.inl rfl))
        (pss_cons (ps_if (PW.pt (pw_or (pt_not (pt_val (pe_fn (ok_l_whole (K := K) T) (hr.mono (by decide)) passL (by rfl) (pa_cons (pe_ix (ix_list_K (K := K) rfl) (pv 5) (pv 8) (fun _ _ => rfl)) pa_nil)))) (pw_or1 (pt_cmpR (op_in_seq_K (K := K) rfl) (pe_ix (ix_list_K (K := K) rfl) (pv 5) (pv 8) (fun _ _ => rfl)) (pe_slice (sl_list_K (K := K) rfl) (pv 5) po_none (po_some (pv 8))) (by rfl)))))
        (pss_one (ps_ret pe_bl))
        pss_nil)
      (pss_cut (ps_if (pt_cmpR op_gt (pv 8) pe_int (nomark _))
        (pss_cons (ps_set (i := 9) sc_l_shut.nd rfl (Or.inl rfl) (pe_lst pa_nil))
      (pss_cons (ps_for (passes_of rfl) rfl (pi_list_K (K := K) rfl (pv 0)) (pg_tup_K (K := K) rfl (by rfl) (pgs_cons (pg_name (i := 10) sc_l_shut.nd rfl (Or.inl rfl)) (pgs_cons (pg_name (i := 11) sc_l_shut.nd rfl (Or.inl rfl)) (pgs_cons (pg_name (i := 12) sc_l_shut.nd rfl (Or.inl rfl)) pgs_nil))))
        (pss_cut (ps_if (PW.pt (pw_and (pt_cmpR op_eq (pv 10) (pe_ix (ix_list_K (K := K) rfl) (pv 5) (pv 8) (fun _ _ => rfl)) (nomark _)) (pw_and1 (pt_cmpR (op_in_seq_K (K := K) rfl) (pv 11) (pe_slice (sl_list_K (K := K) rfl) (pv 5) po_none (po_some (pv 8))) (by rfl)))))
        (pss_one (ps_expr (pe_bm_K (K := K) rfl PySem.F.plainAttrs_list PySem.F.slot_list_append PySem.F.type_list_append mt_append (pv 9) (pa_cons (pe_or (pe_cmpR op_isN (pv 12) pe_non (nomark _)) (pe_one (pe_cmpR (op_in_seq_K (K := K) rfl) (pv 12) (pv 7) (by rfl)))) pa_nil))))
        pss_nil)
      (pss_one (ps_if (PW.pt (pw_and (pt_cmpR op_eq (pv 11) (pe_ix (ix_list_K (K := K) rfl) (pv 5) (pv 8) (fun _ _ => rfl)) (nomark _)) (pw_and1 (pt_cmpR (op_in_seq_K (K := K) rfl) (pv 10) (pe_slice (sl_list_K (K := K) rfl) (pv 5) po_none (po_some (pv 8))) (by rfl)))))
        (pss_one (ps_expr (pe_bm_K (K := K) rfl PySem.F.plainAttrs_list PySem.F.slot_list_append PySem.F.type_list_append mt_append (pv 9) (pa_cons (pe_or (pe_cmpR op_isN (pv 12) pe_non (nomark _)) (pe_one (pe_cmpR (op_in_seq_K (K := K) rfl) (pv 12) (pv 7) (by rfl)))) pa_nil))))
        pss_nil))))
      (pss_one (ps_if (pt_cmpR (op_notIn_seq_K (K := K) rfl) pe_bl (pv 9) (by rfl))
        (pss_one (ps_ret pe_bl))
        pss_nil))))
        pss_nil)
      (pss_one (ps_set (i := 7) sc_l_shut.nd rfl (Or.inl rfl) (pe_fn (ok_l_taken (K := K) T) (hr.mono (by decide)) passL (by rfl) (pa_cons (pv 1) (pa_cons (pe_ix (ix_list_K (K := K) rfl) (pv 5) (pv 8) (fun _ _ => rfl)) (pa_cons (pv 7) pa_nil)))))))))
      (pss_cons (ps_for (passes_of rfl) rfl (pi_list_K (K := K) rfl (pv 0)) (pg_tup_K (K := K) rfl (by rfl) (pgs_cons (pg_name (i := 10) sc_l_shut.nd rfl (Or.inl rfl)) (pgs_cons (pg_name (i := 11) sc_l_shut.nd rfl (Or.inl rfl)) (pgs_cons (pg_name (i := 12) sc_l_shut.nd rfl (Or.inl rfl)) pgs_nil))))
        (pss_one (ps_if (PW.pt (pw_and (pt_cmpR op_ne (pe_cmpR (op_in_seq_K (K := K) rfl) (pv 10) (pv 5) (by rfl)) (pe_cmpR (op_in_seq_K (K := K) rfl) (pv 11) (pv 5) (by rfl)) (nomark _)) (pw_and1 (PW.pt (pw_or (pt_cmpR op_isN (pv 12) pe_non (nomark _)) (pw_or1 (pt_cmpR (op_in_seq_K (K := K) rfl) (pv 12) (pv 7) (by rfl))))))))
        (pss_one (ps_ret pe_bl))
        pss_nil)))
      (pss_one (ps_ret (pe_fn (ok_l_hand (K := K) T) (hr.mono (by decide)) passL (by rfl) (pa_cons (pv 6) (pa_cons (pv 7) pa_nil)))))))))), ?_⟩
    have hlen := hR.1.len
    have hn : R.length ≤ 60 := by omega
    have f1 : ∀ {σ : L2.St} {H' : Hp}, Ex H H' → σ[2]? = some (some (.ref p)) → Ev (tOp (rIxT K) (tVar 2) (tC (.int 1))) σ H' (.ref l) := fun e h => ev_op (ev_var h) ev_c (rv_ixT (SqT.of (e _ _ hp)) (atI_nat (j := 1) rfl))
    have f2 : ∀ {σ : L2.St} {H' : Hp}, Ex H H' → σ[2]? = some (some (.ref p)) → Ev (tOp (rIxT K) (tVar 2) (tC (.int 2))) σ H' hv := fun e h => ev_op (ev_var h) ev_c (rv_ixT (SqT.of (e _ _ hp)) (atI_nat (j := 2) rfl))
    refine q_par (v := .ref l) (w := hv) (ea_cons (f1 (Ex.refl H) rfl) (ea_cons (f2 (Ex.refl H) rfl) ea_nil)) fun H1 e1 => ?_
    have hl1 := hl.ex e1
    have inR : ∀ {σ : L2.St} {H' : Hp} {ta : TE} {j : Int}, Ex H H' → σ[5]? = some (some (.ref l)) → Ev ta σ H' (.int j) → Ev (tOp (rIn K false) ta (tVar 5)) σ H' (.bl (decide (j ∈ R))) := fun e h hj => ev_inI hj (.inr (ed_any (ev_var h) (hl.ex e).dp))
    have item : ∀ {σ : L2.St} {H' : Hp} {tb : TE} {i : Nat} {r : Int}, Ex H H' → σ[5]? = some (some (.ref l)) → Ev tb σ H' (.int (i : Int)) → R[i]? = some r → Ev (tOp (rIxL K) (tVar 5) tb) σ H' (.int r) := fun e h hb hr => ev_of_td (td_ixLV (ev_var h) (hl.ex e) hb (at0 (by rw [List.getElem?_map, hr]; rfl)))
    refine q_when (b := (!true) || (decide (R = []) || ((!decide (start = start)) || decide (goal ∈ R)))) (et_or (et_not (et_B (ev_isiD (K := K) (n := "list") (ed_any (ev_var rfl) hl1.dp) (fun v H1 _ h => ty_lst h) (by decide +kernel)))) fun _ => et_or (et_test (ev_is (ev_eqD (d := intlD R) (e := intlD []) (ed_any (ev_var rfl) hl1.dp) (ed_lt (lt_lst (ds := []) ea_tn (by simp))) (sh_intl _) (sh_intl _)) (by rw [eqv_intl]))) fun _ => et_or (et_test (ev_op (item (i := 0) e1 rfl ev_c hR.1.fst) (ev_var rfl) rv_neI)) fun _ => et_test (inR e1 rfl (ev_var rfl))) (fun hb H2 e2 => ?_) (fun hb H2 e2 => ?_)
    · have h0 : R ≠ [] := fun z => by rw [z] at hlen; simp at hlen
      rw [decide_eq_false h0, decide_eq_false hgo] at hb
      simp at hb
    have e02 := e1.trans e2
    refine q_asgP (P := fun u H' => Td H' u (intsD [])) td_unit0 fun u H3 e3 hu => ?_
    have e03 := e02.trans e3
    refine q_forR1 (n := (R.length : Int)) (ea_cons (ev_is (ev_lenD (K := K) (ed_any (ev_var rfl) (hl.ex e03).dp) (.inl rfl)) (by rw [List.length_map])) ea_nil) ⟨by omega, by omega⟩ (fun i σ' H' => Ex H H' ∧ ∃ kv y8 y9 y10 y11 y12, σ' = [some dv, some lv, some (.ref p), some (.int start), some (.int goal), some (.ref l), some hv, some kv, y8, y9, y10, y11, y12] ∧ Td H' kv (intsD (heldOf ks (R.take i)))) (fun H4 e4 => ⟨e03.trans e4, u, none, none, none, none, none, rfl, by rw [List.take_zero, heldOf_nil]; exact hu.ex e4⟩) (fun i σ' H' hi hP => ?_) (fun σ' H' hP => ?_)
    · obtain ⟨eH, kv, y8, y9, y10, y11, y12, rfl, hk⟩ := hP
      have hi2 : i < R.length := by omega
      obtain ⟨r, hri⟩ : ∃ r, R[i]? = some r := ⟨_, List.getElem?_eq_getElem hi2⟩
      have htk : R.take (i + 1) = R.take i ++ [r] := by rw [List.take_succ, hri]; rfl
      have inP : ∀ {σ : L2.St} {H' : Hp} {ta : TE} {j : Int}, Ex H H' → σ[5]? = some (some (.ref l)) → σ[8]? = some (some (.int (i : Int))) → Ev ta σ H' (.int j) → Ev (tOp (rIn K false) ta (tSl (rSlL K) (tVar 5) tNoPart (tPart (tVar 8)))) σ H' (.bl (decide (j ∈ R.take i))) := fun e h h8 hj => ev_inI hj (.inr (by
        rw [List.map_take, ← cutD_take]
        exact ed_lt (lt_slL (ev_var h) (hl.ex e) eo_none (eo_some (ev_var h8)))))
      have hnin : r ∉ R.take i := fun z => by
        have hnd := hR.1.nd
        have e5 : R = R.take i ++ r :: R.drop (i + 1) := by
          have := (List.getElem?_eq_some_iff.mp hri).2
          rw [← this, ← List.drop_eq_getElem_cons hi2, List.take_append_drop]
        rw [e5, List.nodup_append] at hnd
        exact hnd.2.2 r z r (by simp) rfl
      refine q_when (b := (!true) || decide (r ∈ R.take i)) (et_or (et_not (et_B (ev_call0 (ea_cons (item eH rfl (ev_var rfl) hri) ea_nil) sv_l_whole))) fun _ => et_test (inP eH rfl rfl (item eH rfl (ev_var rfl) hri))) (fun hb H4 e4 => ?_) (fun _ H4 e4 => ?_)
      · rw [decide_eq_false hnin] at hb
        cases hb
      have eH4 := eH.trans e4
      have hk4 := hk.ex e4
      refine q_cut (M := fun σ' H' => Ex H4 H' ∧ ∃ y9 y10 y11 y12, σ' = [some dv, some lv, some (.ref p), some (.int start), some (.int goal), some (.ref l), some hv, some kv, some (.int (i : Int)), y9, y10, y11, y12]) ?_ fun σ' H5 hM => ?_
      · refine s_when (b := decide ((0 : Int) < (i : Int))) (et_test (ev_op (ev_var rfl) ev_c rv_I0)) (fun hb H5 e5 => ?_) (fun _ H5 e5 => ⟨e5, y9, y10, y11, y12, rfl⟩)
        have hi0 : 0 < i := by simpa using hb
        have eH5 := eH4.trans e5
        have hdue := hR.1.stp i hi0 hi2
        rw [hri] at hdue
        obtain ⟨pre, epre⟩ : ∃ pre, R.take i = pre := ⟨_, rfl⟩
        rw [epre] at hdue hk4
        simp only [epre] at inP
        have htrue := ways_true hok.1 hdue
        refine q_asgLT (ds := []) (lt_lst ea_tn (by simp)) fun wp H6 nw e6 hwp => ?_
        have e46 := e5.trans e6
        have nw4 : H4 wp = none := fresh_back e5 nw
        refine q_forV (K := K) (ds := ds.map doorD) (H0 := H4) (ev_var rfl) (dp_ex eH4 hdv) e46 (fun j σ' H' => Ex H4 H' ∧ ∃ y10 y11 y12, σ' = [some dv, some lv, some (.ref p), some (.int start), some (.int goal), some (.ref l), some hv, some kv, some (.int (i : Int)), some (.ref wp), y10, y11, y12] ∧ LstT H' wp (((ds.take j).flatMap (wayB ks pre r)).map PyData.bool)) (fun H7 e7 => ⟨e46.trans e7, _, _, _, rfl, by simpa using hwp.ex e7⟩) (fun j σ' H' h => h.1) (fun j d x σ' H' hdj hx hP => ?_) (fun σ' H' hP => ?_)
        · obtain ⟨e7, y10, y11, y12, rfl, hW⟩ := hP
          rw [List.getElem?_map] at hdj
          obtain ⟨⟨d1, d2, d3⟩, hd1, rfl⟩ := Option.map_eq_some_iff.mp hdj
          have hwt := waysB_take (ks := ks) (pre := pre) (r := r) hd1
          have hwl : ((ds.take j).flatMap (wayB ks pre r)).length ≤ 2000 := by
            have h1 := waysB_len ks pre r (ds.take j)
            have h2 : (ds.take j).length ≤ ds.length := by rw [List.length_take]; omega
            have h3 := hok.2
            omega
          obtain ⟨bs, ebs⟩ : ∃ bs, (ds.take j).flatMap (wayB ks pre r) = bs := ⟨_, rfl⟩
          rw [ebs] at hW hwt hwl
          cases hx with
          | tup ho hda =>
            rename_i b xs
            obtain ⟨x1, x2, x3, rfl, h1, h2, h3⟩ := dpAll3 hda
            cases dp_int_inv h1
            cases dp_int_inv h2
            refine ⟨b, _, rfl, ex_t e7 ho, rfl, _, _, rfl, _, _, rfl, _, _, rfl, rfl, ?_⟩
            dsimp only
            have hop : ∀ {σ : L2.St} {H' : Hp}, Ex H4 H' → σ[7]? = some (some kv) → σ[12]? = some (some x3) → EvTd (tOrV (tOp (fun x y H Q => y = .non ∧ Q (.bl (decide (x = .non))) H) (tVar 12) (tC .non)) (tOp (rIn K false) (tVar 12) (tVar 7))) σ H' (.bool (opensF (d1, d2, d3) (heldOf ks pre))) := fun e h7 h12 => td_bl (ev_open (d1 := d1) (d2 := d2) (ed_any (ev_var h12) (dp_ex e h3)) (ed_any (ev_var h12) (dp_ex e h3)) (ed_any (ev_var h7) (hk4.ex e).dp))
            have eH7 := eH4.trans e7
            refine q_cut (M := fun σ' H' => Ex H4 H' ∧ σ' = [some dv, some lv, some (.ref p), some (.int start), some (.int goal), some (.ref l), some hv, some kv, some (.int (i : Int)), some (.ref wp), some (.int d1), some (.int d2), some x3] ∧ LstT H' wp ((bs ++ (if (decide (d1 = r) && decide (d2 ∈ pre)) = true then [opensF (d1, d2, d3) (heldOf ks pre)] else [])).map PyData.bool)) ?_ fun σ' H8 hM => ?_
            · refine s_when (b := decide (d1 = r) && decide (d2 ∈ pre)) (et_and (et_test (ev_op (ev_var rfl) (item eH7 rfl (ev_var rfl) hri) rv_eqI)) fun _ => et_test (inP eH7 rfl rfl (ev_var rfl))) (fun hb H8 e8 => ?_) (fun hb H8 e8 => ⟨e7.trans e8, rfl, by rw [hb]; simpa using hW.ex e8⟩)
              refine s_appT (d := .bool (opensF (d1, d2, d3) (heldOf ks pre))) (hW.ex e8) (ev_var rfl) (hop (e7.trans e8) rfl rfl) (by rw [List.length_map]; omega) fun H9 zs v9 e9 hw9 hp9 => ⟨Ex.mut ((e7.trans e8).trans e9) nw4, rfl, ?_⟩
              rw [if_pos hb, List.map_append]
              exact hp9
            · obtain ⟨e8, rfl, hW8⟩ := hM
              have eH8 := eH4.trans e8
              have hl8 : (bs ++ (if (decide (d1 = r) && decide (d2 ∈ pre)) = true then [opensF (d1, d2, d3) (heldOf ks pre)] else [])).length ≤ 2001 := by
                rw [List.length_append]
                split
                · simp; omega
                · simp; omega
              have hfin : (ds.take (j + 1)).flatMap (wayB ks pre r) = (bs ++ (if (decide (d1 = r) && decide (d2 ∈ pre)) = true then [opensF (d1, d2, d3) (heldOf ks pre)] else [])) ++ (if (decide (d2 = r) && decide (d1 ∈ pre)) = true then [opensF (d1, d2, d3) (heldOf ks pre)] else []) := by
                rw [hwt]
                unfold wayB
                simp only [List.append_assoc]
              refine s_when (b := decide (d2 = r) && decide (d1 ∈ pre)) (et_and (et_test (ev_op (ev_var rfl) (item eH8 rfl (ev_var rfl) hri) rv_eqI)) fun _ => et_test (inP eH8 rfl rfl (ev_var rfl))) (fun hb H9 e9 => ?_) (fun hb H9 e9 => ⟨e8.trans e9, _, _, _, rfl, by rw [hfin, hb]; simpa using hW8.ex e9⟩)
              refine s_appT (d := .bool (opensF (d1, d2, d3) (heldOf ks pre))) (hW8.ex e9) (ev_var rfl) (hop (e8.trans e9) rfl rfl) (by rw [List.length_map]; omega) fun H10 zs v10 e10 hw10 hp10 => ⟨Ex.mut ((e8.trans e9).trans e10) nw4, _, _, _, rfl, ?_⟩
              rw [hfin, if_pos hb, List.map_append]
              exact hp10
        · obtain ⟨e7, y10, y11, y12, rfl, hW⟩ := hP
          rw [List.length_map, List.take_length] at hW
          refine s_when (b := !decide (true ∈ ds.flatMap (wayB ks pre r))) (et_test (ev_niB ev_c (ev_var rfl) hW)) (fun hb H8 e8 => ?_) (fun _ H8 e8 => ⟨e7.trans e8, _, _, _, _, rfl⟩)
          rw [decide_eq_true htrue] at hb
          cases hb
      · obtain ⟨e5, y9, y10, y11, y12, rfl⟩ := hM
        have eH5 := eH4.trans e5
        refine s_asgP (P := fun u H' => Td H' u (intsD (takenF ks r (heldOf ks (R.take i))))) (td_l_takenC (ea_cons (ev_var rfl) (ea_cons (item eH5 rfl (ev_var rfl) hri) (ea_cons (ev_var rfl) ea_nil))) (dp_ex eH5 hlv) (hk4.ex e5).dp) fun u2 H6 e6 hu2 => ⟨eH5.trans e6, u2, _, _, _, _, _, rfl, ?_⟩
        rw [htk, ← taken_heldOf]
        exact hu2
    · obtain ⟨eH, kv, y8, y9, y10, y11, y12, rfl, hk⟩ := hP
      rw [show ((R.length : Int)).toNat = R.length by simp, List.take_length] at hk
      refine q_forV (K := K) (ds := ds.map doorD) (H0 := H') (ev_var rfl) (dp_ex eH hdv) (Ex.refl _) (fun j σ' H'' => Ex H' H'' ∧ ∃ y10 y11 y12, σ' = [some dv, some lv, some (.ref p), some (.int start), some (.int goal), some (.ref l), some hv, some kv, y8, y9, y10, y11, y12]) (fun H4 e4 => ⟨e4, _, _, _, rfl⟩) (fun j σ' H' h => h.1) (fun j d x σ' H'' hdj hx hP => ?_) (fun σ' H'' hP => ?_)
      · obtain ⟨e7, y10, y11, y12, rfl⟩ := hP
        rw [List.getElem?_map] at hdj
        obtain ⟨⟨d1, d2, d3⟩, hd1, rfl⟩ := Option.map_eq_some_iff.mp hdj
        have hdm := List.mem_of_getElem? hd1
        have eH7 := eH.trans e7
        cases hx with
        | tup ho hda =>
          rename_i b xs
          obtain ⟨x1, x2, x3, rfl, h1, h2, h3⟩ := dpAll3 hda
          cases dp_int_inv h1
          cases dp_int_inv h2
          refine ⟨b, _, rfl, ex_t e7 ho, rfl, _, _, rfl, _, _, rfl, _, _, rfl, rfl, ?_⟩
          dsimp only
          refine s_when (b := (!decide (decide (d1 ∈ R) = decide (d2 ∈ R))) && opensF (d1, d2, d3) (heldOf ks R)) (et_and (et_test (ev_op (inR eH7 rfl (ev_var rfl)) (inR eH7 rfl (ev_var rfl)) rv_neB)) fun _ => et_open (d1 := d1) (d2 := d2) (ed_any (ev_var rfl) (dp_ex e7 h3)) (ed_any (ev_var rfl) (dp_ex e7 h3)) (ed_any (ev_var rfl) (hk.ex e7).dp)) (fun hb H8 e8 => ?_) (fun _ H8 e8 => ⟨e7.trans e8, _, _, _, rfl⟩)
          rw [Bool.and_eq_true] at hb
          have := due_none hok.1 hR.2 hdm (by simpa using hb.1)
          rw [this] at hb
          cases hb.2
      · obtain ⟨e7, y10, y11, y12, rfl⟩ := hP
        have eH7 := eH.trans e7
        exact s_ret (v := .bl true) (ev_is (ev_call0 (ea_cons (ev_var rfl) (ea_cons (ev_var rfl) ea_nil)) (sv_l_hand (ns := heldOf ks R) (ms := heldOf ks R) (hhv.ex eH7).dp (hk.ex e7).dp)) (by simp)) fun H8 e8 => q H8 (eH7.trans e8)
theorem sv_l_shut {H : Hp} {dv lv hv : V} {p l : Addr} {n start goal : Int} {ds : List Door} {ks : List Key2} {R : List Int} (hp : H p = some (.tup [.str "shut", .ref l, hv])) (hl : LstT H l (R.map PyData.int)) (hh : Td H hv (intsD (heldOf ks R))) (hR : ComeOk n ds ks start R) (hgo : goal ∉ R) (hd : Dp K H dv (.list (ds.map doorD))) (hm : Dp K H lv (.list (ks.map keyD))) (hok : DoorsOk n ds) (h60 : n ≤ 60) : SpV (sp_l_shut K) [dv, lv, .ref p, .int start, .int goal] H (.bl true) := fun H1 e Q q E => ⟨dv, lv, hv, p, l, n, start, goal, ds, ks, R, rfl, e _ _ hp, hl.ex e, hh.ex e, hR, hgo, dp_ex e hd, dp_ex e hm, hok, h60, q⟩
theorem ok_law (T : Txt K mg) {f : Addr} {fd : FuncData} (F : FunD K "law" "law" (defArgs s_law) (defBody s_law) (defScope s_law) [] [] f fd) : FnOk P w K mg base CX0 6 f fd ["_law_script"] (sp_law K) := by
  refine F.ok sc_law (fun vs H Q E h => ?_) (fun cdv A outer s H vs Q E hr h => ?_)
  · obtain ⟨a, ns, rfl, _⟩ := h
    rfl
  · obtain ⟨a, ns, rfl, hS, hl63, q⟩ := h
    refine ⟨_, (PSs.nox (pss_cons (ps_set (i := 1) sc_law.nd rfl (Or.inl rfl) (pe_fn (ok_l_size (K := K) T) (hr.mono (by decide)) passL (by rfl) (pa_cons (pv 0) pa_nil)))
      (pss_cons (ps_set (i := 2) sc_law.nd rfl (Or.inl rfl) (pe_fn (ok_l_doors (K := K) T) (hr.mono (by decide)) passL (by rfl) (pa_cons (pv 0) (pa_cons (pv 1) pa_nil))))
      (pss_cons (ps_set (i := 3) sc_law.nd rfl (Or.inl rfl) (pe_fn (ok_l_lying (K := K) T) (hr.mono (by decide)) passL (by rfl) (pa_cons (pv 0) (pa_cons (pv 1) pa_nil))))
      (pss_cons (ps_set (i := 4) sc_law.nd rfl (Or.inl rfl) (pe_op op_mod (pe_fn (ok_l_cell_at (K := K) T) (hr.mono (by decide)) passL (by rfl) (pa_cons (pv 0) (pa_cons pe_int pa_nil))) (pv 1)))
      (pss_cons (ps_set (i := 5) sc_law.nd rfl (Or.inl rfl) (pe_fn (ok_l_goal (K := K) T) (hr.mono (by decide)) passL (by rfl) (pa_cons (pv 0) (pa_cons (pv 1) pa_nil))))
      (pss_cut (ps_if (PW.pt (pw_and (pt_cmpR (op_in_seq_K (K := K) rfl) (pe_op op_mod (pe_fn (ok_l_cell_at (K := K) T) (hr.mono (by decide)) passL (by rfl) (pa_cons (pv 0) (pa_cons pe_int pa_nil))) pe_int) (pe_tup (pa_cons pe_int (pa_cons pe_int pa_nil))) (by rfl)) (pw_and1 (pt_cmpR op_gt (pe_op op_mod (pe_fn (ok_l_cell_at (K := K) T) (hr.mono (by decide)) passL (by rfl) (pa_cons (pv 0) (pa_cons pe_int pa_nil))) pe_int) pe_int (nomark _)))))
        (pss_one (ps_set (i := 4) sc_law.nd rfl (Or.inl rfl) pe_int))
        pss_nil)
      (pss_cons (ps_set (i := 6) sc_law.nd rfl (Or.inl rfl) (pe_tup (pa_cons (pv 1) (pa_cons (pe_callTy (call_list_of_K (K := K) rfl) (by rfl) T.n_list (by decide +kernel) (pa_cons (pv 2) pa_nil)) (pa_cons (pe_callTy (call_list_of_K (K := K) rfl) (by rfl) T.n_list (by decide +kernel) (pa_cons (pv 3) pa_nil)) pa_nil)))))
      (pss_cons (ps_set (i := 7) sc_law.nd rfl (Or.inl rfl) (pe_fn (ok_guide (K := K) T) (hr.mono (by decide)) passL (by rfl) (pa_cons (pv 6) (pa_cons (pv 4) (pa_cons (pv 5) pa_nil)))))
      (pss_cons (ps_if (PW.pt (pw_or (pt_not (pt_val (pe_callB (call_isi_K (K := K) rfl) (by rfl) T.n_isinstance (by decide +kernel) (pa_cons (pv 7) (pa_cons (pe_bltn (v := .ty "tuple") (u := .type "tuple") (by rfl) T.n_tuple (by decide +kernel) rfl) pa_nil))))) (pw_or (pt_cmpR op_lt (pe_callB (call_len_seq_K (K := K) rfl) (by rfl) T.n_len (by decide +kernel) (pa_cons (pv 7) pa_nil)) pe_int (nomark _)) (pw_or1 (pt_cmpR (op_neD_K (K := K) rfl hr.units) (pv 6) (pe_tup (pa_cons (pv 1) (pa_cons (pv 2) (pa_cons (pv 3) pa_nil)))) (nomark _))))))
        (pss_one (ps_ret pe_bl))
        pss_nil)
      (pss_cons (ps_if (PW.pt (pw_and (pt_cmpR op_eq (pe_ix (ix_tup_K (K := K) rfl) (pv 7) pe_int (fun _ _ => rfl)) pe_str (nomark _)) (pw_and1 (pt_cmpR op_eq (pe_callB (call_len_seq_K (K := K) rfl) (by rfl) T.n_len (by decide +kernel) (pa_cons (pv 7) pa_nil)) pe_int (nomark _)))))
        (pss_cons (ps_set (i := 8) sc_law.nd rfl (Or.inl rfl) (pe_tup (pa_cons (pv 4) (pa_cons (pe_fn (ok_l_taken (K := K) T) (hr.mono (by decide)) passL (by rfl) (pa_cons (pv 3) (pa_cons (pv 4) (pa_cons (pe_tup pa_nil) pa_nil)))) pa_nil))))
      (pss_cons (ps_if (pt_not (pt_val (pe_fn (ok_l_walks (K := K) T) (hr.mono (by decide)) passL (by rfl) (pa_cons (pv 2) (pa_cons (pv 3) (pa_cons (pe_ix (ix_tup_K (K := K) rfl) (pv 7) pe_int (fun _ _ => rfl)) (pa_cons (pv 4) (pa_cons (pv 5) pa_nil))))))))
        (pss_one (ps_ret pe_bl))
        pss_nil)
      (pss_cons (ps_set (i := 9) sc_law.nd rfl (Or.inl rfl) (pe_fn (ok_layers (K := K) T) (hr.mono (by decide)) passL (by rfl) (pa_cons (pv 6) (pa_cons (pv 4) pa_nil))))
      (pss_one (ps_ret (pe_fn (ok_l_none_shorter (K := K) T) (hr.mono (by decide)) passL (by rfl) (pa_cons (pv 2) (pa_cons (pv 3) (pa_cons (pv 9) (pa_cons (pv 8) (pa_cons (pv 5) (pa_cons (pe_op op_sub (pe_callB (call_len_seq_K (K := K) rfl) (by rfl) T.n_len (by decide +kernel) (pa_cons (pe_ix (ix_tup_K (K := K) rfl) (pv 7) pe_int (fun _ _ => rfl)) pa_nil)) pe_int) pa_nil))))))))))))
        pss_nil)
      (pss_cons (ps_if (PW.pt (pw_or (pt_cmpR op_ne (pe_ix (ix_tup_K (K := K) rfl) (pv 7) pe_int (fun _ _ => rfl)) pe_str (nomark _)) (pw_or1 (pt_cmpR op_ne (pe_callB (call_len_seq_K (K := K) rfl) (by rfl) T.n_len (by decide +kernel) (pa_cons (pv 7) pa_nil)) pe_int (nomark _)))))
        (pss_one (ps_ret pe_bl))
        pss_nil)
      (pss_one (ps_ret (pe_fn (ok_l_shut (K := K) T) (hr.mono (by decide)) passL (by rfl) (pa_cons (pv 2) (pa_cons (pv 3) (pa_cons (pv 7) (pa_cons (pv 4) (pa_cons (pv 5) pa_nil)))))))))))))))))))), ?_⟩
    refine q_asgA (vs := [.ref a]) (ea_cons (ev_var rfl) ea_nil) fun H1 e1 => ⟨a, ns, rfl, ex_l e1 hS, fun n hz H2 e2 => ?_⟩
    have e02 := e1.trans e2
    have hn1 : 1 ≤ n ∧ n ≤ 60 := ⟨hz.1, hz.2.1⟩
    refine q_asgA (vs := [.ref a, .int n]) (ea_cons (ev_var rfl) (ea_cons (ev_var rfl) ea_nil)) fun H3 e3 => ⟨a, ns, n, rfl, ex_l (e02.trans e3) hS, hz, hl63, fun ds hok dp H4 nd0 e4 hdl => ?_⟩
    have e04 := (e02.trans e3).trans e4
    refine q_asgA (vs := [.ref a, .int n]) (ea_cons (ev_var rfl) (ea_cons (ev_var rfl) ea_nil)) fun H5 e5 => ⟨a, ns, n, rfl, ex_l (e04.trans e5) hS, hz, hl63, fun ks hks lp H6 nlp e6 hlp => ?_⟩
    have e06 := (e04.trans e5).trans e6
    have hdl6 := hdl.ex (e5.trans e6)
    obtain ⟨start0, erm, hst0⟩ : ∃ start, cellAt ns 1 % n = start ∧ Here n start := ⟨_, rfl, mod_here (n := n) (by omega) _⟩
    refine q_asg (v := .int start0) ?_ fun H7 e7 => ?_
    · rw [← erm]
      exact ev_op (ev_call0 (ea_cons (ev_var rfl) (ea_cons ev_c ea_nil)) (sv_l_cell_at (ex_l e06 hS) (by decide))) (ev_var rfl) (rv_I (by omega))
    have e07 := e06.trans e7
    refine q_asgA (vs := [.ref a, .int n]) (ea_cons (ev_var rfl) (ea_cons (ev_var rfl) ea_nil)) fun H8 e8 => ⟨a, ns, n, rfl, ex_l (e07.trans e8) hS, hz, fun goal hgo H9 e9 => ?_⟩
    have e09 := (e07.trans e8).trans e9
    have e69 := (e7.trans e8).trans e9
    have cell : ∀ {σ : L2.St} {H' : Hp} {E : XK} (k : Int), 0 ≤ k → Ex H9 H' → σ[0]? = some (some (.ref a)) → Ev (tCall (sp_l_cell_at K) [] E (tCons (tVar 0) (tCons (tC (.int k)) tNil))) σ H' (.int (cellAt ns k)) := fun k hk e h => ev_call0 (ea_cons (ev_var h) (ea_cons ev_c ea_nil)) (sv_l_cell_at (ex_l (e09.trans e) hS) hk)
    refine q_cut (M := fun σ' H' => Ex H9 H' ∧ ∃ start, Here n start ∧ σ' = [some (.ref a), some (.int n), some (.ref dp), some (.ref lp), some (.int start), some (.int goal), none, none, none, none]) ?_ fun σ' H10 hM => ?_
    · exact s_when (b := decide (cellAt ns 0 % 12 ∈ [6, 8]) && decide ((0 : Int) < cellAt ns 2 % 4)) (et_and (et_test (ev_in2 (ev_op (cell 0 (by decide) (Ex.refl _) rfl) ev_c (rv_I (by walk_at "mz side"))))) fun _ => et_test (ev_op (ev_op (cell 2 (by decide) (Ex.refl _) rfl) ev_c (rv_I (by walk_at "mz side"))) ev_c rv_I0)) (fun _ H10 e10 => s_asg (v := .int 0) ev_c fun H11 e11 => ⟨e10.trans e11, 0, ⟨by omega, by omega⟩, rfl⟩) (fun _ H10 e10 => ⟨e10, start0, hst0, rfl⟩)
    obtain ⟨e10, start, hst, rfl⟩ := hM
    have hdl10 := hdl6.ex (e69.trans e10)
    have hlp10 := hlp.ex (e69.trans e10)
    refine q_asgP (P := fun v H' => Dp K H' v (mazeF n ds ks)) (ed_tup (ds := [.int n, .list (ds.map doorD), .list (ks.map keyD)]) (ea_dc (ed_int (ev_var rfl)) (ea_dc (ed_lt (lt_list (ev_var rfl) hdl10)) (ea_dc (ed_lt (lt_list (ev_var rfl) hlp10)) ea_dn))) (by simp)) fun mv H11 e11 hmv => ?_
    have hdl11 := hdl10.ex e11
    have hlp11 := hlp10.ex e11
    have heq : ∀ {σ : L2.St} {H' : Hp}, Ex H11 H' → σ[6]? = some (some mv) → σ[1]? = some (some (.int n)) → σ[2]? = some (some (.ref dp)) → σ[3]? = some (some (.ref lp)) → Ev (tOp (rNeD K) (tVar 6) (tTup (tCons (tVar 1) (tCons (tVar 2) (tCons (tVar 3) tNil))))) σ H' (.bl (!PyData.eqv (mazeF n ds ks) (mazeF n ds ks))) := fun e h6 h1 h2 h3 => ev_neD (ed_any (ev_var h6) (dp_ex e hmv)) (ed_tup (ds := [.int n, .list (ds.map doorD), .list (ks.map keyD)]) (ea_dc (ed_int (ev_var h1)) (ea_dc (ed_any (ev_var h2) (hdl11.ex e).dp) (ea_dc (ed_any (ev_var h3) (hlp11.ex e).dp) ea_dn))) (by simp)) (sh_maze n ds ks) (sh_maze n ds ks)
    refine q_asgC (K := K) (ds := [mazeF n ds ks, .int start, .int goal]) (ea_dc (ed_any (ev_var rfl) hmv) (ea_dc (ed_int (ev_var rfl)) (ea_dc (ed_int (ev_var rfl)) ea_dn))) fun vs H12 e12 hvs => ?_
    obtain ⟨v, u, x, rfl, h1, h2, h3⟩ := dpAll3 hvs
    cases dp_int_inv h2
    cases dp_int_inv h3
    refine ⟨v, n, start, goal, ds, ks, rfl, h1, hok, hn1.2, fun _ _ => ⟨fun t r p l H13 hF nl e13 hp hl => ?_, fun t R p l hv H13 hN hR nl e13 hp hl hhv => ?_⟩, fun z => absurd ⟨hst, hgo⟩ z⟩
    · have e1113 := e12.trans e13
      have hdp13 : Dp K H13 (.ref p) (.tuple [.str "walk", intlD r]) := dp_walk hp hl
      refine q_when (b := (!true) || (decide ((([.str "walk", intlD r] : List PyData).length : Int) < 2) || !PyData.eqv (mazeF n ds ks) (mazeF n ds ks))) (et_or (et_not (et_B (ev_isiD (K := K) (n := "tuple") (ed_any (ev_var rfl) hdp13) (fun v H1 _ h => ty_tup h) (by decide +kernel)))) fun _ => et_or (et_test (ev_op (ev_lenD (K := K) (ed_any (ev_var rfl) hdp13) (.inr rfl)) ev_c rv_I0)) fun _ => et_test (heq e1113 rfl rfl rfl rfl)) (fun hb H14 e14 => ?_) (fun hb H14 e14 => ?_)
      · rw [eqv_self (nb_maze n ds ks)] at hb
        simp at hb
      have hp14 := e14 _ _ hp
      have hl14 := hl.ex e14
      have hdp14 := dp_ex e14 hdp13
      refine q_when (b := decide ((Str.ofString "walk") = (Str.ofString "walk")) && decide ((([.str "walk", intlD r] : List PyData).length : Int) = 2)) (et_and (et_test (ev_op (ev_op (ev_var rfl) ev_c (rv_ixT (SqT.of hp14) (atI_nat (j := 0) rfl))) ev_c rv_eqS)) fun _ => et_test (ev_op (ev_lenD (K := K) (ed_any (ev_var rfl) hdp14) (.inr rfl)) ev_c rv_eqI)) (fun hb H15 e15 => ?_) (fun hb H15 e15 => ?_)
      rotate_left
      · simp at hb
      have e1115 := (e1113.trans e14).trans e15
      have hwi := wi_at (ks := ks) hok.1 hst t
      obtain ⟨pw, hpw, hpg, hpr⟩ := bestF_mem hF.2
      have hpath := path_at ds ks start t pw hpw
      rw [hpr] at hpath
      have hrl : r.length = t + 1 := by rw [← hpr]; exact (hwi.low pw hpw).1
      have hne : (wayAt ds ks start t).1 ≠ [] := fun z => by rw [z] at hpw; cases hpw
      have htl := ways_t (ks := ks) hok.1 hst hne
      refine q_asgP (P := fun u H' => Td H' u (stateD (firstS ks start))) (td_state (ev_var rfl) (td_l_takenU (ev_var rfl) (ev_var rfl) (hlp11.ex e1115).dp)) fun fv H16 e16 hfv => ?_
      have e1116 := e1115.trans e16
      have hp16 := (e15.trans e16) _ _ hp14
      have hl16 := hl14.ex (e15.trans e16)
      refine q_when (b := !true) (et_not (et_B (ev_call0 (ea_cons (ev_var rfl) (ea_cons (ev_var rfl) (ea_cons (ev_op (ev_var rfl) ev_c (rv_ixT (SqT.of hp16) (atI_nat (j := 1) rfl))) (ea_cons (ev_var rfl) (ea_cons (ev_var rfl) ea_nil))))) (sv_l_walks (dv := .ref dp) (lv := .ref lp) (hdl11.ex e1116).dp (hlp11.ex e1116).dp hl16 hpath hpg (by omega) hok.2)))) (fun z => Bool.noConfusion z) (fun _ H17 e17 => ?_)
      have e1117 := e1116.trans e17
      refine q_asgA (vs := [mv, .int start]) (ea_cons (ev_var rfl) (ea_cons (ev_var rfl) ea_nil)) fun H18 e18 => ⟨mv, n, start, ds, ks, rfl, dp_ex (e1117.trans e18) hmv, hok, hn1.2, fun _ rp ps H19 nrp e19 hrp hps hRows => ?_, fun z => absurd hst z⟩
      have e1119 := (e1117.trans e18).trans e19
      have e1619 := (e17.trans e18).trans e19
      have hp19 := e1619 _ _ hp16
      have hl19 := hl16.ex e1619
      have hro := rows_ok (ks := ks) hn1.2 hok.1 hst
      have hra : ∀ k, k ≤ t → ∃ r, (layersF ds ks start)[k]? = some r ∧ ∀ x, x ∈ r ↔ x ∈ keysW (wayAt ds ks start k).1 := fun k hk => rows_at hok.1 hst hn1.2 hne hk
      refine s_ret (v := .bl true) (ev_callP (Pa := fun vs H' => Ex H19 H' ∧ vs = [.ref dp, .ref lp, .ref rp, fv, .int goal, .int (t : Int)]) (fun H20 e20 Q' q' => (ea_cons (ev_var rfl) (ea_cons (ev_var rfl) (ea_cons (ev_var rfl) (ea_cons (ev_var rfl) (ea_cons (ev_var rfl) (ea_cons (ev_is (ev_op (ev_lenD (K := K) (ds := r.map PyData.int) (ed_any (ev_op (ev_var rfl) ev_c (rv_ixT (SqT.of hp19) (atI_nat (j := 1) rfl))) hl19.dp) (.inl rfl)) ev_c rv_I0) (by rw [List.length_map, hrl]; congr 1; omega)) ea_nil))))) : EvA _ _ H19 [.ref dp, .ref lp, .ref rp, fv, .int goal, .int (t : Int)]) H20 e20 _ fun H21 e21 => q' _ H21 e21 ⟨e20.trans e21, rfl⟩) fun vs H20 e20 hvs => ?_) fun H21 e21 => q H21
      obtain ⟨e20', rfl⟩ := hvs
      obtain ⟨r0, hr0, hr0m⟩ := hra 0 (by omega)
      exact fun H22 e22 Q' q' E' => ⟨.ref dp, .ref lp, fv, rp, goal, n, t, ds, ks, ps, layersF ds ks start, firstS ks start, r0, rfl, (hdl11.ex ((e1119.trans e20).trans e22)).dp, (hlp11.ex ((e1119.trans e20).trans e22)).dp, (e20.trans e22) _ _ hrp, hRows.ex (e20.trans e22), hfv.ex ((e1619.trans e20).trans e22), by obtain ⟨r1, hr1, _⟩ := hra t (Nat.le_refl _); exact (List.getElem?_eq_some_iff.mp hr1).1, hro.len, hro.vs, fun r1 hr1 => by
        have h1 := List.Sublist.length_le (List.sublist_flatten_of_mem hr1)
        have h2 := hro.fl
        omega, hn1.2, hok.2, hr0, (hr0m _).mpr (by simp [wayAt]), fun k r1 hk hr1 s1 hs1 => by
          obtain ⟨r2, hr2, hm2⟩ := hra k (by omega)
          rw [hr1] at hr2
          cases hr2
          obtain ⟨p1, hp1, e1⟩ := List.mem_map.mp ((hm2 s1).mp hs1)
          rw [← e1]
          exact bestF_none.mp (hF.1 k hk) p1 hp1, fun k r1 hk hr1 s1 hs1 y hy => by
          obtain ⟨r2, hr2, hm2⟩ := hra k (by omega)
          rw [hr1] at hr2
          cases hr2
          obtain ⟨j, hj, hyj⟩ := way_next ((hm2 s1).mp hs1) hy
          obtain ⟨r3, hr3, hm3⟩ := hra j (by omega)
          exact ⟨j, r3, hj, hr3, (hm3 y).mpr hyj⟩, q'⟩
    · have e1113 := e12.trans e13
      have hdp13 : Dp K H13 (.ref p) (.tuple [.str "shut", intlD R, intsD (heldOf ks R)]) := dp_shut hp hl hhv
      refine q_when (b := (!true) || (decide ((([.str "shut", intlD R, intsD (heldOf ks R)] : List PyData).length : Int) < 2) || !PyData.eqv (mazeF n ds ks) (mazeF n ds ks))) (et_or (et_not (et_B (ev_isiD (K := K) (n := "tuple") (ed_any (ev_var rfl) hdp13) (fun v H1 _ h => ty_tup h) (by decide +kernel)))) fun _ => et_or (et_test (ev_op (ev_lenD (K := K) (ed_any (ev_var rfl) hdp13) (.inr rfl)) ev_c rv_I0)) fun _ => et_test (heq e1113 rfl rfl rfl rfl)) (fun hb H14 e14 => ?_) (fun hb H14 e14 => ?_)
      · rw [eqv_self (nb_maze n ds ks)] at hb
        simp at hb
      have hp14 := e14 _ _ hp
      have hl14 := hl.ex e14
      have hh14 := hhv.ex e14
      have hdp14 := dp_ex e14 hdp13
      refine q_when (b := decide ((Str.ofString "shut") = (Str.ofString "walk")) && decide ((([.str "shut", intlD R, intsD (heldOf ks R)] : List PyData).length : Int) = 2)) (et_and (et_test (ev_op (ev_op (ev_var rfl) ev_c (rv_ixT (SqT.of hp14) (atI_nat (j := 0) rfl))) ev_c rv_eqS)) fun _ => et_test (ev_op (ev_lenD (K := K) (ed_any (ev_var rfl) hdp14) (.inr rfl)) ev_c rv_eqI)) (fun hb H15 e15 => ?_) (fun hb H15 e15 => ?_)
      · simp at hb
      have hp15 := e15 _ _ hp14
      have hdp15 := dp_ex e15 hdp14
      refine q_when (b := (!decide ((Str.ofString "shut") = (Str.ofString "shut"))) || !decide ((([.str "shut", intlD R, intsD (heldOf ks R)] : List PyData).length : Int) = 3)) (et_or (et_test (ev_op (ev_op (ev_var rfl) ev_c (rv_ixT (SqT.of hp15) (atI_nat (j := 0) rfl))) ev_c rv_neS)) fun _ => et_test (ev_op (ev_lenD (K := K) (ed_any (ev_var rfl) hdp15) (.inr rfl)) ev_c rv_neI)) (fun hb H16 e16 => ?_) (fun hb H16 e16 => ?_)
      · simp at hb
      have e1416 := e15.trans e16
      have e1116 := (e1113.trans e14).trans e1416
      exact s_ret (v := .bl true) (ev_call0 (ea_cons (ev_var rfl) (ea_cons (ev_var rfl) (ea_cons (ev_var rfl) (ea_cons (ev_var rfl) (ea_cons (ev_var rfl) ea_nil))))) (sv_l_shut (dv := .ref dp) (lv := .ref lp) (e1416 _ _ hp14) (hl14.ex e1416) (hh14.ex e1416) hR (shut_goal hok.1 hR.1 hN) (hdl11.ex e1116).dp (hlp11.ex e1116).dp hok hn1.2)) fun H21 e21 => q H21
end

set_option maxHeartbeats 0

/-! ### the head -/
section
variable {K : PySem.W.Frag} {h : Heap} {mg : Str → Option Value}
def faL : List Fx := ([.fa (.free "bool"), .fa (.free "int"), .fa (.free "isinstance"), .fa (.free "len"), .fa (.free "list"), .fa (.free "min"), .fa (.free "range"), .fa (.free "sorted"), .fa (.free "tuple"), .fa (.int "KINDS" 5), .fa (.glo "MazeError"), .fa (.exc "MazeError"), .fa (.glo "NoRoom"), .fa (.exc "NoRoom"), .fa (.exm "NoRoom" "MazeError" true), .fa (.exm "NoRoom" "NoRoom" true), .fa (.glo "need_room"), .fa (.glo "taken"), .fa (.glo "opens"), .fa (.glo "steps"), .fa (.glo "room_more"), .fa (.glo "come"), .fa (.glo "hand"), .fa (.glo "least"), .fa (.glo "onward"), .fa (.glo "guide"), .fa (.glo "behind"), .fa (.glo "layers"), .fa (.glo "_law_mix"), .fa (.glo "_law_whole")] : List Fx) ++ ([.fa (.glo "_law_cell_at"), .fa (.glo "_law_size"), .fa (.glo "_law_lock"), .fa (.glo "_law_rank"), .fa (.glo "_law_ranks"), .fa (.glo "_law_many"), .fa (.glo "_law_mixed"), .fa (.glo "_law_built"), .fa (.glo "_law_doors"), .fa (.glo "_law_lying"), .fa (.glo "_law_taken"), .fa (.glo "_law_steps"), .fa (.glo "_law_hand"), .fa (.glo "_law_walks"), .fa (.glo "_law_is_state"), .fa (.glo "_law_none_shorter"), .fa (.glo "_law_shut"), .fa (.glo "_law_goal"), .fa (.glo "law")] : List Fx)
def fnL : List He.DefD := ([⟨("need_room", none), "need_room", "need_room", defArgs s_need_room, defBody s_need_room, defScope s_need_room, [], []⟩, ⟨("taken", none), "taken", "taken", defArgs s_taken, defBody s_taken, defScope s_taken, [], []⟩, ⟨("opens", none), "opens", "opens", defArgs s_opens, defBody s_opens, defScope s_opens, [], []⟩, ⟨("steps", none), "steps", "steps", defArgs s_steps, defBody s_steps, defScope s_steps, [], []⟩, ⟨("room_more", none), "room_more", "room_more", defArgs s_room_more, defBody s_room_more, defScope s_room_more, [], []⟩, ⟨("come", none), "come", "come", defArgs s_come, defBody s_come, defScope s_come, [], []⟩, ⟨("hand", none), "hand", "hand", defArgs s_hand, defBody s_hand, defScope s_hand, [], []⟩, ⟨("least", none), "least", "least", defArgs s_least, defBody s_least, defScope s_least, [], []⟩, ⟨("onward", none), "onward", "onward", defArgs s_onward, defBody s_onward, defScope s_onward, [], []⟩, ⟨("guide", none), "guide", "guide", defArgs s_guide, defBody s_guide, defScope s_guide, [], []⟩, ⟨("behind", none), "behind", "behind", defArgs s_behind, defBody s_behind, defScope s_behind, [], []⟩, ⟨("layers", none), "layers", "layers", defArgs s_layers, defBody s_layers, defScope s_layers, [], []⟩, ⟨("_law_mix", none), "_law_mix", "_law_mix", defArgs s_l_mix, defBody s_l_mix, defScope s_l_mix, [], []⟩, ⟨("_law_whole", none), "_law_whole", "_law_whole", defArgs s_l_whole, defBody s_l_whole, defScope s_l_whole, [], []⟩, ⟨("_law_cell_at", none), "_law_cell_at", "_law_cell_at", defArgs s_l_cell_at, defBody s_l_cell_at, defScope s_l_cell_at, [], []⟩, ⟨("_law_size", none), "_law_size", "_law_size", defArgs s_l_size, defBody s_l_size, defScope s_l_size, [], []⟩, ⟨("_law_lock", none), "_law_lock", "_law_lock", defArgs s_l_lock, defBody s_l_lock, defScope s_l_lock, [], []⟩, ⟨("_law_rank", none), "_law_rank", "_law_rank", defArgs s_l_rank, defBody s_l_rank, defScope s_l_rank, [], []⟩, ⟨("_law_ranks", none), "_law_ranks", "_law_ranks", defArgs s_l_ranks, defBody s_l_ranks, defScope s_l_ranks, [], []⟩, ⟨("_law_many", none), "_law_many", "_law_many", defArgs s_l_many, defBody s_l_many, defScope s_l_many, [], []⟩, ⟨("_law_mixed", none), "_law_mixed", "_law_mixed", defArgs s_l_mixed, defBody s_l_mixed, defScope s_l_mixed, [], []⟩, ⟨("_law_built", none), "_law_built", "_law_built", defArgs s_l_built, defBody s_l_built, defScope s_l_built, [], []⟩, ⟨("_law_doors", none), "_law_doors", "_law_doors", defArgs s_l_doors, defBody s_l_doors, defScope s_l_doors, [], []⟩, ⟨("_law_lying", none), "_law_lying", "_law_lying", defArgs s_l_lying, defBody s_l_lying, defScope s_l_lying, [], []⟩, ⟨("_law_taken", none), "_law_taken", "_law_taken", defArgs s_l_taken, defBody s_l_taken, defScope s_l_taken, [], []⟩, ⟨("_law_steps", none), "_law_steps", "_law_steps", defArgs s_l_steps, defBody s_l_steps, defScope s_l_steps, [], []⟩, ⟨("_law_hand", none), "_law_hand", "_law_hand", defArgs s_l_hand, defBody s_l_hand, defScope s_l_hand, [], []⟩, ⟨("_law_walks", none), "_law_walks", "_law_walks", defArgs s_l_walks, defBody s_l_walks, defScope s_l_walks, [], []⟩, ⟨("_law_is_state", none), "_law_is_state", "_law_is_state", defArgs s_l_is_state, defBody s_l_is_state, defScope s_l_is_state, [], []⟩, ⟨("_law_none_shorter", none), "_law_none_shorter", "_law_none_shorter", defArgs s_l_none_shorter, defBody s_l_none_shorter, defScope s_l_none_shorter, [], []⟩] : List He.DefD) ++ ([⟨("_law_shut", none), "_law_shut", "_law_shut", defArgs s_l_shut, defBody s_l_shut, defScope s_l_shut, [], []⟩, ⟨("_law_goal", none), "_law_goal", "_law_goal", defArgs s_l_goal, defBody s_l_goal, defScope s_l_goal, [], []⟩, ⟨("law", none), "law", "law", defArgs s_law, defBody s_law, defScope s_law, [], []⟩] : List He.DefD)
theorem txt_of (X : K.In h) (G : h.Ns mainGlobals mg) (c : SaysX faL fnL K) : Txt K mg where
  n_bool := He.free_ok X G (c.fact 0 (f := .fa (.free "bool")) rfl)
  n_int := He.free_ok X G (c.fact 1 (f := .fa (.free "int")) rfl)
  n_isinstance := He.free_ok X G (c.fact 2 (f := .fa (.free "isinstance")) rfl)
  n_len := He.free_ok X G (c.fact 3 (f := .fa (.free "len")) rfl)
  n_list := He.free_ok X G (c.fact 4 (f := .fa (.free "list")) rfl)
  n_min := He.free_ok X G (c.fact 5 (f := .fa (.free "min")) rfl)
  n_range := He.free_ok X G (c.fact 6 (f := .fa (.free "range")) rfl)
  n_sorted := He.free_ok X G (c.fact 7 (f := .fa (.free "sorted")) rfl)
  n_tuple := He.free_ok X G (c.fact 8 (f := .fa (.free "tuple")) rfl)
  i_KINDS := He.int_ok X G (c.fact 9 (f := .fa (.int "KINDS" 5)) rfl)
  e_MazeError := excT_ok X G (c.fact 10 (f := .fa (.glo "MazeError")) rfl) (c.fact 11 (f := .fa (.exc "MazeError")) rfl)
  e_NoRoom := excT_ok X G (c.fact 12 (f := .fa (.glo "NoRoom")) rfl) (c.fact 13 (f := .fa (.exc "NoRoom")) rfl)
  m_NoRoom_MazeError := He.exm_ok (c.fact 14 (f := .fa (.exm "NoRoom" "MazeError" true)) rfl)
  m_NoRoom_NoRoom := He.exm_ok (c.fact 15 (f := .fa (.exm "NoRoom" "NoRoom" true)) rfl)
  d_need_room := c.dfn X G 0 16 rfl rfl fun _ _ _ _ _ _ us hl => match us, hl with | [_, _], _ => rfl
  d_taken := c.dfn X G 1 17 rfl rfl fun _ _ _ _ _ _ us hl => match us, hl with | [_, _, _], _ => rfl
  d_opens := c.dfn X G 2 18 rfl rfl fun _ _ _ _ _ _ us hl => match us, hl with | [_, _], _ => rfl
  d_steps := c.dfn X G 3 19 rfl rfl fun _ _ _ _ _ _ us hl => match us, hl with | [_, _, _], _ => rfl
  d_room_more := c.dfn X G 4 20 rfl rfl fun _ _ _ _ _ _ us hl => match us, hl with | [_, _, _], _ => rfl
  d_come := c.dfn X G 5 21 rfl rfl fun _ _ _ _ _ _ us hl => match us, hl with | [_, _], _ => rfl
  d_hand := c.dfn X G 6 22 rfl rfl fun _ _ _ _ _ _ us hl => match us, hl with | [_, _], _ => rfl
  d_least := c.dfn X G 7 23 rfl rfl fun _ _ _ _ _ _ us hl => match us, hl with | [_, _], _ => rfl
  d_onward := c.dfn X G 8 24 rfl rfl fun _ _ _ _ _ _ us hl => match us, hl with | [_, _, _], _ => rfl
  d_guide := c.dfn X G 9 25 rfl rfl fun _ _ _ _ _ _ us hl => match us, hl with | [_, _, _], _ => rfl
  d_behind := c.dfn X G 10 26 rfl rfl fun _ _ _ _ _ _ us hl => match us, hl with | [_, _, _], _ => rfl
  d_layers := c.dfn X G 11 27 rfl rfl fun _ _ _ _ _ _ us hl => match us, hl with | [_, _], _ => rfl
  d_l_mix := c.dfn X G 12 28 rfl rfl fun _ _ _ _ _ _ us hl => match us, hl with | [_, _], _ => rfl
  d_l_whole := c.dfn X G 13 29 rfl rfl fun _ _ _ _ _ _ us hl => match us, hl with | [_], _ => rfl
  d_l_cell_at := c.dfn X G 14 30 rfl rfl fun _ _ _ _ _ _ us hl => match us, hl with | [_, _], _ => rfl
  d_l_size := c.dfn X G 15 31 rfl rfl fun _ _ _ _ _ _ us hl => match us, hl with | [_], _ => rfl
  d_l_lock := c.dfn X G 16 32 rfl rfl fun _ _ _ _ _ _ us hl => match us, hl with | [_], _ => rfl
  d_l_rank := c.dfn X G 17 33 rfl rfl fun _ _ _ _ _ _ us hl => match us, hl with | [_, _], _ => rfl
  d_l_ranks := c.dfn X G 18 34 rfl rfl fun _ _ _ _ _ _ us hl => match us, hl with | [_, _], _ => rfl
  d_l_many := c.dfn X G 19 35 rfl rfl fun _ _ _ _ _ _ us hl => match us, hl with | [_, _], _ => rfl
  d_l_mixed := c.dfn X G 20 36 rfl rfl fun _ _ _ _ _ _ us hl => match us, hl with | [_, _], _ => rfl
  d_l_built := c.dfn X G 21 37 rfl rfl fun _ _ _ _ _ _ us hl => match us, hl with | [_, _], _ => rfl
  d_l_doors := c.dfn X G 22 38 rfl rfl fun _ _ _ _ _ _ us hl => match us, hl with | [_, _], _ => rfl
  d_l_lying := c.dfn X G 23 39 rfl rfl fun _ _ _ _ _ _ us hl => match us, hl with | [_, _], _ => rfl
  d_l_taken := c.dfn X G 24 40 rfl rfl fun _ _ _ _ _ _ us hl => match us, hl with | [_, _, _], _ => rfl
  d_l_steps := c.dfn X G 25 41 rfl rfl fun _ _ _ _ _ _ us hl => match us, hl with | [_, _, _, _], _ => rfl
  d_l_hand := c.dfn X G 26 42 rfl rfl fun _ _ _ _ _ _ us hl => match us, hl with | [_, _], _ => rfl
  d_l_walks := c.dfn X G 27 43 rfl rfl fun _ _ _ _ _ _ us hl => match us, hl with | [_, _, _, _, _], _ => rfl
  d_l_is_state := c.dfn X G 28 44 rfl rfl fun _ _ _ _ _ _ us hl => match us, hl with | [_], _ => rfl
  d_l_none_shorter := c.dfn X G 29 45 rfl rfl fun _ _ _ _ _ _ us hl => match us, hl with | [_, _, _, _, _, _], _ => rfl
  d_l_shut := c.dfn X G 30 46 rfl rfl fun _ _ _ _ _ _ us hl => match us, hl with | [_, _, _, _, _], _ => rfl
  d_l_goal := c.dfn X G 31 47 rfl rfl fun _ _ _ _ _ _ us hl => match us, hl with | [_, _], _ => rfl
  d_law := c.dfn X G 32 48 rfl rfl fun _ _ _ _ _ _ us hl => match us, hl with | [_], _ => rfl
end
abbrev Rrow : PySem.W.OpenRow := PySem.W.OpenLaw.row PySem.Challenge.rw_mazeguide_k09_whole_walk_or_shut
abbrev hkL : PySem.W.Hook := hookX 4 faL fnL
def looseL : List Str := (["need_room", "taken", "opens", "steps", "room_more", "come", "hand", "least", "onward", "guide", "behind", "layers", "_law_mix", "_law_whole", "_law_cell_at", "_law_size", "_law_lock", "_law_rank", "_law_ranks", "_law_many", "_law_mixed", "_law_built", "_law_doors", "_law_lying", "_law_taken", "_law_steps", "_law_hand", "_law_walks", "_law_is_state", "_law_none_shorter"] : List Str) ++ (["_law_shut", "_law_goal", "MazeError", "NoRoom", "KINDS"] : List Str)
def obL (s : PySem.W.SharedT) : He.AlD := obsXG 4 faL fnL (HandSHeadRun.getT s)
theorem obL_eq (s : PySem.W.SharedT) : obL s = hkL.obs s.abs := obsXG_eq (HandSHeadRun.getT_eq s)
theorem runL (w : World) : HandSHeadRun.RunEq Rrow (PySem.W.view Rrow.prog [41]) hkL obL 6000 looseL w := by
  intro os
  kernel_rfl
theorem law_fn {P : Program} {w : World} {K : PySem.W.Frag} {h : Heap} {mg : Str → Option Value} {f : Addr} (X : K.In h) (G : h.Ns mainGlobals mg) (hfa : mg ("law" : Str) = some (.ref f)) (c : SaysX faL fnL K) :
    ∃ fd : FuncData, (∀ (s : Shared) (v : Value), BindsTo s fd ⟨[v], []⟩ [("_law_script", v)]) ∧ ∀ base : Heap, K.In base → base.Ns mainGlobals mg → FnOk P w K mg base CX0 6 f fd ["_law_script"] (sp_law K) := by
  have T : Txt K mg := txt_of X G c
  obtain ⟨fd, F⟩ := c.def_ 32 (d := ⟨("law", none), "law", "law", defArgs s_law, defBody s_law, defScope s_law, [], []⟩) rfl
  have e := hfa.symm.trans T.d_law.1
  cases e
  have b := FunD.bindsA (ps := ["_law_script"]) F fun _ _ _ _ _ _ us hl => match us, hl with | [_], _ => rfl
  exact ⟨fd, fun s v => b s [v] rfl, fun base _ _ => ok_law T F⟩
end Mz
open PySem PySem.W PySem.Calls PyProof.Rows
theorem PySem.Challenge.cw_mazeguide_k09_whole_walk_or_shut_holds : PySem.Challenge.rw_mazeguide_k09_whole_walk_or_shut.Holds := by
  w_on; o_law
  refine HandSHeadRun.head_any (r := OpenLaw.row PySem.Challenge.rw_mazeguide_k09_whole_walk_or_shut) (q := view (OpenLaw.row PySem.Challenge.rw_mazeguide_k09_whole_walk_or_shut).prog [41]) (H := Mz.hkL) (ob := Mz.obL) (M := 6000) (loose := Mz.looseL) (d := HandSHeadRun.topDef (OpenLaw.row PySem.Challenge.rw_mazeguide_k09_whole_walk_or_shut).prog 41) (kwd := []) Mz.obL_eq
    (by kernel_rfl) (fun s => by kernel_rfl) Mz.runL (by kernel_rfl) (by kernel_rfl) (by kernel_rfl) (by rfl) (by first | assumption | decide +kernel) (by decide +kernel) ⟨rfl, rfl, rfl, rfl, rfl, by decide +kernel⟩ ?hw ?hc
  case hw => w_witness2
  case hc =>
    refine L2.walk_ofE (l := PySem.Challenge.rw_mazeguide_k09_whole_walk_or_shut) (n := 63) (k := 6) (x := "_law_script") (CX := L2.CX0) rfl (by decide) (by kernel_rfl) ⟨rfl, by decide, by decide⟩ ?F (fun _ _ _ _ z => z)
    intro w mg fa h Y G hmg0
    obtain ⟨K, KX, c⟩ := Y
    have hmg : mg ("law" : PySem.Str) = some (.ref fa) := by
      have e : (HandSHeadRun.topDef (OpenLaw.row PySem.Challenge.rw_mazeguide_k09_whole_walk_or_shut).prog 41).name = ("law" : PySem.Str) := by kernel_rfl
      rw [← e]
      exact hmg0
    obtain ⟨fd, hb, hF⟩ := Mz.law_fn (P := (PySem.Challenge.rw_mazeguide_k09_whole_walk_or_shut).prog) (w := w) KX G hmg c
    exact ⟨K, fd, Mz.sp_law K, KX, hb, fun H a ns hl _ hS => ⟨a, ns, rfl, hS, hl, fun _ => rfl⟩, hF⟩
