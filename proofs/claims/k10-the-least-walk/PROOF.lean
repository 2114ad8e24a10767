import PyProof.Rows.All
import Wide.All
import OpenK.AllK
import Wide.FinOn
import PyProof.EqAt
import PyProof.EqKinds
import PyProof.TupleCall
import KE.KStateDown
import KE.KDictKeyed
import KE.KDictDisplayH
import KE.SortData
import KE.DataMinMax
import HandS.SortKw
import HandS.ForMost
import HandS.ForExc
import HandS.Deep
import HandS.Walk
import HandS.TupLen
import HandS.FStr
import HandS.Conv
import HandS.TupAny
import HandS.IsInst
import HandS.ExcIs
import HandS.TryMany
import HandS.Defaults
import HandS.Head0
import HandS.Head1
import HandS.Head2
import HandS.HeadEnd
import HandS.HeadHook1
import HandS.HeadHook2
import HandS.Evl
import HandS.Text
import Lean
import PySem.Challenge.RW_mazeguide_k10_the_least_walk
set_option Elab.async false
set_option linter.all false
set_option maxRecDepth 100000
set_option maxHeartbeats 4000000
namespace Mz
open PySem PySem.Spec PyProof.Rows L2

/-! ### a def that keeps its promise -/
/-- the def of the text at the module's name x -/
def Dfn (K : PySem.W.Frag) (mg : Str → Option Value) (x : Str) (st : Stmt) (ps : List Str) : Prop :=
  mg x = some (.ref (He.ga K x)) ∧ ∃ fd, FunD K x x (defArgs st) (defBody st) (defScope st) [] [] (He.ga K x) fd ∧ Binds K fd ps []
def Kept (P : Program) (w : World) (K : PySem.W.Frag) (mg : Str → Option Value) (base : Heap) (k : Nat) (x : Str) (ps : List Str) (sp : Sp) : Prop :=
  ∃ f fd, FnOk P w K mg base (L2.CX P w) k f fd ps sp ∧ mg x = some (.ref f) ∧ PySem.W.keepIn K (.ref f) = true ∧ Binds K fd ps []
section
variable {P : Program} {w : World} {K : PySem.W.Frag} {mg : Str → Option Value} {base : Heap}
theorem Dfn.kept {x : Str} {st : Stmt} {N ps : List Str} {k : Nat} {sp : Sp} (D : Dfn K mg x st ps) (S : FnScope N ps (defScope st)) (len : ∀ vs H Q E, sp vs H Q E → vs.length = ps.length)
    (hbody : ∀ (cdv : Value) (A : Around) (outer : List Env) (s : Shared) (H : Hp) (vs : List V) (Q : VK) (E : XK), Room k (A.deeper (envOfC x (defScope st) s.heap.objs.size (He.ga K x) cdv)) → sp vs H Q E →
      ∃ t, PSs (cxOf (L2.CX P w) P w K mg base N x (defScope st) (He.ga K x) cdv A outer s H E) (defBody st) t ∧ t { nx := fun _ H' => Q .non H', rt := Q } (start N vs) H) :
    Kept P w K mg base (k + 1) x ps sp := by
  obtain ⟨g, fd, F, b⟩ := D
  exact ⟨_, fd, F.ok S len hbody, g, F.kp, b⟩
end
section
variable {X : Cx} {k : Nat} {x : Str} {ps : List Str} {sp : Sp} {p pos : Pos} {e : Expr} {es : List Expr} {t : TA}
theorem pe_fn {E : XK} (F : Kept X.prog X.w X.K X.mg X.base k x ps sp) (hr : Room k X.A) (hx : Passes (L2.CX X.prog X.w) X E) (hg : Gl X x) (ha : PA X (e :: es) t)
    (hdb : (x == ("__debug__" : Str)) = false := by decide) (he : starEach (e :: es) X.env = (false, eval e X.env) :: starEach es X.env := by rfl) (hpl : (backTo pos (starEach es X.env)).any (·.1) = false := by rfl) :
    PE X (.Call (.Name x p) (e :: es) [] pos) (tCall sp [] E t) := by
  obtain ⟨f, fd, G, g, kp, b⟩ := F
  exact pe_call G hr hg g kp b .nil hx ha hdb he hpl
theorem pe_fnS {E : L2.St → XK} (F : Kept X.prog X.w X.K X.mg X.base k x ps sp) (hr : Room k X.A) (hx : ∀ st, PassesAt (L2.CX X.prog X.w) X st (E st)) (ha : PA X (e :: es) t) (hg : Gl X x := by rfl)
    (hdb : (x == ("__debug__" : Str)) = false := by decide) (he : starEach (e :: es) X.env = (false, eval e X.env) :: starEach es X.env := by rfl) (hpl : (backTo pos (starEach es X.env)).any (·.1) = false := by rfl) :
    PE X (.Call (.Name x p) (e :: es) [] pos) (tCallS sp E t) := by
  obtain ⟨f, fd, G, g, kp, b⟩ := F
  exact pe_callS G hr hg g kp b hx ha hdb he hpl
theorem passR {E : XK} (tk : L2.Takes X (fun cls d _ H => E cls d H)) : Passes (L2.CX X.prog X.w) X E := passes_call tk fun _ _ _ _ h => h
theorem takes0x : L2.Takes X (fun _ _ _ _ => False) := takes0
theorem pe_gint {i : Int} (h : ∃ tk, X.mg x = some (.int i tk)) (hg : Gl X x) (hd : (x == ("__debug__" : Str)) = false := by decide) : PE X (.Name x p) (tC (.int i)) := by
  obtain ⟨tk, h⟩ := h
  exact pe_glob hg h ⟨tk, rfl⟩ hd
theorem pe_gstr {z : Str} (h : ∃ tk, X.mg x = some (.str z tk)) (hg : Gl X x) (hd : (x == ("__debug__" : Str)) = false := by decide) : PE X (.Name x p) (tC (.str z)) := by
  obtain ⟨tk, h⟩ := h
  exact pe_glob hg h ⟨tk, rfl⟩ hd
theorem pe_gref {a : Addr} (h : X.mg x = some (.ref a)) (hg : Gl X x) (hd : (x == ("__debug__" : Str)) = false := by decide) : PE X (.Name x p) (tC (.ref a)) := pe_glob hg h rfl hd
end
theorem u65 {k : Nat} {A : Around} (hr : Room k A) : A.units + 65 < cLine := by have := hr.un; omega

/-! ### exception classes of the text -/
structure ExcT (K : PySem.W.Frag) (mg : Str → Option Value) (x : Str) : Prop where
  gC : mg x = some (.ref (He.ga K x))
  xC : PySem.W.excIn K (He.ga K x) [.type "ValueError", .type "Exception", .type "BaseException", .type "object"] "ValueError.__new__" = true
  kC : PySem.W.keepIn K (.ref (He.ga K x)) = true
  bC : PySem.W.subIn K (.ref (He.ga K x)) (.type "BaseException") = some true
  tC : PySem.W.typeIn K (.ref (He.ga K x)) = some (.type "type")
/-! ### the head's facts -/
inductive Fx where
  | fa (f : He.Fa)
  | excC (x : Str)
  | kit (x y : Str) (b : Bool)
  | kitT (x : Str) (n : String) (b : Bool)
def Fx.ok (K : PySem.W.Frag) : Fx → Bool
  | .fa f => f.ok K
  | .excC x => He.eqO (PySem.W.findIn K (.ref (He.ga K x)) "__getattribute__") (some (some (.builtin "BaseException.__getattribute__"))) && (He.eqO (PySem.W.findIn K (.ref (He.ga K x)) "__getattr__") (some none) && (decide (PySem.W.subIn K (.ref (He.ga K x)) (.type "BaseException") = some true) &&
      (PySem.W.hasDictIn K (He.ga K x) && (He.eqO (PySem.W.findIn K (.ref (He.ga K x)) "__class__") (some (some (.builtin "object.__class__"))) && (He.eqO (PySem.W.specialIn K (.builtin "object.__class__") "__get__") (some (some (.builtin "getset_descriptor.__get__"))) &&
        (decide (PySem.W.takesIn K (.builtin "object.__class__") = some true) && decide (PySem.W.mroIn K (He.ga K x) (.type "object") = some true)))))))
  | .kit x y b => decide (PySem.W.kitOne K (.ref (He.ga K x)) (.ref (He.ga K y)) = some b)
  | .kitT x n b => decide (PySem.W.kitOne K (.ref (He.ga K x)) (.type n) = some b)
theorem excC_ok {K : PySem.W.Frag} {x : Str} (c : (Fx.excC x).ok K = true) : ExcC K (He.ga K x) := by
  obtain ⟨h1, c⟩ := He.ba c
  obtain ⟨h2, c⟩ := He.ba c
  obtain ⟨h3, c⟩ := He.ba c
  obtain ⟨h4, c⟩ := He.ba c
  obtain ⟨h5, c⟩ := He.ba c
  obtain ⟨h6, c⟩ := He.ba c
  obtain ⟨h7, h8⟩ := He.ba c
  exact ⟨He.eqO_ok h1, He.eqO_ok h2, of_decide_eq_true h3, h4, He.eqO_ok h5, He.eqO_ok h6, of_decide_eq_true h7, of_decide_eq_true h8⟩
theorem excT_ok {K : PySem.W.Frag} {h : Heap} {mg : Str → Option Value} (X : K.In h) (G : h.Ns mainGlobals mg) {x : Str} (g : (He.Fa.glo x).ok K = true) (c : (He.Fa.exc x).ok K = true) : ExcT K mg x := by
  obtain ⟨h1, h2, h3, h4⟩ := He.exc_ok c
  exact ⟨He.glo_ok X G g, h1, h2, h3, h4⟩
def obsX (fa : List Fx) (fn : List He.DefD) (K : PySem.W.Frag) : He.AlD := ((fa.all fun f => f.ok K) && fn.all fun d => d.ok K, fn.map fun d => He.fnW K d.at_)
def SaysX (fa : List Fx) (fn : List He.DefD) (K : PySem.W.Frag) : Prop := obsX fa fn K = He.valD fn
def obsXG (n : Nat) (fa : List Fx) (fn : List He.DefD) (g : Addr → Option Obj) : He.AlD := obsX fa fn (He.frG g (He.asD g n))
def hookX (n : Nat) (fa : List Fx) (fn : List He.DefD) : PySem.W.Hook where
  α := He.AlD
  obs := fun s => obsXG n fa fn s.heap.get?
  val := fun _ => He.valD fn
  says := fun _ h => ∃ K : PySem.W.Frag, K.In h ∧ SaysX fa fn K
  of := fun _ _ e => ⟨_, He.frG_in, e⟩
  keeps := fun _ _ _ ⟨K, hK, c⟩ k => ⟨K, PySem.W.Frag.In.keeps hK k, c⟩
theorem obsXG_eq {n : Nat} {fa : List Fx} {fn : List He.DefD} {g : Addr → Option Obj} {s : Shared} (h : ∀ a, g a = s.heap.get? a) : obsXG n fa fn g = (hookX n fa fn).obs s := by
  have e : g = s.heap.get? := funext h
  rw [e]
  rfl
section
variable {fa : List Fx} {fn : List He.DefD} {K : PySem.W.Frag}
theorem SaysX.fact (c : SaysX fa fn K) (i : Nat) {f : Fx} (h : fa[i]? = some f := by rfl) : f.ok K = true := by
  have e : ((fa.all fun f => f.ok K) && fn.all fun d => d.ok K) = true := congrArg Prod.fst c
  have e1 := (He.ba e).1
  exact List.all_eq_true.mp e1 f (List.mem_of_getElem? h)
theorem SaysX.def_ (c : SaysX fa fn K) (i : Nat) {d : He.DefD} (h : fn[i]? = some d := by rfl) : ∃ fd, FunD K d.name d.qual d.params d.body d.scope (d.dvs K) (d.kws K) (He.fAd K d.at_) fd := by
  have e : ((fa.all fun f => f.ok K) && fn.all fun d => d.ok K) = true := congrArg Prod.fst c
  have e2 := List.all_eq_true.mp (He.ba e).2 d (List.mem_of_getElem? h)
  have e3 : (fn.map fun d => He.fnW K d.at_) = fn.map He.DefD.val := congrArg Prod.snd c
  have e4 : He.fnW K d.at_ = d.val := by
    have q := congrArg (fun l => l[i]?) e3
    simp only [List.getElem?_map, h, Option.map_some, Option.some.injEq] at q
    exact q
  exact He.DefD.funD e4 e2
theorem SaysX.dfn {mg : Str → Option Value} {h : Heap} (X : K.In h) (G : h.Ns mainGlobals mg) (c : SaysX fa fn K) {x : Str} {st : Stmt} {ps : List Str} (i j : Nat) (hd : fn[i]? = some ⟨(x, none), x, x, defArgs st, defBody st, defScope st, [], []⟩) (hj : fa[j]? = some (.fa (.glo x)))
    (hb : ∀ (kV doc pm : Value) (an : Option Addr) (cdv ct : Value) (us : List Value), us.length = ps.length → bindArgs (PySem.W.fnOf x x (defArgs st) (defBody st) (defScope st) .none kV doc pm an cdv ct) ⟨us, []⟩ = pure (ps.zip us)) : Dfn K mg x st ps := by
  obtain ⟨fd, F⟩ := c.def_ i hd
  exact ⟨He.glo_ok X G (c.fact j hj), fd, F, FunD.bindsN F hb⟩
end
/-- the law's end -/
theorem cx_end {P : Program} {w : World} (H : Hp) (s : Shared) (e : Value) (s' : Shared) (h : L2.CX P w [] H s (fun _ _ _ => False) e s') : False := by
  obtain ⟨_, _, _, _, _, _, _, _, _, _, _, _, z⟩ := h
  exact z
/-! ### a suite whose exception is of a class of the text -/
theorem pss_exc {X : Cx} {sts : List Stmt} {K : PySem.W.Frag} {cls : Value} {dd : Option Addr} {oe : Obj} {t : Addr → TS} (hz : Zc cls dd oe) (h : ∀ D, ExcC K D → Zc (.ref D) none oe → PSs X sts (t D)) :
    PSs X sts (fun Dn st H => ∃ D, (cls = .ref D ∧ dd = none ∧ ExcC K D) ∧ t D Dn st H) := ⟨fun pins s st H Dn I q => by
  obtain ⟨D, ⟨rfl, rfl, hx⟩, q⟩ := q
  exact (h D hx hz).run pins s st H Dn I q⟩
/-! ### xs.count(y), flat items -/
theorem countP_eqU {y : V} : ∀ {xs : List V} {us : List Value}, Vals xs us → xs.all flatV = true → us.countP (eqU y) = xs.countP fun z => eqV z y
  | _, _, .nil, _ => rfl
  | _, _, .cons r t, f => by
    simp only [List.all_cons, Bool.and_eq_true] at f
    rw [List.countP_cons, List.countP_cons, countP_eqU t f.2, eqU_of r f.1]
def rCntF (K : PySem.W.Frag) : V → List V → Hp → VK → Prop := fun x vs H Q => ∃ (p : Addr) (xs : List V) (y : V), x = .ref p ∧ vs = [y] ∧ SqL K H p xs ∧ flatV y = true ∧ xs.all flatV = true ∧ Q (.int (xs.countP (fun z => eqV z y) : Nat)) H
theorem mt_countF {X : Cx} : MtR X "list.count" (rCntF X.K) := by
  intro pins s st H x vs v us Q I rx rxs h
  obtain ⟨p, xs, y, rfl, rfl, hs, fy, fx, q⟩ := h
  cases rx
  obtain ⟨u, rfl, ru⟩ := rxs.one
  obtain ⟨its, rv, ⟨⟨cls, dd, data, sl⟩, n, ho, hc, hdn, hd⟩, hlen⟩ := I.list hs
  simp only at hc hd
  subst hc hd
  refine call_meets PySem.F.slot_list_count ⟨_, ho, rfl⟩ PySem.F.entry_list_count (PySem.F.args_list_count_2 _ _)
    (SeqAt.list_countAt p its.toArray n dd sl u (eqU y)) ⟨ho, fun z hz => mem_eqAt ru fy rv fx z (by simpa using hz), ?_⟩
  have ec : its.toArray.toList.countP (eqU y) = xs.countP fun z => eqV z y := countP_eqU rv fx
  refine ⟨.int (xs.countP (fun z => eqV z y) : Nat), H, I.tok _, ⟨s.toks, ?_⟩, q⟩
  show Value.int ((its.toArray.toList.countP (eqU y) : Nat) : Int) s.toks = Value.int ((xs.countP (fun z => eqV z y) : Nat) : Int) s.toks
  rw [ec]
theorem mt_countF_K {X : Cx} {K : PySem.W.Frag} (h : X.K = K) : MtR X "list.count" (rCntF K) := by subst h; exact mt_countF
/-! ### the same rules, the written part named (within a comprehension) -/
section
variable {X : Cx} {K : PySem.W.Frag}
theorem ix_list_K (h : X.K = K) : IxR X (rIxL K) := by subst h; exact ix_list
theorem ix_seq_K (h : X.K = K) : IxR X (rIx K) := by subst h; exact ix_seq
theorem sl_tupA_K (h : X.K = K) : SlR X (rSlA K) := by subst h; exact sl_tupA
theorem op_catA_K (h : X.K = K) : OpR X (binaryOp .Add) (rCatA K) := by subst h; exact op_catA
theorem cr_sorted_K (h : X.K = K) : CallR X (.builtin "sorted") (rSorted K) := by subst h; exact cr_sorted
theorem pi_list_K {tg l : Expr} {tl : TE} (h : X.K = K) (hl : PE X l tl) : PI X tg l (iList K tl) := by subst h; exact pi_list hl
theorem pi_tup_K {tg l : Expr} {tl : TE} (h : X.K = K) (hl : PE X l tl) : PI X tg l (iTup K tl) := by subst h; exact pi_tup hl
theorem pg_tup_K {es : List Expr} {k : Nat} {t : TGs} {n : Nat} {pos : Pos} (hK : X.K = K) (hc : X.calm = true) (h : PGs X es t) (hn : (assignEach es X.env).length = n := by rfl) (hst : (assignEach es X.env).findIdx? (·.1) = none := by rfl) : PG X (.Tuple es k pos) (gTup K n t) := by
  subst hK; exact pg_tup hc h hn hst
theorem pe_bm0_K {o : Expr} {to : TE} {name : Str} {apos cpos : Pos} {T id : String} {r : V → List V → Hp → VK → Prop} (hK : X.K = K) (pa : PlainAttrs T) (slot : Slot T name id) (hty : typeOf (.builtin id) = pure (.type "method_descriptor")) (hm : MtR X id r) (ho : PE X o to)
    (hbase : attributeBase o name X.env (eval o X.env) = eval o X.env := by rfl) (hline : (apos.endLine == cpos.line) = true := by rfl) : PE X (.Call (.Attribute o name apos) [] [] cpos) (tBM0 K T r to) := by
  subst hK; exact pe_bm0 pa slot hty hm ho hbase hline
theorem pe_bm_K {o e : Expr} {es : List Expr} {to : TE} {t : TA} {name : Str} {apos cpos : Pos} {T id : String} {r : V → List V → Hp → VK → Prop} (hK : X.K = K) (pa : PlainAttrs T) (slot : Slot T name id) (hty : typeOf (.builtin id) = pure (.type "method_descriptor")) (hm : MtR X id r) (ho : PE X o to) (ha : PA X (e :: es) t)
    (hbase : attributeBase o name X.env (eval o X.env) = eval o X.env := by rfl)
    (hfew : ((backTo cpos (starEach (e :: es) X.env)).all (fun x => !x.1) && (backToKw cpos (keywordEach [] X.env)).all (fun x => x.1.isSome) && decide ((e :: es).length + ([] : List Keyword).length + (if ([] : List Keyword).isEmpty then 0 else 1) < 30)) = true := by rfl)
    (hline : (apos.endLine == cpos.line) = true := by rfl) (hs : starEach (e :: es) X.env = (false, eval e X.env) :: starEach es X.env := by rfl) (hplain : (backTo cpos (starEach es X.env)).any (·.1) = false := by rfl) :
    PE X (.Call (.Attribute o name apos) (e :: es) [] cpos) (tBM K T r to t) := by
  subst hK; exact pe_bm pa slot hty hm ho ha hbase hfew hline hs hplain
theorem ix_tup_K (h : X.K = K) : IxR X (rIxT K) := by subst h; exact ix_tup
theorem sl_list_K (h : X.K = K) : SlR X (rSlL K) := by subst h; exact sl_list
theorem call_len_seq_K (h : X.K = K) : CallR X (.builtin "len") (fun xs H Q => ∃ p ys, xs = [.ref p] ∧ (SqL K H p ys ∨ SqT K H p ys) ∧ Q (.int ys.length) H) := by subst h; exact call_len_seq
theorem call_list_of_K (h : X.K = K) : CallR X (.type "list") (fun xs H Q => ∃ p ys, xs = [.ref p] ∧ (SqL K H p ys ∨ SqT K H p ys) ∧ ∀ l, H l = none → Q (.ref l) (upd H l (.lst ys))) := by subst h; exact call_list_of
theorem call_tuple_of_K (h : X.K = K) : CallR X (.type "tuple") (fun xs H Q => ∃ p ys, xs = [.ref p] ∧ ((SqL K H p ys ∧ ∀ l, H l = none → Q (.ref l) (upd H l (.tup ys))) ∨ (SqT K H p ys ∧ Q (.ref p) H))) := by subst h; exact call_tuple_of
theorem call_isi_K (h : X.K = K) : CallR X (.builtin "isinstance") (rIsi K) := by subst h; exact call_isi
theorem op_eqD_K (h : X.K = K) (hu : X.A.units + 64 < cLine) : OpR X (compareOp .Eq) (rEqD K) := by subst h; exact op_eqD hu
theorem op_neD_K (h : X.K = K) (hu : X.A.units + 64 < cLine) : OpR X (compareOp .NotEq) (rNeD K) := by subst h; exact op_neD hu
theorem op_inD_K (h : X.K = K) (hu : X.A.units + 65 < cLine) : OpR X (compareOp .In) (rInD K) := by subst h; exact op_inD hu
theorem op_notInD_K (h : X.K = K) (hu : X.A.units + 65 < cLine) : OpR X (compareOp .NotIn) (rNotInD K) := by subst h; exact op_notInD hu
theorem op_in_seq_K (h : X.K = K) : OpR X (compareOp .In) (rIn K false) := by subst h; exact op_in_seq
theorem op_notIn_seq_K (h : X.K = K) : OpR X (compareOp .NotIn) (rIn K true) := by subst h; exact op_notIn_seq
end
end Mz
namespace Mz
open PySem PySem.Spec PyProof.Rows L2 Evl

/-! ### data made of tuples alone: it stays while lists change -/
mutual
inductive Td (H : Hp) : V → PyData → Prop
  | non : Td H .non .none
  | bl (b : Bool) : Td H (.bl b) (.bool b)
  | int (i : Int) : Td H (.int i) (.int i)
  | str (x : Str) : Td H (.str x) (.str x)
  | tup {a : Addr} {xs : List V} {ds : List PyData} : H a = some (.tup xs) → TdAll H xs ds → Td H (.ref a) (.tuple ds)
inductive TdAll (H : Hp) : List V → List PyData → Prop
  | nil : TdAll H [] []
  | cons {v : V} {vs : List V} {d : PyData} {ds : List PyData} : Td H v d → TdAll H vs ds → TdAll H (v :: vs) (d :: ds)
end
section
variable {K : PySem.W.Frag} {H H' : Hp}
mutual
theorem Td.keep (k : ∀ b xs, H b = some (.tup xs) → H' b = some (.tup xs)) : ∀ {d : PyData} {v : V}, Td H v d → Td H' v d
  | .none, _, .non => .non
  | .bool _, _, .bl b => .bl b
  | .int _, _, .int i => .int i
  | .str _, _, .str x => .str x
  | .tuple ds, _, .tup h r => .tup (k _ _ h) (TdAll.keep k r)
theorem TdAll.keep (k : ∀ b xs, H b = some (.tup xs) → H' b = some (.tup xs)) : ∀ {ds : List PyData} {vs : List V}, TdAll H vs ds → TdAll H' vs ds
  | [], _, .nil => .nil
  | _ :: _, _, .cons h r => .cons (Td.keep k h) (TdAll.keep k r)
end
mutual
theorem Td.dp : ∀ {d : PyData} {v : V}, Td H v d → Dp K H v d
  | .none, _, .non => .non
  | .bool _, _, .bl b => .bl b
  | .int _, _, .int i => .int i
  | .str _, _, .str x => .str x
  | .tuple ds, _, .tup h r => .tup (SqT.of h) (TdAll.dp r)
theorem TdAll.dp : ∀ {ds : List PyData} {vs : List V}, TdAll H vs ds → DpAll K H vs ds
  | [], _, .nil => .nil
  | _ :: _, _, .cons h r => .cons (Td.dp h) (TdAll.dp r)
end
mutual
theorem dp_ex (e : Ex H H') : ∀ {d : PyData} {v : V}, Dp K H v d → Dp K H' v d
  | .none, _, .non => .non
  | .bool _, _, .bl b => .bl b
  | .int _, _, .int i => .int i
  | .str _, _, .str x => .str x
  | .list ds, _, .lst h r => .lst (ex_l e h) (dpAll_ex e r)
  | .tuple ds, _, .tup h r => .tup (ex_t e h) (dpAll_ex e r)
theorem dpAll_ex (e : Ex H H') : ∀ {ds : List PyData} {vs : List V}, DpAll K H vs ds → DpAll K H' vs ds
  | [], _, .nil => .nil
  | _ :: _, _, .cons h r => .cons (dp_ex e h) (dpAll_ex e r)
end
theorem Td.ex (e : Ex H H') {d : PyData} {v : V} (h : Td H v d) : Td H' v d := Td.keep (fun b xs q => e b _ q) h
theorem TdAll.ex (e : Ex H H') {ds : List PyData} {vs : List V} (h : TdAll H vs ds) : TdAll H' vs ds := TdAll.keep (fun b xs q => e b _ q) h
theorem upd_tups {l : Addr} {xs : List V} {o : HO} (h : H l = some (.lst xs)) : ∀ b ys, H b = some (.tup ys) → upd H l o b = some (.tup ys) := fun b ys q => by
  rw [upd_ne (ne_of q h (fun z => by cases z))]
  exact q
theorem Td.upd {l : Addr} {xs : List V} {o : HO} (h : H l = some (.lst xs)) {d : PyData} {v : V} (q : Td H v d) : Td (L2.upd H l o) v d := Td.keep (upd_tups h) q
theorem TdAll.upd {l : Addr} {xs : List V} {o : HO} (h : H l = some (.lst xs)) {ds : List PyData} {vs : List V} (q : TdAll H vs ds) : TdAll (L2.upd H l o) vs ds := TdAll.keep (upd_tups h) q
theorem TdAll.append {ds es : List PyData} : ∀ {vs us : List V}, TdAll H vs ds → TdAll H us es → TdAll H (vs ++ us) (ds ++ es) := by
  induction ds with
  | nil => intro vs us h q; cases h; exact q
  | cons d r ih => intro vs us h q; cases h with | cons a b => exact .cons a (ih b q)
theorem TdAll.len {ds : List PyData} : ∀ {vs : List V}, TdAll H vs ds → vs.length = ds.length := by
  induction ds with
  | nil => intro vs h; cases h; rfl
  | cons d r ih => intro vs h; cases h with | cons a b => simp [ih b]
theorem TdAll.get {ds : List PyData} : ∀ {vs : List V} {i : Nat} {d : PyData}, TdAll H vs ds → ds[i]? = some d → ∃ v, vs[i]? = some v ∧ Td H v d := by
  induction ds with
  | nil => intro vs i d h q; simp at q
  | cons d r ih =>
    intro vs i d' h q
    cases h with
    | cons a b =>
      cases i with
      | zero => simp at q; subst q; exact ⟨_, rfl, a⟩
      | succ i => simp at q; obtain ⟨v, e, t⟩ := ih b q; exact ⟨v, by simpa using e, t⟩
theorem TdAll.getV {ds : List PyData} : ∀ {vs : List V} {i : Nat} {v : V}, TdAll H vs ds → vs[i]? = some v → ∃ d, ds[i]? = some d ∧ Td H v d := by
  induction ds with
  | nil => intro vs i d h q; cases h; simp at q
  | cons d r ih =>
    intro vs i d' h q
    cases h with
    | cons a b =>
      cases i with
      | zero => simp at q; subst q; exact ⟨_, rfl, a⟩
      | succ i => simp at q; obtain ⟨v, e, t⟩ := ih b q; exact ⟨v, by simpa using e, t⟩
theorem dpAll_len {ds : List PyData} : ∀ {vs : List V}, DpAll K H vs ds → vs.length = ds.length := by
  induction ds with
  | nil => intro vs h; cases h; rfl
  | cons d r ih => intro vs h; cases h with | cons a b => simp [ih b]
theorem dpAll_getV {ds : List PyData} : ∀ {vs : List V} {i : Nat} {v : V}, DpAll K H vs ds → vs[i]? = some v → ∃ d, ds[i]? = some d ∧ Dp K H v d := by
  induction ds with
  | nil => intro vs i d h q; cases h; simp at q
  | cons d r ih =>
    intro vs i d' h q
    cases h with
    | cons a b =>
      cases i with
      | zero => simp at q; subst q; exact ⟨_, rfl, a⟩
      | succ i => simp at q; obtain ⟨v, e, t⟩ := ih b q; exact ⟨v, by simpa using e, t⟩
theorem dpAll_get {ds : List PyData} : ∀ {vs : List V} {i : Nat} {d : PyData}, DpAll K H vs ds → ds[i]? = some d → ∃ v, vs[i]? = some v ∧ Dp K H v d := by
  induction ds with
  | nil => intro vs i d h q; simp at q
  | cons d r ih =>
    intro vs i d' h q
    cases h with
    | cons a b =>
      cases i with
      | zero => simp at q; subst q; exact ⟨_, rfl, a⟩
      | succ i => simp at q; obtain ⟨v, e, t⟩ := ih b q; exact ⟨v, by simpa using e, t⟩
theorem dpAll_append {ds es : List PyData} : ∀ {vs us : List V}, DpAll K H vs ds → DpAll K H us es → DpAll K H (vs ++ us) (ds ++ es) := by
  induction ds with
  | nil => intro vs us h q; cases h; exact q
  | cons d r ih => intro vs us h q; cases h with | cons a b => exact .cons a (ih b q)
/-- ints -/
theorem td_ints : ∀ ns : List Int, TdAll H (ns.map V.int) (ns.map PyData.int)
  | [] => .nil
  | n :: r => .cons (.int n) (td_ints r)
theorem td_int_inv {v : V} {i : Int} (h : Td H v (.int i)) : v = .int i := by cases h; rfl
theorem dp_int_inv {v : V} {i : Int} (h : Dp K H v (.int i)) : v = .int i := by cases h; rfl
theorem dpAll_ints : ∀ {ns : List Int} {vs : List V}, DpAll K H vs (ns.map PyData.int) → vs = ns.map V.int
  | [], _, .nil => rfl
  | n :: r, _, .cons h q => by rw [dp_int_inv h, dpAll_ints q]; rfl
theorem tdAll_ints : ∀ {ns : List Int} {vs : List V}, TdAll H vs (ns.map PyData.int) → vs = ns.map V.int
  | [], _, .nil => rfl
  | n :: r, _, .cons h q => by rw [td_int_inv h, tdAll_ints q]; rfl
/-- a list that stands, of such data -/
def LstT (H : Hp) (p : Addr) (ds : List PyData) : Prop := ∃ xs, H p = some (.lst xs) ∧ TdAll H xs ds
theorem LstT.ex (e : Ex H H') {p : Addr} {ds : List PyData} (h : LstT H p ds) : LstT H' p ds := by
  obtain ⟨xs, a, b⟩ := h
  exact ⟨xs, e _ _ a, b.ex e⟩
theorem LstT.dp {p : Addr} {ds : List PyData} (h : LstT H p ds) : Dp K H (.ref p) (.list ds) := by
  obtain ⟨xs, a, b⟩ := h
  exact .lst (SqL.of a) b.dp
theorem LstT.push {p : Addr} {ds : List PyData} {d : PyData} {v : V} {xs : List V} (h : H p = some (.lst xs)) (b : TdAll H xs ds) (t : Td H v d) : LstT (L2.upd H p (.lst (xs ++ [v]))) p (ds ++ [d]) :=
  ⟨_, upd_same, TdAll.append (b.upd h) (.cons (t.upd h) .nil)⟩
end

theorem at0 {ds : List PyData} {d : PyData} {j : Nat} (h : ds[j]? = some d := by rfl) : atI ds (j : Int) = some d := atI_nat h
theorem atI0 {d : PyData} {r : List PyData} : atI (d :: r) 0 = some d := at0 (j := 0)
theorem atI1 {a d : PyData} {r : List PyData} : atI (a :: d :: r) 1 = some d := at0 (j := 1)
theorem atI2 {a b d : PyData} {r : List PyData} : atI (a :: b :: d :: r) 2 = some d := at0 (j := 2)
/-! ### what evaluates to data -/
def EvP (te : TE) (σ : L2.St) (H : Hp) (P : V → Hp → Prop) : Prop := ∀ H1, Ex H H1 → ∀ Q : VK, (∀ v H2, Ex H1 H2 → P v H2 → Q v H2) → te σ H1 Q
def EaP (ta : TA) (σ : L2.St) (H : Hp) (P : List V → Hp → Prop) : Prop := ∀ H1, Ex H H1 → ∀ Q : List V → Hp → Prop, (∀ v H2, Ex H1 H2 → P v H2 → Q v H2) → ta σ H1 Q
abbrev EvD (K : PySem.W.Frag) (te : TE) (σ : L2.St) (H : Hp) (d : PyData) : Prop := EvP te σ H fun v H' => Dp K H' v d
abbrev EvTd (te : TE) (σ : L2.St) (H : Hp) (d : PyData) : Prop := EvP te σ H fun v H' => Td H' v d
abbrev EaTd (ta : TA) (σ : L2.St) (H : Hp) (ds : List PyData) : Prop := EaP ta σ H fun vs H' => TdAll H' vs ds
abbrev EaD (K : PySem.W.Frag) (ta : TA) (σ : L2.St) (H : Hp) (ds : List PyData) : Prop := EaP ta σ H fun vs H' => DpAll K H' vs ds
/-- a new list of such data -/
def EvLT (te : TE) (σ : L2.St) (H : Hp) (ds : List PyData) : Prop := ∀ H1, Ex H H1 → ∀ Q : VK, (∀ p H2, H1 p = none → Ex H1 H2 → LstT H2 p ds → Q (.ref p) H2) → te σ H1 Q
section
variable {K : PySem.W.Frag} {σ : L2.St} {H H' : Hp} {ta tb te tx : TE} {t u : TT} {x y z v : V} {r : R2} {tr : TA} {D : Ends} {tu tw tz : TS} {P P' : V → Hp → Prop} {d : PyData} {ds : List PyData}
theorem EvP.mono (e : Ex H H') (h : EvP te σ H P) : EvP te σ H' P := fun H1 e1 => h H1 (e.trans e1)
theorem EvLT.mono (e : Ex H H') (h : EvLT te σ H ds) : EvLT te σ H' ds := fun H1 e1 => h H1 (e.trans e1)
theorem EvP.imp (h : EvP te σ H P) (k : ∀ v H2, Ex H H2 → P v H2 → P' v H2) : EvP te σ H P' := fun H1 e Q q => h H1 e Q fun v H2 e2 p => q v H2 e2 (k v H2 (e.trans e2) p)
theorem ep_ev (h : Ev te σ H v) (k : ∀ H2, Ex H H2 → P v H2) : EvP te σ H P := fun H1 e Q q => h H1 e Q fun H2 e2 => q v H2 e2 (k H2 (e.trans e2))
theorem td_int {i : Int} (h : Ev te σ H (.int i)) : EvTd te σ H (.int i) := ep_ev h fun _ _ => .int i
theorem td_non (h : Ev te σ H .non) : EvTd te σ H .none := ep_ev h fun _ _ => .non
theorem td_bl {b : Bool} (h : Ev te σ H (.bl b)) : EvTd te σ H (.bool b) := ep_ev h fun _ _ => .bl b
theorem td_str {b : Str} (h : Ev te σ H (.str b)) : EvTd te σ H (.str b) := ep_ev h fun _ _ => .str b
theorem td_any (h : Ev te σ H v) (t : Td H v d) : EvTd te σ H d := ep_ev h fun _ e => t.ex e
theorem ed_any (h : Ev te σ H v) (t : Dp K H v d) : EvD K te σ H d := ep_ev h fun _ e => dp_ex e t
theorem ed_td (h : EvTd te σ H d) : EvD K te σ H d := h.imp fun _ _ _ t => t.dp
theorem ev_of_td {i : Int} (h : EvTd te σ H (.int i)) : Ev te σ H (.int i) := fun H1 e Q q => h H1 e Q fun v H2 e2 p => by rw [td_int_inv p]; exact q H2 e2
theorem ev_of_ed {i : Int} (h : EvD K te σ H (.int i)) : Ev te σ H (.int i) := fun H1 e Q q => h H1 e Q fun v H2 e2 p => by rw [dp_int_inv p]; exact q H2 e2
theorem ed_lt (h : EvLT te σ H ds) : EvD K te σ H (.list ds) := fun H1 e Q q => h H1 e Q fun p H2 _ e2 l => q _ H2 e2 l.dp
theorem ea_tn : EaTd tNil σ H [] := fun H1 e Q q => q [] H1 (Ex.refl H1) .nil
theorem ea_tc (h : EvTd te σ H d) (hr : EaTd tr σ H ds) : EaTd (tCons te tr) σ H (d :: ds) := fun H1 e Q q => h H1 e _ fun v H2 e2 p => hr H2 (e.trans e2) _ fun vs H3 e3 ps => q _ H3 (e2.trans e3) (.cons (p.ex e3) ps)
theorem ea_dn : EaD K tNil σ H [] := fun H1 e Q q => q [] H1 (Ex.refl H1) .nil
theorem ea_dc (h : EvD K te σ H d) (hr : EaD K tr σ H ds) : EaD K (tCons te tr) σ H (d :: ds) := fun H1 e Q q => h H1 e _ fun v H2 e2 p => hr H2 (e.trans e2) _ fun vs H3 e3 ps => q _ H3 (e2.trans e3) (.cons (dp_ex e3 p) ps)
theorem td_tup (h : EaTd tr σ H ds) (hl : ds.length ≤ 100000) : EvTd (tTup tr) σ H (.tuple ds) := fun H1 e Q q => h H1 e _ fun vs H2 e2 p => ⟨sz_of (by rw [p.len]; exact hl), fun a na => q _ _ (e2.trans (Ex.new na)) (.tup upd_same (p.ex (Ex.new na)))⟩
theorem ed_tup (h : EaD K tr σ H ds) (hl : ds.length ≤ 100000) : EvD K (tTup tr) σ H (.tuple ds) := fun H1 e Q q => h H1 e _ fun vs H2 e2 p => ⟨sz_of (by rw [dpAll_len p]; exact hl), fun a na => q _ _ (e2.trans (Ex.new na)) (.tup (SqT.of upd_same) (dpAll_ex (Ex.new na) p))⟩
theorem lt_lst (h : EaTd tr σ H ds) (hl : ds.length ≤ 100000) : EvLT (tLst tr) σ H ds := fun H1 e Q q => h H1 e _ fun vs H2 e2 p => ⟨sz_of (by rw [p.len]; exact hl), fun a na => q _ _ (fresh_back e2 na) (e2.trans (Ex.new na)) ⟨vs, upd_same, p.ex (Ex.new na)⟩⟩
theorem ed_lst (h : EaD K tr σ H ds) (hl : ds.length ≤ 100000) : EvD K (tLst tr) σ H (.list ds) := fun H1 e Q q => h H1 e _ fun vs H2 e2 p => ⟨sz_of (by rw [dpAll_len p]; exact hl), fun a na => q _ _ (e2.trans (Ex.new na)) (.lst (SqL.of upd_same) (dpAll_ex (Ex.new na) p))⟩
/-! ### items -/
theorem td_ixT {i : Int} (ha : EvTd ta σ H (.tuple ds)) (hb : Ev tb σ H (.int i)) (h : atI ds i = some d) : EvTd (tOp (rIxT K) ta tb) σ H d := fun H1 e Q q => ha H1 e _ fun v H2 e2 p => hb H2 (e.trans e2) _ fun H3 e3 => by
  cases p with
  | tup ho hd =>
    rename_i xs
    obtain ⟨j, h1, h2, h3, _⟩ := atI_get h
    obtain ⟨w, h4, h5⟩ := hd.get h2
    refine ⟨_, xs, i, w, rfl, rfl, SqT.of (e3 _ _ ho), ?_, q w H3 (e2.trans e3) (h5.ex e3)⟩
    have : atI xs i = some w := by
      unfold atI at h ⊢
      rw [hd.len]
      cases e5 : ixN ds.length i with
      | none => rw [e5] at h; cases h
      | some k =>
        have hk := (ixN_seq e5).1
        rw [hk] at h1
        cases h1
        exact h4
    exact this
theorem ed_ixT {i : Int} (ha : EvD K ta σ H (.tuple ds)) (hb : Ev tb σ H (.int i)) (h : atI ds i = some d) : EvD K (tOp (rIxT K) ta tb) σ H d := fun H1 e Q q => ha H1 e _ fun v H2 e2 p => hb H2 (e.trans e2) _ fun H3 e3 => by
  cases p with
  | tup ho hd =>
    rename_i xs
    obtain ⟨j, h1, h2, h3, _⟩ := atI_get h
    obtain ⟨w, h4, h5⟩ := dpAll_get hd h2
    refine ⟨_, xs, i, w, rfl, rfl, ex_t e3 ho, ?_, q w H3 (e2.trans e3) (dp_ex e3 h5)⟩
    have : atI xs i = some w := by
      unfold atI at h ⊢
      rw [dpAll_len hd]
      cases e5 : ixN ds.length i with
      | none => rw [e5] at h; cases h
      | some k =>
        have hk := (ixN_seq e5).1
        rw [hk] at h1
        cases h1
        exact h4
    exact this
theorem ed_ixL {i : Int} (ha : EvD K ta σ H (.list ds)) (hb : Ev tb σ H (.int i)) (h : atI ds i = some d) : EvD K (tOp (rIxL K) ta tb) σ H d := fun H1 e Q q => ha H1 e _ fun v H2 e2 p => hb H2 (e.trans e2) _ fun H3 e3 => by
  cases p with
  | lst ho hd =>
    rename_i xs
    obtain ⟨j, h1, h2, h3, _⟩ := atI_get h
    obtain ⟨w, h4, h5⟩ := dpAll_get hd h2
    refine ⟨_, xs, i, w, rfl, rfl, ex_l e3 ho, ?_, q w H3 (e2.trans e3) (dp_ex e3 h5)⟩
    have : atI xs i = some w := by
      unfold atI at h ⊢
      rw [dpAll_len hd]
      cases e5 : ixN ds.length i with
      | none => rw [e5] at h; cases h
      | some k =>
        have hk := (ixN_seq e5).1
        rw [hk] at h1
        cases h1
        exact h4
    exact this
theorem td_ixL {i : Int} (ha : EvLT ta σ H ds) (hb : Ev tb σ H (.int i)) (h : atI ds i = some d) : EvTd (tOp (rIxL K) ta tb) σ H d := fun H1 e Q q => ha H1 e _ fun pp H2 _ e2 p => hb H2 (e.trans e2) _ fun H3 e3 => by
  obtain ⟨xs, ho, hd⟩ := p
  obtain ⟨j, h1, h2, h3, _⟩ := atI_get h
  obtain ⟨w, h4, h5⟩ := hd.get h2
  refine ⟨_, xs, i, w, rfl, rfl, SqL.of (e3 _ _ ho), ?_, q w H3 (e2.trans e3) (h5.ex e3)⟩
  have : atI xs i = some w := by
    unfold atI at h ⊢
    rw [hd.len]
    cases e5 : ixN ds.length i with
    | none => rw [e5] at h; cases h
    | some k =>
      have hk := (ixN_seq e5).1
      rw [hk] at h1
      cases h1
      exact h4
  exact this
/-! ### == and in, of data -/
theorem ev_eqD {e : PyData} (ha : EvD K ta σ H d) (hb : EvD K tb σ H e) (h1 : SeqAt.shaped d = true) (h2 : SeqAt.shaped e = true) : Ev (tOp (rEqD K) ta tb) σ H (.bl (PyData.eqv d e)) := fun H1 x Q q => ha H1 x _ fun v H2 x2 p => hb H2 (x.trans x2) _ fun w H3 x3 p2 => ⟨d, e, dp_ex x3 p, p2, h1, h2, q H3 (x2.trans x3)⟩
theorem ev_neD {e : PyData} (ha : EvD K ta σ H d) (hb : EvD K tb σ H e) (h1 : SeqAt.shaped d = true) (h2 : SeqAt.shaped e = true) : Ev (tOp (rNeD K) ta tb) σ H (.bl (!PyData.eqv d e)) := fun H1 x Q q => ha H1 x _ fun v H2 x2 p => hb H2 (x.trans x2) _ fun w H3 x3 p2 => ⟨d, e, dp_ex x3 p, p2, h1, h2, q H3 (x2.trans x3)⟩
theorem ev_inD {es : List PyData} (ha : EvD K ta σ H d) (hb : EvD K tb σ H (.list es)) (h1 : SeqAt.shaped d = true) (h2 : SeqAt.shaped (.list es) = true) : Ev (tOp (rInD K) ta tb) σ H (.bl (es.any fun z => PyData.eqv z d)) := fun H1 x Q q => ha H1 x _ fun v H2 x2 p => hb H2 (x.trans x2) _ fun w H3 x3 p2 => ⟨d, es, dp_ex x3 p, p2, h1, h2, q H3 (x2.trans x3)⟩
theorem ev_niD {es : List PyData} (ha : EvD K ta σ H d) (hb : EvD K tb σ H (.list es)) (h1 : SeqAt.shaped d = true) (h2 : SeqAt.shaped (.list es) = true) : Ev (tOp (rNotInD K) ta tb) σ H (.bl (!es.any fun z => PyData.eqv z d)) := fun H1 x Q q => ha H1 x _ fun v H2 x2 p => hb H2 (x.trans x2) _ fun w H3 x3 p2 => ⟨d, es, dp_ex x3 p, p2, h1, h2, q H3 (x2.trans x3)⟩
/-- an int in a tuple or list of ints -/
theorem inV_int (i : Int) : ∀ ns : List Int, inV (.int i) (ns.map V.int) = decide (i ∈ ns)
  | [] => by simp [inV]
  | n :: r => by
    have h := inV_int i r
    have e0 : inV (.int i) ((n :: r).map V.int) = ((n == i) || inV (.int i) (r.map V.int)) := rfl
    rw [e0, h]
    by_cases e : n = i
    · subst e; simp
    · have e2 : (n == i) = false := beq_false_of_ne e
      have e3 : ¬ i = n := fun z => e z.symm
      simp [e2, e3]
theorem flat_ints : ∀ ns : List Int, (ns.map V.int).all flatV = true
  | [] => rfl
  | _ :: r => by simp [flatV, flat_ints r]
theorem ev_inI {i : Int} {ns : List Int} (ha : Ev ta σ H (.int i)) (hb : EvD K tb σ H (.tuple (ns.map PyData.int)) ∨ EvD K tb σ H (.list (ns.map PyData.int))) : Ev (tOp (rIn K false) ta tb) σ H (.bl (decide (i ∈ ns))) := fun H1 x Q q => ha H1 x _ fun H2 x2 => by
  rcases hb with hb | hb
  · refine hb H2 (x.trans x2) _ fun w H3 x3 p2 => ?_
    cases p2 with
    | tup ho hd =>
      rename_i xs
      have e := dpAll_ints hd
      subst e
      refine ⟨_, _, rfl, .inr ho, rfl, flat_ints ns, ?_⟩
      show Q (.bl (inV (.int i) (ns.map V.int))) H3
      rw [inV_int]
      exact q H3 (x2.trans x3)
  · refine hb H2 (x.trans x2) _ fun w H3 x3 p2 => ?_
    cases p2 with
    | lst ho hd =>
      rename_i xs
      have e := dpAll_ints hd
      subst e
      refine ⟨_, _, rfl, .inl ho, rfl, flat_ints ns, ?_⟩
      show Q (.bl (inV (.int i) (ns.map V.int))) H3
      rw [inV_int]
      exact q H3 (x2.trans x3)
theorem ev_niI {i : Int} {ns : List Int} (ha : Ev ta σ H (.int i)) (hb : EvD K tb σ H (.tuple (ns.map PyData.int)) ∨ EvD K tb σ H (.list (ns.map PyData.int))) : Ev (tOp (rIn K true) ta tb) σ H (.bl (!decide (i ∈ ns))) := fun H1 x Q q => ha H1 x _ fun H2 x2 => by
  rcases hb with hb | hb
  · refine hb H2 (x.trans x2) _ fun w H3 x3 p2 => ?_
    cases p2 with
    | tup ho hd =>
      rename_i xs
      have e := dpAll_ints hd
      subst e
      refine ⟨_, _, rfl, .inr ho, rfl, flat_ints ns, ?_⟩
      show Q (.bl (!inV (.int i) (ns.map V.int))) H3
      rw [inV_int]
      exact q H3 (x2.trans x3)
  · refine hb H2 (x.trans x2) _ fun w H3 x3 p2 => ?_
    cases p2 with
    | lst ho hd =>
      rename_i xs
      have e := dpAll_ints hd
      subst e
      refine ⟨_, _, rfl, .inl ho, rfl, flat_ints ns, ?_⟩
      show Q (.bl (!inV (.int i) (ns.map V.int))) H3
      rw [inV_int]
      exact q H3 (x2.trans x3)
/-! ### built-ins -/
theorem ev_lenD (ha : EvD K ta σ H d) (h : d = .list ds ∨ d = .tuple ds) : Ev (tCB (fun xs H Q => ∃ p ys, xs = [.ref p] ∧ (SqL K H p ys ∨ SqT K H p ys) ∧ Q (.int ys.length) H) (tCons ta tNil)) σ H (.int (ds.length : Int)) := fun H1 x Q q => ha H1 x _ fun v H2 x2 p => by
  rcases h with rfl | rfl
  · cases p with
    | lst ho hd =>
      rename_i a xs
      refine ⟨a, xs, rfl, .inl ho, ?_⟩
      rw [dpAll_len hd]
      exact q H2 x2
  · cases p with
    | tup ho hd =>
      rename_i a xs
      refine ⟨a, xs, rfl, .inr ho, ?_⟩
      rw [dpAll_len hd]
      exact q H2 x2
theorem ev_lenS {a : Addr} {xs : List V} (ha : Ev ta σ H (.ref a)) (h : SqL K H a xs) : Ev (tCB (fun xs H Q => ∃ p ys, xs = [.ref p] ∧ (SqL K H p ys ∨ SqT K H p ys) ∧ Q (.int ys.length) H) (tCons ta tNil)) σ H (.int (xs.length : Int)) := fun H1 x Q q => ha H1 x _ fun H2 x2 => ⟨a, xs, rfl, .inl (ex_l (x.trans x2) h), q H2 x2⟩
/-- tuple(x) of data without lists -/
theorem td_tupleL (ha : EvLT ta σ H ds) : EvTd (tCB (fun xs H Q => ∃ p ys, xs = [.ref p] ∧ ((SqL K H p ys ∧ ∀ l, H l = none → Q (.ref l) (upd H l (.tup ys))) ∨ (SqT K H p ys ∧ Q (.ref p) H))) (tCons ta tNil)) σ H (.tuple ds) := fun H1 x Q q => ha H1 x _ fun p H2 _ x2 ⟨xs, ho, hd⟩ =>
  ⟨p, xs, rfl, .inl ⟨SqL.of ho, fun l hl => q _ _ (x2.trans (Ex.new hl)) (.tup upd_same (hd.ex (Ex.new hl)))⟩⟩
theorem td_tupleV {a : Addr} (ha : Ev ta σ H (.ref a)) (h : LstT H a ds) : EvTd (tCB (fun xs H Q => ∃ p ys, xs = [.ref p] ∧ ((SqL K H p ys ∧ ∀ l, H l = none → Q (.ref l) (upd H l (.tup ys))) ∨ (SqT K H p ys ∧ Q (.ref p) H))) (tCons ta tNil)) σ H (.tuple ds) := fun H1 x Q q => ha H1 x _ fun H2 x2 => by
  obtain ⟨xs, ho, hd⟩ := h.ex (x.trans x2)
  exact ⟨a, xs, rfl, .inl ⟨SqL.of ho, fun l hl => q _ _ (x2.trans (Ex.new hl)) (.tup upd_same (hd.ex (Ex.new hl)))⟩⟩
theorem lt_list {a : Addr} (ha : Ev ta σ H (.ref a)) (h : LstT H a ds) : EvLT (tCB (fun xs H Q => ∃ p ys, xs = [.ref p] ∧ (SqL K H p ys ∨ SqT K H p ys) ∧ ∀ l, H l = none → Q (.ref l) (upd H l (.lst ys))) (tCons ta tNil)) σ H ds := fun H1 x Q q => ha H1 x _ fun H2 x2 => by
  obtain ⟨xs, ho, hd⟩ := h.ex (x.trans x2)
  exact ⟨a, xs, rfl, .inl (SqL.of ho), fun l hl => q _ _ (fresh_back x2 hl) (x2.trans (Ex.new hl)) ⟨xs, upd_same, hd.ex (Ex.new hl)⟩⟩
theorem ev_abs {i : Int} (ha : Ev ta σ H (.int i)) : Ev (tCB (fun xs H Q => ∃ i, xs = [.int i] ∧ Q (.int (if i < 0 then -i else i)) H) (tCons ta tNil)) σ H (.int (if i < 0 then -i else i)) := fun H1 x Q q => ha H1 x _ fun H2 x2 => ⟨i, rfl, q H2 x2⟩
theorem ev_isN (ha : Ev ta σ H x) : Ev (tOp (fun x y H Q => y = .non ∧ Q (.bl (decide (x = .non))) H) ta (tC .non)) σ H (.bl (decide (x = .non))) := fun H1 e Q q => ha H1 e _ fun H2 e2 => ⟨rfl, q H2 e2⟩
theorem ev_notN (ha : Ev ta σ H x) : Ev (tOp (fun x y H Q => y = .non ∧ Q (.bl (!decide (x = .non))) H) ta (tC .non)) σ H (.bl (!decide (x = .non))) := fun H1 e Q q => ha H1 e _ fun H2 e2 => ⟨rfl, q H2 e2⟩
theorem rv_isN : RV (fun x y H Q => y = .non ∧ Q (.bl (decide (x = .non))) H) x .non H (.bl (decide (x = .non))) := fun H1 e Q q => ⟨rfl, q H1 (Ex.refl H1)⟩
theorem rv_notN : RV (fun x y H Q => y = .non ∧ Q (.bl (!decide (x = .non))) H) x .non H (.bl (!decide (x = .non))) := fun H1 e Q q => ⟨rfl, q H1 (Ex.refl H1)⟩
theorem rv_eqI {i j : Int} : RV rEq (.int i) (.int j) H (.bl (decide (i = j))) := fun H1 e Q q => ⟨rfl, by
  have e2 : decide (V.int i = V.int j) = decide (i = j) := by simp
  rw [e2]
  exact q H1 (Ex.refl H1)⟩
theorem rv_neI {i j : Int} : RV rNe (.int i) (.int j) H (.bl (!decide (i = j))) := fun H1 e Q q => ⟨rfl, by
  have e2 : decide (V.int i = V.int j) = decide (i = j) := by simp
  rw [e2]
  exact q H1 (Ex.refl H1)⟩
/-! ### calls -/
theorem ta_cons {Q : List V → Hp → Prop} (h : ta σ H fun x H1 => tr σ H1 fun xs H2 => Q (x :: xs) H2) : tCons ta tr σ H Q := h
theorem ep_call {sp : Sp} {dvs : List V} {E : XK} {tr : TA} {Pa : List V → Hp → Prop} (h : EaP tr σ H Pa) (hs : ∀ vs H1, Ex H H1 → Pa vs H1 → ∀ Q : VK, (∀ v H2, Ex H1 H2 → P v H2 → Q v H2) → sp (vs ++ dvs) H1 Q E) : EvP (tCall sp dvs E tr) σ H P := fun H1 e Q q => h H1 e _ fun vs H2 e2 p => hs vs H2 (e.trans e2) p Q fun v H3 e3 p3 => q v H3 (e2.trans e3) p3
theorem ev_call0 {sp : Sp} {vs : List V} {E : XK} {tr : TA} (h : EvA tr σ H vs) (hs : SpV sp vs H z) : Ev (tCall sp [] E tr) σ H z := ev_call h (by rw [List.append_nil]; exact hs)
theorem ep_call0 {sp : Sp} {E : XK} {tr : TA} {Pa : List V → Hp → Prop} (h : EaP tr σ H Pa) (hs : ∀ vs H1, Ex H H1 → Pa vs H1 → ∀ Q : VK, (∀ v H2, Ex H1 H2 → P v H2 → Q v H2) → sp vs H1 Q E) : EvP (tCall sp [] E tr) σ H P :=
  ep_call h fun vs H1 e p Q q => by rw [List.append_nil]; exact hs vs H1 e p Q q
theorem ea_ep1 (h : EvP te σ H P) : EaP (tCons te tNil) σ H (fun vs H' => ∃ v, vs = [v] ∧ P v H') := fun H1 e Q q => h H1 e _ fun v H2 e2 p => q [v] H2 e2 ⟨v, rfl, p⟩
/-! ### statements -/
theorem tif_cases {b : Bool} (h : EvT t σ H b) (h1 : b = true → ∀ H1, Ex H H1 → tu D σ H1) (h2 : b = false → ∀ H1, Ex H H1 → tw D σ H1) : tIfS t tu tw D σ H := s_if h h1 h2
theorem s_asgP {i : Nat} (h : EvP te σ H P) (k : ∀ v H1, Ex H H1 → P v H1 → D.nx (σ.set i (some v)) H1) : tAsg te (gName i) D σ H := h H (Ex.refl H) _ fun v H1 e p => k v H1 e p
theorem q_asgP {i : Nat} (h : EvP te σ H P) (k : ∀ v H1, Ex H H1 → P v H1 → tz D (σ.set i (some v)) H1) : tSeq (tAsg te (gName i)) tz D σ H := h H (Ex.refl H) _ fun v H1 e p => k v H1 e p
theorem s_asgLT {i : Nat} (h : EvLT te σ H ds) (k : ∀ p H1, H p = none → Ex H H1 → LstT H1 p ds → D.nx (σ.set i (some (.ref p))) H1) : tAsg te (gName i) D σ H := h H (Ex.refl H) _ fun v H1 n e p => k v H1 n e p
theorem q_asgLT {i : Nat} (h : EvLT te σ H ds) (k : ∀ p H1, H p = none → Ex H H1 → LstT H1 p ds → tz D (σ.set i (some (.ref p))) H1) : tSeq (tAsg te (gName i)) tz D σ H := h H (Ex.refl H) _ fun v H1 n e p => k v H1 n e p
theorem s_retP (h : EvP te σ H P) (k : ∀ v H1, Ex H H1 → P v H1 → D.rt v H1) : tRet te D σ H := h H (Ex.refl H) _ fun v H1 e p => k v H1 e p
theorem s_retLT (h : EvLT te σ H ds) (k : ∀ p H1, H p = none → Ex H H1 → LstT H1 p ds → D.rt (.ref p) H1) : tRet te D σ H := h H (Ex.refl H) _ fun v H1 n e p => k v H1 n e p
theorem s_appT {l : Addr} (hl : LstT H l ds) (ha : Ev ta σ H (.ref l)) (h : EvTd te σ H d) (hz : ds.length < 100000) (k : ∀ H1 xs v, Ex H H1 → H1 l = some (.lst xs) → LstT (upd H1 l (.lst (xs ++ [v]))) l (ds ++ [d]) → D.nx σ (upd H1 l (.lst (xs ++ [v])))) :
    tDrop (tBM K "list" rAppend ta (tCons te tNil)) D σ H := by
  obtain ⟨xs, ho, hd⟩ := hl
  refine ha H (Ex.refl H) _ fun H1 e1 => ⟨Or.inl ⟨rfl, xs, sq_of (e1 l _ ho)⟩, h H1 e1 _ fun v H2 e2 p => ⟨l, xs, v, rfl, rfl, e2 l _ (e1 l _ ho), sz_lt (by rw [hd.len]; exact hz), ?_⟩⟩
  exact k H2 xs v (e1.trans e2) (e2 l _ (e1 l _ ho)) (LstT.push (e2 l _ (e1 l _ ho)) (hd.ex (e1.trans e2)) p)
theorem q_appT {l : Addr} (hl : LstT H l ds) (ha : Ev ta σ H (.ref l)) (h : EvTd te σ H d) (hz : ds.length < 100000) (k : ∀ H1 xs v, Ex H H1 → H1 l = some (.lst xs) → LstT (upd H1 l (.lst (xs ++ [v]))) l (ds ++ [d]) → tz D σ (upd H1 l (.lst (xs ++ [v])))) :
    tSeq (tDrop (tBM K "list" rAppend ta (tCons te tNil))) tz D σ H := s_appT (D := { D with nx := tz D }) hl ha h hz k
/-! ### comprehensions whose items are such data -/
def Ct (H : Hp) (f : Nat → Bool) (v : Nat → PyData) (Dl : Addr) (i : Nat) (H' : Hp) : Prop := H Dl = none ∧ Ex H H' ∧ LstT H' Dl (((List.range i).filter f).map v)
theorem len_filt (f : Nat → Bool) (v : Nat → PyData) (n : Nat) : (((List.range n).filter f).map v).length ≤ n := by
  rw [List.length_map]
  exact Nat.le_trans (List.length_filter_le _ _) (by simp)
theorem filt_yes {f : Nat → Bool} {v : Nat → PyData} {n : Nat} (h : f n = true) : ((List.range (n + 1)).filter f).map v = ((List.range n).filter f).map v ++ [v n] := by
  rw [List.range_succ, List.filter_append, List.map_append]
  simp [h]
theorem filt_no {f : Nat → Bool} {v : Nat → PyData} {n : Nat} (h : f n = false) : ((List.range (n + 1)).filter f).map v = ((List.range n).filter f).map v := by
  rw [List.range_succ, List.filter_append, List.map_append]
  simp [h]
theorem ct_turn {f : Nat → Bool} {v : Nat → PyData} {Dl : Addr} {i : Nat} {σ2 : L2.St} (p : Ct H f v Dl i H') (hi : i < 50000) (ht : EvT t σ2 H (f i)) (he : f i = true → EvTd te σ2 H (v i)) :
    t σ2 H' fun b H3 => if b = true then te σ2 H3 fun y H4 => ∃ acc, H4 Dl = some (.lst acc) ∧ acc.length < sizeLine ∧ Ct H f v Dl (i + 1) (upd H4 Dl (.lst (acc ++ [y]))) else Ct H f v Dl (i + 1) H3 := by
  obtain ⟨p1, p2, xs, p3, p4⟩ := p
  refine ht H' p2 _ fun H3 e3 => ?_
  cases hf : f i with
  | true =>
    show te σ2 H3 fun y H4 => ∃ acc, H4 Dl = some (.lst acc) ∧ acc.length < sizeLine ∧ Ct H f v Dl (i + 1) (upd H4 Dl (.lst (acc ++ [y])))
    refine he hf H3 (p2.trans e3) _ fun y H4 e4 q4 => ⟨xs, e4 Dl _ (e3 Dl _ p3), sz_lt (by have := len_filt f v i; rw [p4.len]; omega), p1, Ex.mut ((p2.trans e3).trans e4) p1, ?_⟩
    rw [filt_yes hf]
    exact LstT.push (e4 Dl _ (e3 Dl _ p3)) (p4.ex (e3.trans e4)) q4
  | false =>
    show Ct H f v Dl (i + 1) H3
    refine ⟨p1, p2.trans e3, ?_⟩
    rw [filt_no hf]
    exact ⟨xs, e3 Dl _ p3, p4.ex e3⟩
theorem lt_lcR1 {tr : TA} {j : Nat} {vs : List Nat} {n : Int} (f : Nat → Bool) (v : Nat → PyData) (h : EvA tr σ H [.int n]) (hn : n ≤ 40000) (hw : ∀ x, wipe ((wipe σ vs).set j (some x)) vs = wipe σ vs)
    (ht : ∀ (i : Nat) H1, Ex H H1 → (i : Int) < n → EvT t ((wipe σ vs).set j (some (.int (i : Int)))) H1 (f i)) (he : ∀ (i : Nat) H1, Ex H H1 → (i : Int) < n → f i = true → EvTd te ((wipe σ vs).set j (some (.int (i : Int)))) H1 (v i)) (hn0 : -100000 ≤ n := by omega) :
    EvLT (tLc (iRng1 tr) (gName j) t te vs) σ H (((List.range n.toNat).filter f).map v) := fun H0 e Q q => h H0 e _ fun H1 e1 => ⟨n, rfl, by omega, by omega, fun Dl hD =>
  lc_range (lo := 0) (n := n.toNat) (Ct H1 f v Dl) ⟨hD, Ex.new hD, ⟨[], upd_same, .nil⟩⟩ (fun i H' hi p => by
    have e0 : (0 : Int) + (i : Int) = (i : Int) := Int.zero_add _
    show wipe ((wipe σ vs).set j (some (.int ((0 : Int) + (i : Int))))) vs = wipe σ vs ∧ t ((wipe σ vs).set j (some (.int ((0 : Int) + (i : Int))))) H' fun b H3 => if b = true then te ((wipe σ vs).set j (some (.int ((0 : Int) + (i : Int))))) H3 fun y H4 => ∃ acc, H4 Dl = some (.lst acc) ∧ acc.length < sizeLine ∧ Ct H1 f v Dl (i + 1) (upd H4 Dl (.lst (acc ++ [y]))) else Ct H1 f v Dl (i + 1) H3
    rw [e0]
    exact ⟨hw _, ct_turn p (by omega) (ht i H1 (e.trans e1) (by omega)) (fun hf => he i H1 (e.trans e1) (by omega) hf)⟩) (fun H' p => q Dl H' (fresh_back e1 p.1) (e1.trans p.2.1) p.2.2)⟩
theorem lt_lcR2 {tr : TA} {j : Nat} {vs : List Nat} {lo n : Int} (f : Nat → Bool) (v : Nat → PyData) (h : EvA tr σ H [.int lo, .int n]) (hn : 0 ≤ lo ∧ lo ≤ 100000 ∧ -100000 ≤ n ∧ n ≤ 40000) (hw : ∀ x, wipe ((wipe σ vs).set j (some x)) vs = wipe σ vs)
    (ht : ∀ (i : Nat) H1, Ex H H1 → lo + (i : Int) < n → EvT t ((wipe σ vs).set j (some (.int (lo + (i : Int))))) H1 (f i)) (he : ∀ (i : Nat) H1, Ex H H1 → lo + (i : Int) < n → f i = true → EvTd te ((wipe σ vs).set j (some (.int (lo + (i : Int))))) H1 (v i)) :
    EvLT (tLc (iRng2 tr) (gName j) t te vs) σ H (((List.range (n - lo).toNat).filter f).map v) := fun H0 e Q q => h H0 e _ fun H1 e1 => ⟨lo, n, rfl, ⟨by omega, by omega, by omega, by omega⟩, fun Dl hD =>
  lc_range (lo := lo) (n := (n - lo).toNat) (Ct H1 f v Dl) ⟨hD, Ex.new hD, ⟨[], upd_same, .nil⟩⟩ (fun i H' hi p =>
    ⟨hw _, ct_turn p (by omega) (ht i H1 (e.trans e1) (by omega)) (fun hf => he i H1 (e.trans e1) (by omega) hf)⟩) (fun H' p => q Dl H' (fresh_back e1 p.1) (e1.trans p.2.1) p.2.2)⟩
end
section
variable {K : PySem.W.Frag} {σ : L2.St} {H H' : Hp} {ta tb te tx : TE} {t u : TT} {x y z v : V} {r : R2} {tr : TA} {D : Ends} {tu tw tz : TS} {P P' : V → Hp → Prop} {d : PyData} {ds : List PyData}
theorem filt_all {n : Nat} (v : Nat → PyData) : ((List.range n).filter fun _ => true).map v = (List.range n).map v := by rw [List.filter_eq_self.mpr (fun _ _ => rfl)]
theorem et_yes0 : EvT tYes σ H true := fun H1 _ Q q => q H1 (Ex.refl H1)
theorem lt_mapR1 {j : Nat} {vs : List Nat} {n : Int} (v : Nat → PyData) (h : EvA tr σ H [.int n]) (hn : n ≤ 40000) (hw : ∀ x, wipe ((wipe σ vs).set j (some x)) vs = wipe σ vs)
    (he : ∀ (i : Nat) H1, Ex H H1 → (i : Int) < n → EvTd te ((wipe σ vs).set j (some (.int (i : Int)))) H1 (v i)) (hn0 : -100000 ≤ n := by omega) :
    EvLT (tLc (iRng1 tr) (gName j) tYes te vs) σ H ((List.range n.toNat).map v) := by
  have h2 := lt_lcR1 (t := tYes) (te := te) (fun _ => true) v h hn hw (fun _ _ _ _ => et_yes0) (fun i H1 e hi _ => he i H1 e hi) hn0
  rw [filt_all] at h2
  exact h2
theorem lt_mapR2 {j : Nat} {vs : List Nat} {lo n : Int} (v : Nat → PyData) (h : EvA tr σ H [.int lo, .int n]) (hn : 0 ≤ lo ∧ lo ≤ 100000 ∧ -100000 ≤ n ∧ n ≤ 40000) (hw : ∀ x, wipe ((wipe σ vs).set j (some x)) vs = wipe σ vs)
    (he : ∀ (i : Nat) H1, Ex H H1 → lo + (i : Int) < n → EvTd te ((wipe σ vs).set j (some (.int (lo + (i : Int))))) H1 (v i)) :
    EvLT (tLc (iRng2 tr) (gName j) tYes te vs) σ H ((List.range (n - lo).toNat).map v) := by
  have h2 := lt_lcR2 (t := tYes) (te := te) (fun _ => true) v h hn hw (fun _ _ _ _ => et_yes0) (fun i H1 e hi _ => he i H1 e hi)
  rw [filt_all] at h2
  exact h2
theorem atI_getD {i : Int} (h0 : 0 ≤ i) (h1 : i < (ds.length : Int)) : atI ds i = some (ds.getD i.toNat .none) := by
  have hl : i.toNat < ds.length := by omega
  have := at0 (ds := ds) (j := i.toNat) (d := ds.getD i.toNat .none) (by rw [List.getD_eq_getElem?_getD, List.getElem?_eq_getElem hl]; rfl)
  rw [show ((i.toNat : Nat) : Int) = i by omega] at this
  exact this
/-- an item of a written list of ints -/
theorem ev_ixInts {xs : List Int} {i : Int} (h : EaTd tr σ H (xs.map PyData.int)) (hb : Ev tb σ H (.int i)) (h0 : 0 ≤ i) (h1 : i < (xs.length : Int)) (hl : xs.length ≤ 100000 := by first | decide | simp) : Ev (tOp (rIxL K) (tLst tr) tb) σ H (.int (xs.getD i.toNat 0)) := by
  refine ev_of_td (td_ixL (lt_lst h (by rw [List.length_map]; exact hl)) hb ?_)
  have hl2 : i.toNat < xs.length := by omega
  have := at0 (ds := xs.map PyData.int) (j := i.toNat) (d := .int (xs.getD i.toNat 0)) (by rw [List.getElem?_map, List.getD_eq_getElem?_getD, List.getElem?_eq_getElem hl2]; rfl)
  rw [show ((i.toNat : Nat) : Int) = i by omega] at this
  exact this
theorem ev_callP {sp : Sp} {E : XK} {Pa : List V → Hp → Prop} (h : EaP tr σ H Pa) (hs : ∀ vs H1, Ex H H1 → Pa vs H1 → SpV sp vs H1 z) : Ev (tCall sp [] E tr) σ H z := fun H1 e Q q => h H1 e _ fun vs H2 e2 p => by
  show sp (vs ++ []) H2 Q E
  rw [List.append_nil]
  exact hs vs H2 (e.trans e2) p H2 (Ex.refl H2) Q (fun H3 e3 => q H3 (e2.trans e3)) E
/-- arguments, one by one -/
theorem dpAll1 {vs : List V} {d : PyData} (h : DpAll K H vs [d]) : ∃ v, vs = [v] ∧ Dp K H v d := by
  cases h with | cons a b => cases b; exact ⟨_, rfl, a⟩
theorem dpAll2 {vs : List V} {d e : PyData} (h : DpAll K H vs [d, e]) : ∃ v u, vs = [v, u] ∧ Dp K H v d ∧ Dp K H u e := by
  cases h with | cons a b => cases b with | cons b c => cases c; exact ⟨_, _, rfl, a, b⟩
theorem dpAll3 {vs : List V} {d e f : PyData} (h : DpAll K H vs [d, e, f]) : ∃ v u x, vs = [v, u, x] ∧ Dp K H v d ∧ Dp K H u e ∧ Dp K H x f := by
  cases h with | cons a b => cases b with | cons b c => cases c with | cons c d => cases d; exact ⟨_, _, _, rfl, a, b, c⟩
theorem dpAll4 {vs : List V} {d e f g : PyData} (h : DpAll K H vs [d, e, f, g]) : ∃ v u x y, vs = [v, u, x, y] ∧ Dp K H v d ∧ Dp K H u e ∧ Dp K H x f ∧ Dp K H y g := by
  cases h with | cons a b => cases b with | cons b c => cases c with | cons c d => cases d with | cons d e => cases e; exact ⟨_, _, _, _, rfl, a, b, c, d⟩
theorem ed_int {i : Int} (h : Ev te σ H (.int i)) : EvD K te σ H (.int i) := ep_ev h fun _ _ => .int i
end
section
variable {K : PySem.W.Frag} {σ : L2.St} {H H' : Hp} {ta tb te tx : TE} {D : Ends} {tz : TS} {d : PyData} {ds es : List PyData}
theorem TdAll.set {v : V} (h : Td H v d) : ∀ {ds : List PyData} {vs : List V} (j : Nat), TdAll H vs ds → TdAll H (vs.set j v) (ds.set j d)
  | [], _, _, .nil => .nil
  | _ :: _, _, 0, .cons _ b => .cons h b
  | _ :: _, _, j + 1, .cons a b => .cons a (TdAll.set h j b)
/-- xs[j] = e -/
theorem s_setT {l : Addr} {i : Int} {j : Nat} (hl : LstT H l ds) (h : EvTd te σ H d) (ho : Ev ta σ H (.ref l)) (hi : Ev tb σ H (.int i)) (ei : i = (j : Int)) (hj : j < ds.length) (k : ∀ H1 xs v, Ex H H1 → H1 l = some (.lst xs) → LstT (upd H1 l (.lst (xs.set j v))) l (ds.set j d) → D.nx σ (upd H1 l (.lst (xs.set j v)))) :
    tAsg te (gSub ta tb rSetL) D σ H := by
  obtain ⟨xs, hx, hd⟩ := hl
  subst ei
  refine h H (Ex.refl H) _ fun v H1 e1 p => ho H1 e1 _ fun H2 e2 => hi H2 (e1.trans e2) _ fun H3 e3 => ?_
  have e13 := (e1.trans e2).trans e3
  have hx3 := e13 _ _ hx
  refine ⟨l, xs, (j : Int), j, rfl, rfl, hx3, ixN_nat (by rw [hd.len]; exact hj), k H3 xs v e13 hx3 ⟨_, upd_same, ?_⟩⟩
  exact TdAll.upd hx3 (TdAll.set (p.ex (e2.trans e3)) j (hd.ex e13))
theorem q_setT {l : Addr} {i : Int} {j : Nat} (hl : LstT H l ds) (h : EvTd te σ H d) (ho : Ev ta σ H (.ref l)) (hi : Ev tb σ H (.int i)) (ei : i = (j : Int)) (hj : j < ds.length) (k : ∀ H1 xs v, Ex H H1 → H1 l = some (.lst xs) → LstT (upd H1 l (.lst (xs.set j v))) l (ds.set j d) → tz D σ (upd H1 l (.lst (xs.set j v)))) :
    tSeq (tAsg te (gSub ta tb rSetL)) tz D σ H := s_setT (D := { D with nx := tz D }) hl h ho hi ei hj k
/-- list + list -/
theorem lt_cat {l : Addr} (ha : Ev ta σ H (.ref l)) (hl : LstT H l ds) (hb : EvLT tb σ H es) (hz : ds.length + es.length ≤ 100000) : EvLT (tOp rCat ta tb) σ H (ds ++ es) := fun H1 e Q q => ha H1 e _ fun H2 e2 => hb H2 (e.trans e2) _ fun p H3 np e3 hp => by
  obtain ⟨xs, hx, hd⟩ := hl.ex ((e.trans e2).trans e3)
  obtain ⟨ys, hy, he⟩ := hp
  refine ⟨l, p, xs, ys, rfl, rfl, hx, hy, sz_of (by rw [hd.len, he.len]; exact hz), fun r nr => q r _ (fresh_back (e2.trans e3) nr) ((e2.trans e3).trans (Ex.new nr)) ⟨_, upd_same, (TdAll.append hd he).ex (Ex.new nr)⟩⟩
theorem lt_cat2 (ha : EvLT ta σ H ds) (hb : EvLT tb σ H es) (hz : ds.length + es.length ≤ 100000) : EvLT (tOp rCat ta tb) σ H (ds ++ es) := fun H1 e Q q => ha H1 e _ fun l H2 nl e2 hl => hb H2 (e.trans e2) _ fun p H3 np e3 hp => by
  obtain ⟨xs, hx, hd⟩ := hl.ex e3
  obtain ⟨ys, hy, he⟩ := hp
  refine ⟨l, p, xs, ys, rfl, rfl, hx, hy, sz_of (by rw [hd.len, he.len]; exact hz), fun r nr => q r _ (fresh_back (e2.trans e3) nr) ((e2.trans e3).trans (Ex.new nr)) ⟨_, upd_same, (TdAll.append hd he).ex (Ex.new nr)⟩⟩
end
section
variable {K : PySem.W.Frag} {σ : L2.St} {H H' : Hp} {ta tb te tx tl : TE} {D : Ends} {tz tu : TS} {d : PyData} {ds es : List PyData} {tr : TA} {g : TG}
/-! ### loops over data -/
theorem s_forD (h : EvD K tl σ H (.list ds)) (Pv : Hp → Nat → L2.St → Hp → Prop) (h0 : ∀ H1, Ex H H1 → Pv H1 0 σ H1) (hx : ∀ H1 i σ' H', Pv H1 i σ' H' → Ex H1 H')
    (hs : ∀ H1, Ex H H1 → ∀ i d x σ' H', ds[i]? = some d → Dp K H' x d → Pv H1 i σ' H' → g x σ' H' fun σ2 H2 => tu { D with nx := Pv H1 (i + 1), ct := Pv H1 (i + 1), bk := D.nx } σ2 H2)
    (hd : ∀ H1, Ex H H1 → ∀ σ' H', Pv H1 ds.length σ' H' → D.nx σ' H') : tFor (iList K tl) g tu D σ H := by
  refine h H (Ex.refl H) _ fun v H1 e1 p => ?_
  cases p with
  | lst ho hda =>
    rename_i a xs
    have hlen := dpAll_len hda
    refine ⟨a, rfl, ⟨xs, ho⟩, for_list (K := K) (a := a) (xs := xs) (Pv H1) (h0 H1 e1) (fun i σ' H' _ p => ex_l (hx H1 i σ' H' p) ho) (fun i x σ' H' hx' p => ?_) (fun σ' H' p => hd H1 e1 σ' H' (by rw [← hlen]; exact p))⟩
    obtain ⟨d, hd1, hd2⟩ := dpAll_getV hda hx'
    exact hs H1 e1 i d x σ' H' hd1 (dp_ex (hx H1 i σ' H' p) hd2) p
theorem s_forU (h : EvD K tl σ H (.tuple ds)) (Pv : Hp → Nat → L2.St → Hp → Prop) (h0 : ∀ H1, Ex H H1 → Pv H1 0 σ H1) (hx : ∀ H1 i σ' H', Pv H1 i σ' H' → Ex H1 H')
    (hs : ∀ H1, Ex H H1 → ∀ i d x σ' H', ds[i]? = some d → Dp K H' x d → Pv H1 i σ' H' → g x σ' H' fun σ2 H2 => tu { D with nx := Pv H1 (i + 1), ct := Pv H1 (i + 1), bk := D.nx } σ2 H2)
    (hd : ∀ H1, Ex H H1 → ∀ σ' H', Pv H1 ds.length σ' H' → D.nx σ' H') : tFor (iTup K tl) g tu D σ H := by
  refine h H (Ex.refl H) _ fun v H1 e1 p => ?_
  cases p with
  | tup ho hda =>
    rename_i a xs
    have hlen := dpAll_len hda
    refine ⟨a, rfl, ⟨xs, ho⟩, for_tup (K := K) (a := a) (xs := xs) (Pv H1) (h0 H1 e1) (fun i σ' H' _ p => ex_t (hx H1 i σ' H' p) ho) (fun i x σ' H' hx' p => ?_) (fun σ' H' p => hd H1 e1 σ' H' (by rw [← hlen]; exact p))⟩
    obtain ⟨d, hd1, hd2⟩ := dpAll_getV hda hx'
    exact hs H1 e1 i d x σ' H' hd1 (dp_ex (hx H1 i σ' H' p) hd2) p
theorem q_forD (h : EvD K tl σ H (.list ds)) (Pv : Hp → Nat → L2.St → Hp → Prop) (h0 : ∀ H1, Ex H H1 → Pv H1 0 σ H1) (hx : ∀ H1 i σ' H', Pv H1 i σ' H' → Ex H1 H')
    (hs : ∀ H1, Ex H H1 → ∀ i d x σ' H', ds[i]? = some d → Dp K H' x d → Pv H1 i σ' H' → g x σ' H' fun σ2 H2 => tu { D with nx := Pv H1 (i + 1), ct := Pv H1 (i + 1), bk := tz D } σ2 H2)
    (hd : ∀ H1, Ex H H1 → ∀ σ' H', Pv H1 ds.length σ' H' → tz D σ' H') : tSeq (tFor (iList K tl) g tu) tz D σ H := s_forD (D := { D with nx := tz D }) h Pv h0 hx hs hd
theorem q_forU (h : EvD K tl σ H (.tuple ds)) (Pv : Hp → Nat → L2.St → Hp → Prop) (h0 : ∀ H1, Ex H H1 → Pv H1 0 σ H1) (hx : ∀ H1 i σ' H', Pv H1 i σ' H' → Ex H1 H')
    (hs : ∀ H1, Ex H H1 → ∀ i d x σ' H', ds[i]? = some d → Dp K H' x d → Pv H1 i σ' H' → g x σ' H' fun σ2 H2 => tu { D with nx := Pv H1 (i + 1), ct := Pv H1 (i + 1), bk := tz D } σ2 H2)
    (hd : ∀ H1, Ex H H1 → ∀ σ' H', Pv H1 ds.length σ' H' → tz D σ' H') : tSeq (tFor (iTup K tl) g tu) tz D σ H := s_forU (D := { D with nx := tz D }) h Pv h0 hx hs hd
/-! ### a call whose value is dropped; arguments of data -/
theorem s_dropC {sp : Sp} {E : XK} (h : EaD K tr σ H ds) (k : ∀ vs H1, Ex H H1 → DpAll K H1 vs ds → sp vs H1 (fun _ H2 => D.nx σ H2) E) : tDrop (tCall sp [] E tr) D σ H := h H (Ex.refl H) _ fun vs H1 e1 p => by
  show sp (vs ++ []) H1 _ E
  rw [List.append_nil]
  exact k vs H1 e1 p
theorem q_dropC {sp : Sp} {E : XK} (h : EaD K tr σ H ds) (k : ∀ vs H1, Ex H H1 → DpAll K H1 vs ds → sp vs H1 (fun _ H2 => tz D σ H2) E) : tSeq (tDrop (tCall sp [] E tr)) tz D σ H := s_dropC (D := { D with nx := tz D }) h k
/-- x = f(..) -/
theorem s_asgC {sp : Sp} {E : XK} {i : Nat} (h : EaD K tr σ H ds) (k : ∀ vs H1, Ex H H1 → DpAll K H1 vs ds → sp vs H1 (fun v H2 => D.nx (σ.set i (some v)) H2) E) : tAsg (tCall sp [] E tr) (gName i) D σ H := h H (Ex.refl H) _ fun vs H1 e1 p => by
  show sp (vs ++ []) H1 _ E
  rw [List.append_nil]
  exact k vs H1 e1 p
theorem q_asgC {sp : Sp} {E : XK} {i : Nat} (h : EaD K tr σ H ds) (k : ∀ vs H1, Ex H H1 → DpAll K H1 vs ds → sp vs H1 (fun v H2 => tz D (σ.set i (some v)) H2) E) : tSeq (tAsg (tCall sp [] E tr) (gName i)) tz D σ H := s_asgC (D := { D with nx := tz D }) h k
theorem s_retC {sp : Sp} {E : XK} (h : EaD K tr σ H ds) (k : ∀ vs H1, Ex H H1 → DpAll K H1 vs ds → sp vs H1 D.rt E) : tRet (tCall sp [] E tr) D σ H := h H (Ex.refl H) _ fun vs H1 e1 p => by
  show sp (vs ++ []) H1 _ E
  rw [List.append_nil]
  exact k vs H1 e1 p
/-! ### slices of tuples -/
theorem dpAll_drop : ∀ {ds : List PyData} {vs : List V} (n : Nat), DpAll K H vs ds → DpAll K H (vs.drop n) (ds.drop n)
  | _, _, 0, h => h
  | [], _, n + 1, .nil => .nil
  | _ :: _, _, n + 1, .cons _ b => dpAll_drop n b
theorem dpAll_take : ∀ {ds : List PyData} {vs : List V} (n : Nat), DpAll K H vs ds → DpAll K H (vs.take n) (ds.take n)
  | _, _, 0, _ => by simp only [List.take_zero]; exact .nil
  | [], _, n + 1, .nil => .nil
  | _ :: _, _, n + 1, .cons a b => .cons a (dpAll_take n b)
def cutD (ds : List PyData) (lo hi : Option Int) : List PyData := (ds.drop (HT.sIx ds.length 0 lo)).take (HT.sIx ds.length ds.length hi - HT.sIx ds.length 0 lo)
theorem ed_slU {lo hi : Option Int} {t1 t2 : TO} (h : EvD K te σ H (.tuple ds)) (h1 : EvO t1 σ H lo) (h2 : EvO t2 σ H hi) : EvD K (tSl (rSlA K) te t1 t2) σ H (.tuple (cutD ds lo hi)) := fun H1 e Q q => h H1 e _ fun v H2 e2 p => h1 H2 (e.trans e2) _ fun H3 e3 => h2 H3 ((e.trans e2).trans e3) _ fun H4 e4 => by
  have p4 := dp_ex (e3.trans e4) p
  have e24 := (e2.trans e3).trans e4
  cases p4 with
  | tup ho hd =>
    rename_i a xs
    have hlen := dpAll_len hd
    refine ⟨a, xs, rfl, ho, fun hw => ?_, fun hw r nr => ?_⟩
    · have ec : cutD ds lo hi = ds := by
        unfold cutD
        rw [← hlen, hw.1, hw.2, List.drop_zero, hlen, Nat.sub_zero, List.take_length]
      exact q _ H4 e24 (by rw [ec]; exact .tup ho hd)
    · refine q _ _ (e24.trans (Ex.new nr)) (.tup (SqT.of upd_same) ?_)
      unfold cutD cutV
      rw [hlen]
      exact dpAll_ex (Ex.new nr) (dpAll_take _ (dpAll_drop _ hd))
/-! ### xs.count(True) of a list of truth values -/
theorem td_bls : ∀ bs : List Bool, TdAll H (bs.map V.bl) (bs.map PyData.bool)
  | [] => .nil
  | b :: r => .cons (.bl b) (td_bls r)
theorem tdAll_bls : ∀ {bs : List Bool} {vs : List V}, TdAll H vs (bs.map PyData.bool) → vs = bs.map V.bl
  | [], _, .nil => rfl
  | b :: r, _, .cons h q => by
    cases h
    rw [tdAll_bls q]
    rfl
theorem count_bls (bs : List Bool) : (bs.map V.bl).countP (fun z => eqV z (.bl true)) = bs.countP id := by
  induction bs with
  | nil => rfl
  | cons b r ih =>
    rw [List.map_cons, List.countP_cons, List.countP_cons, ih]
    cases b <;> rfl
theorem flat_bls : ∀ bs : List Bool, (bs.map V.bl).all flatV = true
  | [] => rfl
  | _ :: r => by simp [flatV, flat_bls r]
theorem ev_countT {l : Addr} {bs : List Bool} (ha : Ev ta σ H (.ref l)) (hl : LstT H l (bs.map PyData.bool)) : Ev (tBM K "list" (rCntF K) ta (tCons (tC (.bl true)) tNil)) σ H (.int (bs.countP id : Nat)) := fun H1 e Q q => ha H1 e _ fun H2 e2 => by
  obtain ⟨xs, hx, hd⟩ := hl.ex (e.trans e2)
  have ex := tdAll_bls hd
  subst ex
  refine ⟨.inl ⟨rfl, _, SqL.of hx⟩, l, _, _, rfl, rfl, SqL.of hx, rfl, flat_bls bs, ?_⟩
  rw [count_bls]
  exact q H2 e2
end
section
variable {K : PySem.W.Frag} {σ : L2.St} {H H' : Hp} {ta tb te : TE} {d : PyData} {ds : List PyData}
theorem lt_listU (ha : EvTd ta σ H (.tuple ds)) : EvLT (tCB (fun xs H Q => ∃ p ys, xs = [.ref p] ∧ (SqL K H p ys ∨ SqT K H p ys) ∧ ∀ l, H l = none → Q (.ref l) (upd H l (.lst ys))) (tCons ta tNil)) σ H ds := fun H1 x Q q => ha H1 x _ fun v H2 x2 p => by
  cases p with
  | tup ho hd =>
    rename_i a xs
    exact ⟨a, xs, rfl, .inr (SqT.of ho), fun l hl => q _ _ (fresh_back x2 hl) (x2.trans (Ex.new hl)) ⟨xs, upd_same, hd.ex (Ex.new hl)⟩⟩
theorem td_ixLV {l : Addr} {i : Int} (ha : Ev ta σ H (.ref l)) (hl : LstT H l ds) (hb : Ev tb σ H (.int i)) (h : atI ds i = some d) : EvTd (tOp (rIxL K) ta tb) σ H d := fun H1 e Q q => ha H1 e _ fun H2 e2 => hb H2 (e.trans e2) _ fun H3 e3 => by
  obtain ⟨xs, ho, hd⟩ := hl.ex ((e.trans e2).trans e3)
  obtain ⟨j, h1, h2, h3, _⟩ := atI_get h
  obtain ⟨w, h4, h5⟩ := hd.get h2
  refine ⟨_, xs, i, w, rfl, rfl, SqL.of ho, ?_, q w H3 (e2.trans e3) h5⟩
  have : atI xs i = some w := by
    unfold atI at h ⊢
    rw [hd.len]
    cases e5 : ixN ds.length i with
    | none => rw [e5] at h; cases h
    | some k =>
      have hk := (ixN_seq e5).1
      rw [hk] at h1
      cases h1
      exact h4
  exact this
theorem LstT.upd_ne {l p : Addr} {xs : List V} {o : HO} (h : LstT H p ds) (hl : H l = some (.lst xs)) (ne : p ≠ l) : LstT (L2.upd H l o) p ds := by
  obtain ⟨ys, a, b⟩ := h
  exact ⟨ys, by rw [L2.upd_ne ne]; exact a, b.upd hl⟩
theorem ev_inW {i : Int} {ns : List Int} (ha : Ev ta σ H (.int i)) (hb : EvTd tb σ H (.tuple (ns.map PyData.int))) : Ev (tOp (rIn K false) ta tb) σ H (.bl (decide (i ∈ ns))) := ev_inI ha (.inl (ed_td hb))
theorem ev_niW {i : Int} {ns : List Int} (ha : Ev ta σ H (.int i)) (hb : EvTd tb σ H (.tuple (ns.map PyData.int))) : Ev (tOp (rIn K true) ta tb) σ H (.bl (!decide (i ∈ ns))) := ev_niI ha (.inl (ed_td hb))
end
section
variable {K : PySem.W.Frag} {σ : L2.St} {H H' : Hp} {ta tb te : TE} {d : PyData} {ds : List PyData} {tr : TA} {v : V} {P : V → Hp → Prop} {R : List V → Hp → Prop}
/-! ### arguments and tuples, part by part -/
theorem ea_pn (h : ∀ H1, Ex H H1 → R [] H1) : EaP tNil σ H R := fun H1 e Q q => q [] H1 (Ex.refl H1) (h H1 e)
theorem ea_pc (h : EvP te σ H P) (k : ∀ v H1, Ex H H1 → P v H1 → EaP tr σ H1 (fun vs H' => R (v :: vs) H')) : EaP (tCons te tr) σ H R := fun H1 e Q q => h H1 e _ fun v H2 e2 p => k v H2 (e.trans e2) p H2 (Ex.refl H2) _ fun vs H3 e3 r => q _ H3 (e2.trans e3) r
theorem ea_pv (h : Ev te σ H v) (k : ∀ H1, Ex H H1 → EaP tr σ H1 (fun vs H' => R (v :: vs) H')) : EaP (tCons te tr) σ H R := fun H1 e Q q => h H1 e _ fun H2 e2 => k H2 (e.trans e2) H2 (Ex.refl H2) _ fun vs H3 e3 r => q _ H3 (e2.trans e3) r
theorem ea_pl (h : EvLT te σ H ds) (k : ∀ p H1, Ex H H1 → H p = none → LstT H1 p ds → EaP tr σ H1 (fun vs H' => R (.ref p :: vs) H')) : EaP (tCons te tr) σ H R := fun H1 e Q q => h H1 e _ fun p H2 np e2 r => k p H2 (e.trans e2) (fresh_back e np) r H2 (Ex.refl H2) _ fun vs H3 e3 r => q _ H3 (e2.trans e3) r
theorem ep_tupP (h : EaP tr σ H R) (hl : ∀ vs H', R vs H' → vs.length ≤ 100000) : EvP (tTup tr) σ H (fun v H' => ∃ p vs H0, v = .ref p ∧ H' p = some (.tup vs) ∧ Ex H H0 ∧ Ex H0 H' ∧ R vs H0) := fun H1 e Q q => h H1 e _ fun vs H2 e2 r => ⟨sz_of (hl vs H2 r), fun p np => q _ _ (e2.trans (Ex.new np)) ⟨p, vs, H2, rfl, upd_same, e.trans e2, Ex.new np, r⟩⟩
end
theorem et_yes {σ : L2.St} {H : Hp} : EvT tYes σ H true := fun H1 _ Q q => q H1 (Ex.refl H1)
end Mz
namespace Mz
open PySem PySem.Spec PyProof.Rows L2 Evl
def topS (i : Nat) : Stmt := PySem.Challenge.pw_mazeguide_k10_the_least_walk.main.body.getD i (.Pass ⟨0, 0, 0, 0⟩)
abbrev s_need_room : Stmt := topS 5
theorem sc_need_room : FnScope ["maze", "room"] ["maze", "room"] (defScope s_need_room) := ⟨rfl, rfl, rfl, by decide +kernel, rfl, by decide +kernel, by decide +kernel⟩
abbrev s_taken : Stmt := topS 6
theorem sc_taken : FnScope ["maze", "room", "held", "kind"] ["maze", "room", "held"] (defScope s_taken) := ⟨rfl, rfl, rfl, by decide +kernel, rfl, by decide +kernel, by decide +kernel⟩
abbrev s_opens : Stmt := topS 8
theorem sc_opens : FnScope ["door", "held"] ["door", "held"] (defScope s_opens) := ⟨rfl, rfl, rfl, by decide +kernel, rfl, by decide +kernel, by decide +kernel⟩
abbrev s_steps : Stmt := topS 9
theorem sc_steps : FnScope ["maze", "room", "held", "found", "door"] ["maze", "room", "held"] (defScope s_steps) := ⟨rfl, rfl, rfl, by decide +kernel, rfl, by decide +kernel, by decide +kernel⟩
abbrev s_room_more : Stmt := topS 11
theorem sc_room_more : FnScope ["maze", "rooms", "held", "door"] ["maze", "rooms", "held"] (defScope s_room_more) := ⟨rfl, rfl, rfl, by decide +kernel, rfl, by decide +kernel, by decide +kernel⟩
abbrev s_come : Stmt := topS 12
theorem sc_come : FnScope ["maze", "start", "rooms", "held", "more"] ["maze", "start"] (defScope s_come) := ⟨rfl, rfl, rfl, by decide +kernel, rfl, by decide +kernel, by decide +kernel⟩
abbrev s_hand : Stmt := topS 13
theorem sc_hand : FnScope ["maze", "rooms", "held", "room"] ["maze", "rooms"] (defScope s_hand) := ⟨rfl, rfl, rfl, by decide +kernel, rfl, by decide +kernel, by decide +kernel⟩
abbrev s_least : Stmt := topS 14
theorem sc_least : FnScope ["ways", "goal", "walks", "state"] ["ways", "goal"] (defScope s_least) := ⟨rfl, rfl, rfl, by decide +kernel, rfl, by decide +kernel, by decide +kernel⟩
abbrev s_onward : Stmt := topS 15
theorem sc_onward : FnScope ["maze", "ways", "seen", "found", "state", "other", "longer"] ["maze", "ways", "seen"] (defScope s_onward) := ⟨rfl, rfl, rfl, by decide +kernel, rfl, by decide +kernel, by decide +kernel⟩
abbrev s_guide : Stmt := topS 16
theorem sc_guide : FnScope ["maze", "start", "goal", "first", "seen", "ways", "best", "rooms"] ["maze", "start", "goal"] (defScope s_guide) := ⟨rfl, rfl, rfl, by decide +kernel, rfl, by decide +kernel, by decide +kernel⟩
abbrev s_l_mix : Stmt := topS 18
theorem sc_l_mix : FnScope ["_law_cell", "_law_k", "_law_number"] ["_law_cell", "_law_k"] (defScope s_l_mix) := ⟨rfl, rfl, rfl, by decide +kernel, rfl, by decide +kernel, by decide +kernel⟩
abbrev s_l_whole : Stmt := topS 19
theorem sc_l_whole : FnScope ["_law_found"] ["_law_found"] (defScope s_l_whole) := ⟨rfl, rfl, rfl, by decide +kernel, rfl, by decide +kernel, by decide +kernel⟩
abbrev s_l_cell_at : Stmt := topS 20
theorem sc_l_cell_at : FnScope ["_law_script", "_law_k"] ["_law_script", "_law_k"] (defScope s_l_cell_at) := ⟨rfl, rfl, rfl, by decide +kernel, rfl, by decide +kernel, by decide +kernel⟩
abbrev s_l_size : Stmt := topS 21
theorem sc_l_size : FnScope ["_law_script", "_law_first", "_law_number", "_law_some"] ["_law_script"] (defScope s_l_size) := ⟨rfl, rfl, rfl, by decide +kernel, rfl, by decide +kernel, by decide +kernel⟩
abbrev s_l_lock : Stmt := topS 22
theorem sc_l_lock : FnScope ["_law_number"] ["_law_number"] (defScope s_l_lock) := ⟨rfl, rfl, rfl, by decide +kernel, rfl, by decide +kernel, by decide +kernel⟩
abbrev s_l_rank : Stmt := topS 23
theorem sc_l_rank : FnScope ["_law_place", "_law_size_here"] ["_law_place", "_law_size_here"] (defScope s_l_rank) := ⟨rfl, rfl, rfl, by decide +kernel, rfl, by decide +kernel, by decide +kernel⟩
abbrev s_l_ranks : Stmt := topS 24
theorem sc_l_ranks : FnScope ["_law_first", "_law_size_here", "_law_number", "_law_name", "_law_made", "_law_one", "_law_other", "_law_rank_here", "_law_door"] ["_law_first", "_law_size_here"] (defScope s_l_ranks) := ⟨rfl, rfl, rfl, by decide +kernel, rfl, by decide +kernel, by decide +kernel⟩
abbrev s_l_many : Stmt := topS 25
theorem sc_l_many : FnScope ["_law_first", "_law_size_here", "_law_number", "_law_made", "_law_k", "_law_near", "_law_lock_here"] ["_law_first", "_law_size_here"] (defScope s_l_many) := ⟨rfl, rfl, rfl, by decide +kernel, rfl, by decide +kernel, by decide +kernel⟩
abbrev s_l_mixed : Stmt := topS 26
theorem sc_l_mixed : FnScope ["_law_first", "_law_size_here", "_law_number", "_law_made", "_law_k", "_law_lock_here", "_law_one"] ["_law_first", "_law_size_here"] (defScope s_l_mixed) := ⟨rfl, rfl, rfl, by decide +kernel, rfl, by decide +kernel, by decide +kernel⟩
abbrev s_l_built : Stmt := topS 27
theorem sc_l_built : FnScope ["_law_first", "_law_size_here", "_law_made", "_law_k", "_law_one", "_law_other", "_law_locks", "_law_turn"] ["_law_first", "_law_size_here"] (defScope s_l_built) := ⟨rfl, rfl, rfl, by decide +kernel, rfl, by decide +kernel, by decide +kernel⟩
abbrev s_l_doors : Stmt := topS 28
theorem sc_l_doors : FnScope ["_law_script", "_law_size_here", "_law_first", "_law_made", "_law_k", "_law_cell", "_law_one"] ["_law_script", "_law_size_here"] (defScope s_l_doors) := ⟨rfl, rfl, rfl, by decide +kernel, rfl, by decide +kernel, by decide +kernel⟩
abbrev s_l_lying : Stmt := topS 29
theorem sc_l_lying : FnScope ["_law_script", "_law_size_here", "_law_first", "_law_turn", "_law_made", "_law_k"] ["_law_script", "_law_size_here"] (defScope s_l_lying) := ⟨rfl, rfl, rfl, by decide +kernel, rfl, by decide +kernel, by decide +kernel⟩
abbrev s_l_taken : Stmt := topS 30
theorem sc_l_taken : FnScope ["_law_lying_here", "_law_room", "_law_held", "_law_made", "_law_kind"] ["_law_lying_here", "_law_room", "_law_held"] (defScope s_l_taken) := ⟨rfl, rfl, rfl, by decide +kernel, rfl, by decide +kernel, by decide +kernel⟩
abbrev s_l_steps : Stmt := topS 31
theorem sc_l_steps : FnScope ["_law_doors_here", "_law_lying_here", "_law_room", "_law_held", "_law_made", "_law_one", "_law_other", "_law_lock_here"] ["_law_doors_here", "_law_lying_here", "_law_room", "_law_held"] (defScope s_l_steps) := ⟨rfl, rfl, rfl, by decide +kernel, rfl, by decide +kernel, by decide +kernel⟩
abbrev s_l_hand : Stmt := topS 32
theorem sc_l_hand : FnScope ["_law_found", "_law_due_here", "_law_kind"] ["_law_found", "_law_due_here"] (defScope s_l_hand) := ⟨rfl, rfl, rfl, by decide +kernel, rfl, by decide +kernel, by decide +kernel⟩
abbrev s_l_row : Stmt := topS 33
theorem sc_l_row : FnScope ["_law_found", "_law_due_here", "_law_room"] ["_law_found", "_law_due_here"] (defScope s_l_row) := ⟨rfl, rfl, rfl, by decide +kernel, rfl, by decide +kernel, by decide +kernel⟩
abbrev s_l_due : Stmt := topS 34
theorem sc_l_due : FnScope ["_law_doors_here", "_law_lying_here", "_law_size_here", "_law_start", "_law_goal_here", "_law_now", "_law_seen", "_law_turn", "_law_ends", "_law_state", "_law_more", "_law_other", "_law_longer"] ["_law_doors_here", "_law_lying_here", "_law_size_here", "_law_start", "_law_goal_here"] (defScope s_l_due) := ⟨rfl, rfl, rfl, by decide +kernel, rfl, by decide +kernel, by decide +kernel⟩
abbrev s_l_rooms : Stmt := topS 35
theorem sc_l_rooms : FnScope ["_law_doors_here", "_law_lying_here", "_law_start", "_law_rooms_here", "_law_more", "_law_held", "_law_one", "_law_other", "_law_lock_here"] ["_law_doors_here", "_law_lying_here", "_law_start"] (defScope s_l_rooms) := ⟨rfl, rfl, rfl, by decide +kernel, rfl, by decide +kernel, by decide +kernel⟩
abbrev s_l_shut : Stmt := topS 36
theorem sc_l_shut : FnScope ["_law_found", "_law_doors_here", "_law_lying_here", "_law_start", "_law_rooms_here", "_law_held", "_law_room"] ["_law_found", "_law_doors_here", "_law_lying_here", "_law_start"] (defScope s_l_shut) := ⟨rfl, rfl, rfl, by decide +kernel, rfl, by decide +kernel, by decide +kernel⟩
abbrev s_l_goal : Stmt := topS 37
theorem sc_l_goal : FnScope ["_law_script", "_law_size_here", "_law_first"] ["_law_script", "_law_size_here"] (defScope s_l_goal) := ⟨rfl, rfl, rfl, by decide +kernel, rfl, by decide +kernel, by decide +kernel⟩
abbrev s_l_far : Stmt := topS 38
theorem sc_l_far : FnScope ["_law_cell", "_law_size_here"] ["_law_cell", "_law_size_here"] (defScope s_l_far) := ⟨rfl, rfl, rfl, by decide +kernel, rfl, by decide +kernel, by decide +kernel⟩
abbrev s_law : Stmt := topS 39
theorem sc_law : FnScope ["_law_script", "_law_size_here", "_law_doors_here", "_law_lying_here", "_law_start", "_law_goal_here", "_law_far_here", "_law_found", "_law_due_here", "_law_good", "_law_kept"] ["_law_script"] (defScope s_law) := ⟨rfl, rfl, rfl, by decide +kernel, rfl, by decide +kernel, by decide +kernel⟩
structure Txt (K : PySem.W.Frag) (mg : Str → Option Value) : Prop where
  n_abs : mg "abs" = none
  n_bool : mg "bool" = none
  n_int : mg "int" = none
  n_isinstance : mg "isinstance" = none
  n_len : mg "len" = none
  n_list : mg "list" = none
  n_min : mg "min" = none
  n_range : mg "range" = none
  n_sorted : mg "sorted" = none
  n_tuple : mg "tuple" = none
  i_KINDS : ∃ tk, mg "KINDS" = some (.int 5 tk)
  e_MazeError : ExcT K mg "MazeError"
  e_NoRoom : ExcT K mg "NoRoom"
  m_NoRoom_MazeError : PySem.W.exmOne K (.ref (He.ga K "NoRoom")) (.ref (He.ga K "MazeError")) = some true
  m_NoRoom_NoRoom : PySem.W.exmOne K (.ref (He.ga K "NoRoom")) (.ref (He.ga K "NoRoom")) = some true
  d_need_room : Dfn K mg "need_room" s_need_room ["maze", "room"]
  d_taken : Dfn K mg "taken" s_taken ["maze", "room", "held"]
  d_opens : Dfn K mg "opens" s_opens ["door", "held"]
  d_steps : Dfn K mg "steps" s_steps ["maze", "room", "held"]
  d_room_more : Dfn K mg "room_more" s_room_more ["maze", "rooms", "held"]
  d_come : Dfn K mg "come" s_come ["maze", "start"]
  d_hand : Dfn K mg "hand" s_hand ["maze", "rooms"]
  d_least : Dfn K mg "least" s_least ["ways", "goal"]
  d_onward : Dfn K mg "onward" s_onward ["maze", "ways", "seen"]
  d_guide : Dfn K mg "guide" s_guide ["maze", "start", "goal"]
  d_l_mix : Dfn K mg "_law_mix" s_l_mix ["_law_cell", "_law_k"]
  d_l_whole : Dfn K mg "_law_whole" s_l_whole ["_law_found"]
  d_l_cell_at : Dfn K mg "_law_cell_at" s_l_cell_at ["_law_script", "_law_k"]
  d_l_size : Dfn K mg "_law_size" s_l_size ["_law_script"]
  d_l_lock : Dfn K mg "_law_lock" s_l_lock ["_law_number"]
  d_l_rank : Dfn K mg "_law_rank" s_l_rank ["_law_place", "_law_size_here"]
  d_l_ranks : Dfn K mg "_law_ranks" s_l_ranks ["_law_first", "_law_size_here"]
  d_l_many : Dfn K mg "_law_many" s_l_many ["_law_first", "_law_size_here"]
  d_l_mixed : Dfn K mg "_law_mixed" s_l_mixed ["_law_first", "_law_size_here"]
  d_l_built : Dfn K mg "_law_built" s_l_built ["_law_first", "_law_size_here"]
  d_l_doors : Dfn K mg "_law_doors" s_l_doors ["_law_script", "_law_size_here"]
  d_l_lying : Dfn K mg "_law_lying" s_l_lying ["_law_script", "_law_size_here"]
  d_l_taken : Dfn K mg "_law_taken" s_l_taken ["_law_lying_here", "_law_room", "_law_held"]
  d_l_steps : Dfn K mg "_law_steps" s_l_steps ["_law_doors_here", "_law_lying_here", "_law_room", "_law_held"]
  d_l_hand : Dfn K mg "_law_hand" s_l_hand ["_law_found", "_law_due_here"]
  d_l_row : Dfn K mg "_law_row" s_l_row ["_law_found", "_law_due_here"]
  d_l_due : Dfn K mg "_law_due" s_l_due ["_law_doors_here", "_law_lying_here", "_law_size_here", "_law_start", "_law_goal_here"]
  d_l_rooms : Dfn K mg "_law_rooms" s_l_rooms ["_law_doors_here", "_law_lying_here", "_law_start"]
  d_l_shut : Dfn K mg "_law_shut" s_l_shut ["_law_found", "_law_doors_here", "_law_lying_here", "_law_start"]
  d_l_goal : Dfn K mg "_law_goal" s_l_goal ["_law_script", "_law_size_here"]
  d_l_far : Dfn K mg "_law_far" s_l_far ["_law_cell", "_law_size_here"]
  d_law : Dfn K mg "law" s_law ["_law_script"]
end Mz
namespace Mz
open PySem PySem.Spec PyProof.Rows L2 Evl
/-! ### the tactics of the readings -/
local macro_rules | `(tactic| walk_at "mz side") => `(tactic| first
  | assumption
  | omega
  | decide
  | exact Or.inl ⟨by omega, by omega⟩
  | exact Or.inr ⟨by omega, by omega⟩
  | exact ⟨by omega, by omega⟩
  | exact ⟨by decide, by decide, by decide⟩)
local macro_rules | `(tactic| walk_at "mz ev1") => `(tactic| first
  | exact ev_c
  | exact ev_var rfl
  | with_reducible apply ev_op
  | with_reducible exact rv_I0
  | ((with_reducible refine rv_I ?_); walk_at "mz side")
  | with_reducible exact rv_eqI
  | with_reducible exact rv_neI
  | with_reducible exact rv_isN
  | with_reducible exact rv_notN
  | with_reducible apply ev_un
  | with_reducible exact ru_neg
  | with_reducible apply ev_abs
  | with_reducible apply et_test
  | with_reducible apply et_B
  | with_reducible apply et_not
  | with_reducible apply et_and
  | with_reducible apply et_or
  | with_reducible apply ev_andV
  | with_reducible apply ev_orV
  | with_reducible apply ev_notV
  | with_reducible exact ea_nil
  | with_reducible apply ea_cons
  | with_reducible exact ea_tn
  | with_reducible apply ea_tc
  | with_reducible refine td_tup ?_ (by first | decide | simp)
  | with_reducible exact et_yes
  | ((with_reducible show ((_ : Bool) = (_ : Bool)) → _); intro _))
local macro_rules | `(tactic| walk_at "mz ev") => `(tactic| repeat' walk_at "mz ev1")
/-! ### data of a heap that stands below -/
section
variable {K : PySem.W.Frag} {σ : L2.St} {H H' H0 : Hp} {ta tb te tl : TE} {t : TT} {tu tz : TS} {D : Ends} {g : TG} {d : PyData} {ds : List PyData} {v : V} {tr : TA}
theorem ev_of_tdN (h : EvTd te σ H .none) : Ev te σ H .non := fun H1 e Q q => h H1 e Q fun v H2 e2 p => by cases p; exact q H2 e2
theorem ev_of_edN (h : EvD K te σ H .none) : Ev te σ H .non := fun H1 e Q q => h H1 e Q fun v H2 e2 p => by cases p; exact q H2 e2
theorem atI_len {α β : Type} {xs : List α} {ys : List β} (hl : xs.length = ys.length) {i : Int} {y : β} {j : Nat} (h : atI ys i = some y) (h1 : ixN ys.length i = some j) {x : α} (hx : xs[j]? = some x) : atI xs i = some x := by
  unfold atI
  rw [hl, h1]
  exact hx
/-- an item of data that stands -/
theorem dp_item {i : Int} (h : Dp K H0 v (.tuple ds)) (hi : atI ds i = some d) : ∃ u, Dp K H0 u d ∧ ∀ {ta tb : TE} {σ : L2.St} {H : Hp}, Ex H0 H → Ev ta σ H v → Ev tb σ H (.int i) → Ev (tOp (rIxT K) ta tb) σ H u := by
  cases h with
  | tup ho hd =>
    rename_i a xs
    obtain ⟨j, h1, h2, h3, _⟩ := atI_get hi
    obtain ⟨w, h4, h5⟩ := dpAll_get hd h2
    have hat : atI xs i = some w := by
      unfold atI at hi ⊢
      rw [dpAll_len hd]
      cases e5 : ixN ds.length i with
      | none => rw [e5] at hi; cases hi
      | some k =>
        have hk := (ixN_seq e5).1
        rw [hk] at h1
        cases h1
        exact h4
    exact ⟨w, h5, fun e h1 h2 => ev_op h1 h2 (rv_ixT (ex_t e ho) hat)⟩
theorem dp_itemL {i : Int} (h : Dp K H0 v (.list ds)) (hi : atI ds i = some d) : ∃ u, Dp K H0 u d ∧ ∀ {ta tb : TE} {σ : L2.St} {H : Hp}, Ex H0 H → Ev ta σ H v → Ev tb σ H (.int i) → Ev (tOp (rIxL K) ta tb) σ H u := by
  cases h with
  | lst ho hd =>
    rename_i a xs
    obtain ⟨j, h1, h2, h3, _⟩ := atI_get hi
    obtain ⟨w, h4, h5⟩ := dpAll_get hd h2
    have hat : atI xs i = some w := by
      unfold atI at hi ⊢
      rw [dpAll_len hd]
      cases e5 : ixN ds.length i with
      | none => rw [e5] at hi; cases hi
      | some k =>
        have hk := (ixN_seq e5).1
        rw [hk] at h1
        cases h1
        exact h4
    exact ⟨w, h5, fun e h1 h2 => ev_op h1 h2 (rv_ixL (ex_l e ho) hat)⟩
/-- loops over it -/
theorem s_forV (h : Ev tl σ H v) (hv : Dp K H0 v (.list ds)) (e0 : Ex H0 H) (Pv : Nat → L2.St → Hp → Prop) (h0 : ∀ H1, Ex H H1 → Pv 0 σ H1) (hx : ∀ i σ' H', Pv i σ' H' → Ex H0 H')
    (hs : ∀ i d x σ' H', ds[i]? = some d → Dp K H0 x d → Pv i σ' H' → g x σ' H' fun σ2 H2 => tu { D with nx := Pv (i + 1), ct := Pv (i + 1), bk := D.nx } σ2 H2)
    (hd : ∀ σ' H', Pv ds.length σ' H' → D.nx σ' H') : tFor (iList K tl) g tu D σ H := by
  cases hv with
  | lst ho hda =>
    rename_i a xs
    have hlen := dpAll_len hda
    refine s_forL h (ex_l e0 ho) Pv h0 (fun i σ' H' _ p => ex_l (hx i σ' H' p) ho) (fun i x σ' H' hx' p => ?_) (fun σ' H' p => hd σ' H' (by rw [← hlen]; exact p))
    obtain ⟨d, hd1, hd2⟩ := dpAll_getV hda hx'
    exact hs i d x σ' H' hd1 hd2 p
theorem q_forV (h : Ev tl σ H v) (hv : Dp K H0 v (.list ds)) (e0 : Ex H0 H) (Pv : Nat → L2.St → Hp → Prop) (h0 : ∀ H1, Ex H H1 → Pv 0 σ H1) (hx : ∀ i σ' H', Pv i σ' H' → Ex H0 H')
    (hs : ∀ i d x σ' H', ds[i]? = some d → Dp K H0 x d → Pv i σ' H' → g x σ' H' fun σ2 H2 => tu { D with nx := Pv (i + 1), ct := Pv (i + 1), bk := tz D } σ2 H2)
    (hd : ∀ σ' H', Pv ds.length σ' H' → tz D σ' H') : tSeq (tFor (iList K tl) g tu) tz D σ H := s_forV (D := { D with nx := tz D }) h hv e0 Pv h0 hx hs hd
/-- comprehensions over it -/
theorem filt_take {α β : Type} {xs : List α} {i : Nat} {a : α} (h : xs[i]? = some a) (p : α → Bool) (w : α → β) : ((xs.take (i + 1)).filter p).map w = ((xs.take i).filter p).map w ++ (if p a = true then [w a] else []) := by
  have e : xs.take (i + 1) = xs.take i ++ [a] := by rw [List.take_succ, h]; rfl
  rw [e, List.filter_append, List.map_append]
  by_cases hp : p a = true
  · simp [hp]
  · simp [hp]
theorem lt_lcV {α : Type} {Dd : α → PyData} {xs : List α} {lv : V} {vs : List Nat} (p : α → Bool) (w : α → PyData) (h : Ev tl σ H lv) (hl : Dp K H lv (.list (xs.map Dd))) (hn : xs.length ≤ 40000)
    (hg : ∀ a, a ∈ xs → ∀ x H1, Ex H H1 → Dp K H x (Dd a) → ∀ Q : L2.St → Hp → Prop, (∀ σ2, wipe σ2 vs = wipe σ vs → EvT t σ2 H1 (p a) → (p a = true → EvTd te σ2 H1 (w a)) → Q σ2 H1) → g x (wipe σ vs) H1 Q) :
    EvLT (tLc (iList K tl) g t te vs) σ H ((xs.filter p).map w) := fun H1 e Q q => h H1 e _ fun H2 e2 => by
  cases hl with
  | lst ho hda =>
    rename_i a ys
    have hlen := dpAll_len hda
    rw [List.length_map] at hlen
    have e02 := e.trans e2
    refine ⟨a, rfl, ⟨ys, ex_l e02 ho⟩, fun Dl hD => lc_list (K := K) (a := a) (xs := ys) (fun i H' => H2 Dl = none ∧ Ex H2 H' ∧ LstT H' Dl (((xs.take i).filter p).map w)) ⟨hD, Ex.new hD, ⟨[], upd_same, .nil⟩⟩ (fun i H' _ pp => ex_l (e02.trans pp.2.1) ho) (fun i x H' hx pp => ?_) (fun H' pp => ?_)⟩
    · obtain ⟨p1, p2, zs, p3, p4⟩ := pp
      obtain ⟨d, hd1, hd2⟩ := dpAll_getV hda hx
      rw [List.getElem?_map] at hd1
      obtain ⟨b, hb, rfl⟩ := Option.map_eq_some_iff.mp hd1
      have hil : i < xs.length := (List.getElem?_eq_some_iff.mp hb).1
      refine hg b (List.mem_of_getElem? hb) x H' (e02.trans p2) hd2 _ fun σ2 hw ht he => ⟨hw, ht H' (Ex.refl H') _ fun H3 e3 => ?_⟩
      cases hf : p b with
      | true =>
        show te σ2 H3 fun y H4 => ∃ acc, H4 Dl = some (.lst acc) ∧ acc.length < sizeLine ∧ (H2 Dl = none ∧ Ex H2 (upd H4 Dl (.lst (acc ++ [y]))) ∧ LstT (upd H4 Dl (.lst (acc ++ [y]))) Dl (((xs.take (i + 1)).filter p).map w))
        refine he hf H3 e3 _ fun y H4 e4 q4 => ⟨zs, e4 Dl _ (e3 Dl _ p3), sz_lt ?_, p1, Ex.mut ((p2.trans e3).trans e4) p1, ?_⟩
        · rw [p4.len, List.length_map]
          have h1 := List.length_filter_le p (xs.take i)
          have h2 := List.length_take_le i xs
          omega
        · rw [filt_take hb, if_pos hf]
          exact LstT.push (e4 Dl _ (e3 Dl _ p3)) (p4.ex (e3.trans e4)) q4
      | false =>
        show H2 Dl = none ∧ Ex H2 H3 ∧ LstT H3 Dl (((xs.take (i + 1)).filter p).map w)
        refine ⟨p1, p2.trans e3, ?_⟩
        rw [filt_take hb, if_neg (by rw [hf]; simp), List.append_nil]
        exact ⟨zs, e3 Dl _ p3, p4.ex e3⟩
    · obtain ⟨p1, p2, p3⟩ := pp
      rw [hlen, List.take_length] at p3
      exact q Dl H' (fresh_back e2 p1) (e2.trans p2) p3
/-- clear -/
theorem q_clear {l : Addr} {xs : List V} (ha : Ev ta σ H (.ref l)) (hl : H l = some (.lst xs)) (k : ∀ H1, Ex H H1 → H1 l = some (.lst xs) → tz D σ (upd H1 l (.lst []))) : tSeq (tDrop (tBM0 K "list" rClear ta)) tz D σ H := ha H (Ex.refl H) _ fun H1 e1 => ⟨Or.inl ⟨rfl, xs, sq_of (e1 l _ hl)⟩, l, xs, rfl, rfl, e1 l _ hl, k H1 e1 (e1 l _ hl)⟩
end
section
variable {K : PySem.W.Frag} {σ : L2.St} {H H' H0 : Hp} {ta tb te tl : TE} {v : V} {tr : TA}
theorem rv_eqB {a b : Bool} : RV rEq (.bl a) (.bl b) H (.bl (decide (a = b))) := fun H1 e Q q => ⟨rfl, by
  have e2 : decide (V.bl a = V.bl b) = decide (a = b) := by simp
  rw [e2]
  exact q H1 (Ex.refl H1)⟩
theorem rv_neB {a b : Bool} : RV rNe (.bl a) (.bl b) H (.bl (!decide (a = b))) := fun H1 e Q q => ⟨rfl, by
  have e2 : decide (V.bl a = V.bl b) = decide (a = b) := by simp
  rw [e2]
  exact q H1 (Ex.refl H1)⟩
theorem rv_eqS {a b : Str} : RV rEq (.str a) (.str b) H (.bl (decide (a = b))) := fun H1 e Q q => ⟨rfl, by
  have e2 : decide (V.str a = V.str b) = decide (a = b) := by simp
  rw [e2]
  exact q H1 (Ex.refl H1)⟩
theorem rv_neS {a b : Str} : RV rNe (.str a) (.str b) H (.bl (!decide (a = b))) := fun H1 e Q q => ⟨rfl, by
  have e2 : decide (V.str a = V.str b) = decide (a = b) := by simp
  rw [e2]
  exact q H1 (Ex.refl H1)⟩
end

/-! ### the data of mazes -/
abbrev Key2 := Int × Int
abbrev Door := Int × Int × Option Int
def lockD : Option Int → PyData
  | none => .none
  | some k => .int k
def doorD (d : Door) : PyData := .tuple [.int d.1, .int d.2.1, lockD d.2.2]
def keyD (k : Key2) : PyData := .tuple [.int k.1, .int k.2]
def intsD (ns : List Int) : PyData := .tuple (ns.map PyData.int)
mutual
def nb : PyData → Bool
  | .none => true
  | .int _ => true
  | .list xs => nbAll xs
  | .tuple xs => nbAll xs
  | _ => false
def nbAll : List PyData → Bool
  | [] => true
  | x :: xs => nb x && nbAll xs
end
mutual
theorem nb_lay : ∀ d : PyData, nb d = true → d.canLay0 = true
  | .none, _ => by simp only [PyData.canLay0]
  | .int _, _ => by simp only [PyData.canLay0]
  | .bool _, h => by simp [nb] at h
  | .str _, h => by simp [nb] at h
  | .dict _, h => by simp [nb] at h
  | .list xs, h => by simp only [PyData.canLay0]; exact nb_layAll xs (by simpa only [nb] using h)
  | .tuple xs, h => by simp only [PyData.canLay0]; exact nb_layAll xs (by simpa only [nb] using h)
theorem nb_layAll : ∀ ds : List PyData, nbAll ds = true → PyData.canLayAll0 ds = true
  | [], _ => by simp only [PyData.canLayAll0]
  | x :: xs, h => by
    simp only [nbAll, Bool.and_eq_true] at h
    simp only [PyData.canLayAll0, Bool.and_eq_true]
    exact ⟨nb_lay x h.1, nb_layAll xs h.2⟩
end
mutual
theorem eqv_nb : ∀ d e : PyData, nb d = true → nb e = true → (PyData.eqv d e = true ↔ d = e)
  | .none, .none, _, _ => by simp [PyData.eqv]
  | .none, .int _, _, _ => by simp [PyData.eqv]
  | .none, .list _, _, _ => by simp [PyData.eqv]
  | .none, .tuple _, _, _ => by simp [PyData.eqv]
  | .int _, .none, _, _ => by simp [PyData.eqv]
  | .int i, .int j, _, _ => by simp [PyData.eqv]
  | .int _, .list _, _, _ => by simp [PyData.eqv]
  | .int _, .tuple _, _, _ => by simp [PyData.eqv]
  | .list _, .none, _, _ => by simp [PyData.eqv]
  | .list _, .int _, _, _ => by simp [PyData.eqv]
  | .list xs, .list ys, h, q => by
    simp only [PyData.eqv, PyData.list.injEq]
    exact eqv_nbAll xs ys (by simpa only [nb] using h) (by simpa only [nb] using q)
  | .list _, .tuple _, _, _ => by simp [PyData.eqv]
  | .tuple _, .none, _, _ => by simp [PyData.eqv]
  | .tuple _, .int _, _, _ => by simp [PyData.eqv]
  | .tuple _, .list _, _, _ => by simp [PyData.eqv]
  | .tuple xs, .tuple ys, h, q => by
    simp only [PyData.eqv, PyData.tuple.injEq]
    exact eqv_nbAll xs ys (by simpa only [nb] using h) (by simpa only [nb] using q)
  | .bool _, _, h, _ => by simp [nb] at h
  | .str _, _, h, _ => by simp [nb] at h
  | .dict _, _, h, _ => by simp [nb] at h
  | .none, .bool _, _, h => by simp [nb] at h
  | .none, .str _, _, h => by simp [nb] at h
  | .none, .dict _, _, h => by simp [nb] at h
  | .int _, .bool _, _, h => by simp [nb] at h
  | .int _, .str _, _, h => by simp [nb] at h
  | .int _, .dict _, _, h => by simp [nb] at h
  | .list _, .bool _, _, h => by simp [nb] at h
  | .list _, .str _, _, h => by simp [nb] at h
  | .list _, .dict _, _, h => by simp [nb] at h
  | .tuple _, .bool _, _, h => by simp [nb] at h
  | .tuple _, .str _, _, h => by simp [nb] at h
  | .tuple _, .dict _, _, h => by simp [nb] at h
theorem eqv_nbAll : ∀ ds es : List PyData, nbAll ds = true → nbAll es = true → (PyData.eqvAll ds es = true ↔ ds = es)
  | [], [], _, _ => by simp [PyData.eqvAll]
  | [], _ :: _, _, _ => by simp [PyData.eqvAll]
  | _ :: _, [], _, _ => by simp [PyData.eqvAll]
  | x :: xs, y :: ys, h, q => by
    simp only [nbAll, Bool.and_eq_true] at h q
    simp only [PyData.eqvAll, Bool.and_eq_true, List.cons.injEq, eqv_nb x y h.1 q.1, eqv_nbAll xs ys h.2 q.2]
end
theorem eqv_self {d : PyData} (h : nb d = true) : PyData.eqv d d = true := (eqv_nb d d h h).mpr rfl
theorem eqv_dec {d e : PyData} {p : Prop} [Decidable p] (h : nb d = true) (q : nb e = true) (k : d = e ↔ p) : PyData.eqv d e = decide p := by
  by_cases c : p
  · rw [decide_eq_true c]
    exact (eqv_nb d e h q).mpr (k.mpr c)
  · rw [decide_eq_false c]
    cases z : PyData.eqv d e with
    | false => rfl
    | true => exact absurd (k.mp ((eqv_nb d e h q).mp z)) c
theorem nbAll_iff : ∀ {ds : List PyData}, nbAll ds = true ↔ ∀ d ∈ ds, nb d = true
  | [] => by simp [nbAll]
  | x :: xs => by simp [nbAll, nbAll_iff (ds := xs)]
theorem nbAll_map {α : Type} {f : α → PyData} (h : ∀ a, nb (f a) = true) (l : List α) : nbAll (l.map f) = true := nbAll_iff.mpr fun d hd => by
  obtain ⟨a, _, rfl⟩ := List.mem_map.mp hd
  exact h a
/-- depth -/
theorem depthAll_le {n : Nat} : ∀ {ds : List PyData}, (∀ d ∈ ds, d.depth ≤ n) → PyData.depthAll ds ≤ n
  | [], _ => by simp [PyData.depthAll]
  | x :: xs, h => by
    have h1 := h x (by simp)
    have h2 := depthAll_le (ds := xs) fun d hd => h d (by simp [hd])
    simp only [PyData.depthAll]
    omega
theorem depth_tuple {n : Nat} {ds : List PyData} (h : ∀ d ∈ ds, d.depth ≤ n) : PyData.depth (.tuple ds) ≤ n + 1 := by
  have := depthAll_le h
  simp only [PyData.depth]
  omega
theorem depth_list {n : Nat} {ds : List PyData} (h : ∀ d ∈ ds, d.depth ≤ n) : PyData.depth (.list ds) ≤ n + 1 := by
  have := depthAll_le h
  simp only [PyData.depth]
  omega
theorem depth_int (i : Int) : PyData.depth (.int i) = 0 := by simp [PyData.depth]
theorem depth_map {α : Type} {n : Nat} {f : α → PyData} (h : ∀ a, (f a).depth ≤ n) (l : List α) : ∀ d ∈ l.map f, d.depth ≤ n := fun d hd => by
  obtain ⟨a, _, rfl⟩ := List.mem_map.mp hd
  exact h a
theorem shaped_of {d : PyData} (h : nb d = true) (k : d.depth ≤ 64) : SeqAt.shaped d = true := by
  show (d.canLay0 && decide (d.depth ≤ 64)) = true
  rw [Bool.and_eq_true]
  exact ⟨nb_lay d h, decide_eq_true k⟩
theorem nb_lock (l : Option Int) : nb (lockD l) = true := by cases l <;> simp [lockD, nb]
theorem nb_door (d : Door) : nb (doorD d) = true := by simp [doorD, nb, nbAll, nb_lock]
theorem nb_key (k : Key2) : nb (keyD k) = true := by simp [keyD, nb, nbAll]
theorem nb_intD (i : Int) : nb (.int i) = true := by simp [nb]
theorem nb_ints (ns : List Int) : nb (intsD ns) = true := by simp only [intsD, nb]; exact nbAll_map nb_intD ns
theorem dep_lock (l : Option Int) : (lockD l).depth = 0 := by cases l <;> simp [lockD, PyData.depth]
theorem dep_door (d : Door) : (doorD d).depth ≤ 1 := by simp [doorD, PyData.depth, PyData.depthAll, dep_lock]
theorem dep_key (k : Key2) : (keyD k).depth ≤ 1 := by simp [keyD, PyData.depth, PyData.depthAll]
theorem dep_ints (ns : List Int) : (intsD ns).depth ≤ 1 := depth_tuple (depth_map (fun i => by simp [PyData.depth]) ns)
theorem sh_key (k : Key2) : SeqAt.shaped (keyD k) = true := shaped_of (nb_key k) (by have := dep_key k; omega)
theorem sh_ints (ns : List Int) : SeqAt.shaped (intsD ns) = true := shaped_of (nb_ints ns) (by have := dep_ints ns; omega)
theorem nb_keys (ks : List Key2) : nb (.list (ks.map keyD)) = true := by simp only [nb]; exact nbAll_map nb_key ks
theorem sh_keys (ks : List Key2) : SeqAt.shaped (.list (ks.map keyD)) = true := shaped_of (nb_keys ks) (by have := depth_list (depth_map dep_key ks); omega)
theorem nb_doors (ks : List Door) : nb (.list (ks.map doorD)) = true := by simp only [nb]; exact nbAll_map nb_door ks
theorem sh_doors (ks : List Door) : SeqAt.shaped (.list (ks.map doorD)) = true := shaped_of (nb_doors ks) (by have := depth_list (depth_map dep_door ks); omega)
theorem keyD_inj {a b : Key2} : keyD a = keyD b ↔ a = b := by
  obtain ⟨a1, a2⟩ := a
  obtain ⟨b1, b2⟩ := b
  simp [keyD]
theorem eqv_key (a b : Key2) : PyData.eqv (keyD a) (keyD b) = decide (a = b) := eqv_dec (nb_key a) (nb_key b) keyD_inj
theorem any_key (k : Key2) : ∀ ks : List Key2, ((ks.map keyD).any fun z => PyData.eqv z (keyD k)) = decide (k ∈ ks)
  | [] => by simp
  | a :: r => by
    have h := any_key k r
    rw [List.map_cons, List.any_cons, h, eqv_key]
    by_cases e : a = k
    · subst e; simp
    · have e2 : ¬ k = a := fun z => e z.symm
      simp [e, e2]
theorem map_inj {α β : Type} {f : α → β} (h : ∀ a b, f a = f b → a = b) : ∀ {l m : List α}, l.map f = m.map f → l = m
  | [], [], _ => rfl
  | [], _ :: _, e => by simp at e
  | _ :: _, [], e => by simp at e
  | a :: l, b :: m, e => by
    simp only [List.map_cons, List.cons.injEq] at e
    rw [h a b e.1, map_inj h e.2]
theorem intsD_inj {a b : List Int} : intsD a = intsD b ↔ a = b := by
  refine ⟨fun e => ?_, fun e => by rw [e]⟩
  simp only [intsD, PyData.tuple.injEq] at e
  exact map_inj (fun a b z => by simpa using z) e
theorem eqv_ints (a b : List Int) : PyData.eqv (intsD a) (intsD b) = decide (a = b) := eqv_dec (nb_ints a) (nb_ints b) intsD_inj
/-- the kinds of which p tells True, ascending -/
def kindsOf (p : Nat → Bool) : List Int := ((List.range 5).filter p).map fun (i : Nat) => (i : Int)
theorem kindsOf_data (p : Nat → Bool) : ((List.range 5).filter p).map (fun (i : Nat) => PyData.int (i : Int)) = (kindsOf p).map PyData.int := by
  unfold kindsOf
  rw [List.map_map]
  rfl
def keysIn (ks : List Key2) (room : Int) : List Int := kindsOf fun i => decide ((room, (i : Int)) ∈ ks)
def takenF (ks : List Key2) (room : Int) (held : List Int) : List Int := kindsOf fun i => decide ((i : Int) ∈ held) || decide ((room, (i : Int)) ∈ ks)
def mazeD (n : Int) (dd : List PyData) (ks : List Key2) : PyData := .tuple [.int n, .list dd, .list (ks.map keyD)]
/-- the room is there -/
abbrev Here (n room : Int) : Prop := 0 ≤ room ∧ room < n
/-- a cell of the script -/
def cellAt (ns : List Int) (k : Int) : Int := if k < ns.length then ns.getD k.toNat 0 else 0

section
variable {P : Program} {w : World} {K : PySem.W.Frag} {mg : Str → Option Value} {base : Heap}
/-! ### isinstance -/
theorem rc_isi {H : Hp} {x c : V} {t u : Value} {b : Bool} (kc : ClsV c u) (ty : ∀ H1, Ex H H1 → TyX K H1 x t) (hk : PySem.W.kitOne K t u = some b) : RC (rIsi K) [x, c] H (.bl b) := fun H1 e Q q => ⟨x, c, t, u, b, rfl, kc, ty H1 e, hk, q H1 (Ex.refl H1)⟩
theorem ty_tup {H : Hp} {v : V} {ds : List PyData} (h : Dp K H v (.tuple ds)) : TyX K H v (.type "tuple") := by
  cases h with
  | tup h _ =>
    rcases h with (h | ⟨o, h⟩) | ⟨o, its, n, h, hc, _⟩
    · exact .base (.tup h)
    · exact .fTuple h
    · exact .kTuple h hc
theorem ty_lst {H : Hp} {v : V} {ds : List PyData} (h : Dp K H v (.list ds)) : TyX K H v (.type "list") := by
  cases h with
  | lst h _ =>
    rcases h with (h | ⟨o, h⟩) | ⟨o, its, n, h, hc, _⟩
    · exact .base (.lst h)
    · exact .base (.frz h)
    · exact .kList h hc
theorem ev_isi {σ : L2.St} {H : Hp} {ta : TE} {v : V} {n m : String} {b : Bool} (h : Ev ta σ H v) (ty : ∀ H1, Ex H H1 → TyX K H1 v (.type n)) (hk : kitB n m = some b) : Ev (tCB (rIsi K) (tCons ta (tCons (tC (.ty m)) tNil))) σ H (.bl b) :=
  ev_cb (ea_cons h (ea_cons ev_c ea_nil)) (rc_isi (.ty m) ty (kit_ty hk))
theorem ev_isiD {σ : L2.St} {H : Hp} {ta : TE} {d : PyData} {n m : String} {b : Bool} (h : EvD K ta σ H d) (ty : ∀ v H1, Ex H H1 → Dp K H1 v d → TyX K H1 v (.type n)) (hk : kitB n m = some b) : Ev (tCB (rIsi K) (tCons ta (tCons (tC (.ty m)) tNil))) σ H (.bl b) := fun H1 e Q q =>
  h H1 e _ fun v H2 e2 p => ⟨v, .ty m, .type n, .type m, b, rfl, .ty m, ty v H2 (e.trans e2) p, kit_ty hk, q H2 e2⟩
theorem ev_isE {st : L2.St} {H : Hp} {ta : TE} {a D : Addr} {c : V} {cv : Value} {b : Bool} (h : Ev ta st H (.ref a)) (hc : ∀ u, L2.RelV c u → u = cv) (hk : PySem.W.kitOne K (.ref D) cv = some b) : Ev (tCB (rIsE K D a) (tCons ta (tCons (tC c) tNil))) st H (.bl b) :=
  ev_cb (ea_cons h (ea_cons ev_c ea_nil)) fun H1 _ Q q => ⟨c, cv, b, rfl, hc, hk, q H1 (Ex.refl H1)⟩
end

def mix (c k : Int) : Int := (c + 7919 * k + 1) * 48271 % 1000003 * ((c + 7919 * k + 1) * 48271 % 1000003) % 999983
theorem mix_pos (c k : Int) : 0 ≤ mix c k := Int.emod_nonneg _ (by decide)
theorem mix_lt (c k : Int) : mix c k < 999983 := Int.emod_lt_of_pos _ (by decide)
def sp_l_mix (K : PySem.W.Frag) : Sp := fun vs H Q _ => ∃ c k : Int, vs = [.int c, .int k] ∧ ∀ H2, Ex H H2 → Q (.int (mix c k)) H2
section
variable {P : Program} {w : World} {K : PySem.W.Frag} {mg : Str → Option Value} {base : Heap}
theorem ok_l_mix (T : Txt K mg) : Kept P w K mg base 1 "_law_mix" ["_law_cell", "_law_k"] (sp_l_mix K) := by
  refine T.d_l_mix.kept sc_l_mix (fun vs H Q E h => ?_) (fun cdv A outer s H vs Q E hr h => ?_)
  · obtain ⟨c, k, rfl, _⟩ := h
    rfl
  · obtain ⟨c, k, rfl, q⟩ := h
    refine ⟨_, (pss_cons (ps_set (i := 2) sc_l_mix.nd rfl (Or.inl rfl) (pe_op op_mod (pe_op op_mul (pe_op op_add (pe_op op_add (pv 0) (pe_op op_mul pe_int (pv 1))) pe_int) pe_int) pe_int))
      (pss_one (ps_ret (pe_op op_mod (pe_op op_mul (pv 2) (pv 2)) pe_int)))), ?_⟩
    refine q_asg (v := .int ((c + 7919 * k + 1) * 48271 % 1000003)) ?_ fun H1 e1 => ?_
    · walk_at "mz ev"
    refine s_ret (v := .int (mix c k)) ?_ fun H2 e2 => q _ (e1.trans e2)
    unfold mix
    walk_at "mz ev"
theorem sv_l_mix {H : Hp} {c k : Int} : SpV (sp_l_mix K) [.int c, .int k] H (.int (mix c k)) := fun H1 e Q q E => ⟨c, k, rfl, q⟩
end

section
variable {P : Program} {w : World} {K : PySem.W.Frag} {mg : Str → Option Value} {base : Heap}
/-! ### a cell of the script -/
def sp_l_cell_at (K : PySem.W.Frag) : Sp := fun vs H Q _ => ∃ (a : Addr) (ns : List Int) (k : Int), vs = [.ref a, .int k] ∧ SqL K H a (ns.map V.int) ∧ 0 ≤ k ∧ ∀ H2, Ex H H2 → Q (.int (cellAt ns k)) H2
theorem ok_l_cell_at (T : Txt K mg) : Kept P w K mg base 1 "_law_cell_at" ["_law_script", "_law_k"] (sp_l_cell_at K) := by
  refine T.d_l_cell_at.kept sc_l_cell_at (fun vs H Q E h => ?_) (fun cdv A outer s H vs Q E hr h => ?_)
  · obtain ⟨a, ns, k, rfl, _⟩ := h
    rfl
  · obtain ⟨a, ns, k, rfl, hS, h0, q⟩ := h
    refine ⟨_, (pss_cons (ps_if (pt_cmpR op_lt (pv 1) (pe_callB (call_len_seq_K (K := K) rfl) (by rfl) T.n_len (by decide +kernel) (pa_cons (pv 0) pa_nil)) (nomark _))
        (pss_one (ps_ret (pe_ix (ix_list_K (K := K) rfl) (pv 0) (pv 1) (fun _ _ => rfl))))
        pss_nil)
      (pss_one (ps_ret pe_int))), ?_⟩
    refine q_when (et_test (ev_op (ev_var rfl) (ev_lenS (ev_var rfl) hS) rv_I0)) (fun hb H1 e1 => ?_) (fun hb H1 e1 => ?_)
    · have hb' : k < (ns.map V.int).length := of_decide_eq_true hb
      rw [List.length_map] at hb'
      have e : (ns.map V.int)[k.toNat]? = some (.int (cellAt ns k)) := by
        have hl : k.toNat < ns.length := by omega
        rw [List.getElem?_map, List.getElem?_eq_getElem hl]
        simp [cellAt, hb', List.getD, List.getElem?_eq_getElem hl]
      refine s_ret (v := .int (cellAt ns k)) (ev_op (ev_var rfl) (ev_var rfl) (rv_ixL (ex_l e1 hS) ?_)) fun H2 e2 => q _ (e1.trans e2)
      exact at_of (by omega) e
    · have hb' : ¬ k < (ns.map V.int).length := of_decide_eq_false hb
      rw [List.length_map] at hb'
      have e : cellAt ns k = 0 := by simp [cellAt, hb']
      refine s_ret (v := .int 0) ev_c fun H2 e2 => ?_
      have := q _ (e1.trans e2)
      rw [e] at this
      exact this
theorem sv_l_cell_at {H : Hp} {a : Addr} {ns : List Int} {k : Int} (hS : SqL K H a (ns.map V.int)) (h0 : 0 ≤ k) : SpV (sp_l_cell_at K) [.ref a, .int k] H (.int (cellAt ns k)) := fun H1 e Q q E => ⟨a, ns, k, rfl, ex_l e hS, h0, q⟩
end

section
variable {P : Program} {w : World} {K : PySem.W.Frag} {mg : Str → Option Value} {base : Heap}
/-! ### a whole number -/
def sp_l_whole (K : PySem.W.Frag) : Sp := fun vs H Q _ => ∃ i : Int, vs = [.int i] ∧ ∀ H2, Ex H H2 → Q (.bl true) H2
theorem ok_l_whole (T : Txt K mg) : Kept P w K mg base 1 "_law_whole" ["_law_found"] (sp_l_whole K) := by
  refine T.d_l_whole.kept sc_l_whole (fun vs H Q E h => ?_) (fun cdv A outer s H vs Q E hr h => ?_)
  · obtain ⟨i, rfl, _⟩ := h
    rfl
  · obtain ⟨i, rfl, q⟩ := h
    refine ⟨_, (pss_one (ps_ret (pe_and (pe_callB (call_isi_K (K := K) rfl) (by rfl) T.n_isinstance (by decide +kernel) (pa_cons (pv 0) (pa_cons (pe_bltn (v := .ty "int") (u := .type "int") (by rfl) T.n_int (by decide +kernel) rfl) pa_nil))) (pe_one (pe_not (pe_callB (call_isi_K (K := K) rfl) (by rfl) T.n_isinstance (by decide +kernel) (pa_cons (pv 0) (pa_cons (pe_bltn (v := .ty "bool") (u := .type "bool") (by rfl) T.n_bool (by decide +kernel) rfl) pa_nil)))))))), ?_⟩
    refine s_ret (v := .bl (true && !false)) (ev_andV (ev_isi (n := "int") (ev_var rfl) (fun _ _ => .base (.int i)) (by decide +kernel)) fun _ => ev_notV (ev_isi (n := "int") (ev_var rfl) (fun _ _ => .base (.int i)) (by decide +kernel))) fun H1 e1 => q _ e1
theorem sv_l_whole {H : Hp} {i : Int} : SpV (sp_l_whole K) [.int i] H (.bl true) := fun H1 e Q q E => ⟨i, rfl, q⟩
end

/-! ### of laws -/
section
variable {K : PySem.W.Frag}
theorem cut_ints (ns : List Int) (lo hi : Option Int) : ∃ ms : List Int, cutV (ns.map V.int) lo hi = ms.map V.int ∧ ms.length ≤ ns.length := by
  refine ⟨(ns.drop (HT.sIx ns.length 0 lo)).take (HT.sIx ns.length ns.length hi - HT.sIx ns.length 0 lo), ?_, ?_⟩
  · unfold cutV
    simp [List.map_take, List.map_drop]
  · rw [List.length_take, List.length_drop]
    omega
theorem mod_here {n : Int} (h : 0 < n) (x : Int) : Here n (x % n) := ⟨Int.emod_nonneg _ (by omega), Int.emod_lt_of_pos _ h⟩
def sp_law (K : PySem.W.Frag) : Sp := fun vs H Q _ => ∃ (a : Addr) (ns : List Int), vs = [.ref a] ∧ SqL K H a (ns.map V.int) ∧ ns.length ≤ 63 ∧ ∀ H', Q (.bl true) H'
end

def mazeF (n : Int) (ds : List Door) (ks : List Key2) : PyData := mazeD n (ds.map doorD) ks
theorem nb_maze (n : Int) (ds : List Door) (ks : List Key2) : nb (mazeF n ds ks) = true := by
  have h1 := nb_doors ds
  have h2 := nb_keys ks
  simp only [mazeF, mazeD, nb, nbAll, Bool.and_eq_true, Bool.and_true, Bool.true_and]
  simp only [nb] at h1 h2
  exact ⟨h1, h2⟩
theorem sh_maze (n : Int) (ds : List Door) (ks : List Key2) : SeqAt.shaped (mazeF n ds ks) = true := shaped_of (nb_maze n ds ks) (by
  have h1 := depth_list (depth_map dep_door ds)
  have h2 := depth_list (depth_map dep_key ks)
  have := depth_tuple (n := 2) (ds := [.int n, .list (ds.map doorD), .list (ks.map keyD)]) (by
    intro d hd
    simp at hd
    rcases hd with rfl | rfl | rfl
    · simp [PyData.depth]
    · omega
    · omega)
  exact Nat.le_trans this (by decide))

section
variable {P : Program} {w : World} {K : PySem.W.Frag} {mg : Str → Option Value} {base : Heap}
/-! ### need_room -/
abbrev cNoRoom (K : PySem.W.Frag) : Value := .ref (He.ga K "NoRoom")
def sp_need_room (K : PySem.W.Frag) : Sp := fun vs H Q E => ∃ (v : V) (n room : Int) (rest : List PyData), vs = [v, .int room] ∧ Dp K H v (.tuple (.int n :: rest)) ∧ (Here n room → ∀ H2, Ex H H2 → Q .non H2) ∧ (¬ Here n room → ∀ H2, Ex H H2 → E (cNoRoom K) none H2)
theorem ok_need_room (T : Txt K mg) : Kept P w K mg base 1 "need_room" ["maze", "room"] (sp_need_room K) := by
  refine T.d_need_room.kept sc_need_room (fun vs H Q E h => ?_) (fun cdv A outer s H vs Q E hr h => ?_)
  · obtain ⟨v, n, room, rest, rfl, _⟩ := h
    rfl
  · obtain ⟨v, n, room, rest, rfl, hv, q, qe⟩ := h
    refine ⟨_, (pss_one (ps_if (PW.pt (pw_or (pt_cmpR op_lt (pv 1) pe_int (nomark _)) (pw_or1 (pt_cmpR op_ge (pv 1) (pe_ix (ix_tup_K (K := K) rfl) (pv 0) pe_int (fun _ _ => rfl)) (nomark _)))))
        (pss_one (ps_raise rfl (takes_of rfl rfl rfl rfl) (pmk_own PySem.F.excBase_ValueError T.e_NoRoom.xC T.e_NoRoom.gC T.e_NoRoom.kC (raises_own T.e_NoRoom.bC T.e_NoRoom.tC) rfl)))
        pss_nil)), ?_⟩
    refine s_when (b := decide (room < 0) || decide (n ≤ room)) (et_or (et_test (ev_op (ev_var rfl) ev_c rv_I0)) fun _ => et_test (ev_op (ev_var rfl) (ev_of_ed (ed_ixT (ed_any (ev_var rfl) hv) ev_c atI0)) rv_I0)) (fun hb H1 e1 => ?_) (fun hb H1 e1 => ?_)
    · refine qe (fun z => ?_) H1 e1
      obtain ⟨z1, z2⟩ := z
      simp at hb
      omega
    · refine q ?_ H1 e1
      simp at hb
      exact ⟨by omega, by omega⟩
end

section
variable {P : Program} {w : World} {K : PySem.W.Frag} {mg : Str → Option Value} {base : Heap}
/-! ### taken -/
def sp_taken (K : PySem.W.Frag) : Sp := fun vs H Q E => ∃ (v hv : V) (n room : Int) (dd : List PyData) (ks : List Key2) (held : List Int), vs = [v, .int room, hv] ∧ Dp K H v (mazeD n dd ks) ∧ Dp K H hv (intsD held) ∧ (Here n room → ∀ v H2, Ex H H2 → Td H2 v (intsD (takenF ks room held)) → Q v H2) ∧ (¬ Here n room → ∀ H2, Ex H H2 → E (cNoRoom K) none H2)
theorem taken_data (ks : List Key2) (room : Int) (held : List Int) : ((List.range (5 : Int).toNat).filter fun (i : Nat) => decide ((i : Int) ∈ held) || ((ks.map keyD).any fun z => PyData.eqv z (keyD (room, (i : Int))))).map (fun (i : Nat) => PyData.int (i : Int)) = (takenF ks room held).map PyData.int := by
  rw [show (5 : Int).toNat = 5 from rfl, kindsOf_data]
  unfold takenF
  congr 2
  funext i
  rw [any_key]
theorem ok_taken (T : Txt K mg) : Kept P w K mg base 2 "taken" ["maze", "room", "held"] (sp_taken K) := by
  refine T.d_taken.kept sc_taken (fun vs H Q E h => ?_) (fun cdv A outer s H vs Q E hr h => ?_)
  · obtain ⟨v, hv, n, room, dd, ks, held, rfl, _⟩ := h
    rfl
  · obtain ⟨v, hv, n, room, dd, ks, held, rfl, hm, hh, q, qe⟩ := h
    refine ⟨_, (pss_cons (ps_expr (pe_fn (ok_need_room (K := K) T) (hr.mono (by decide)) (passR (takes_of rfl rfl rfl rfl)) (by rfl) (pa_cons (pv 0) (pa_cons (pv 1) pa_nil))))
      (pss_one (ps_ret (pe_callTy (call_tuple_of_K (K := K) rfl) (by rfl) T.n_tuple (by decide +kernel) (pa_cons (pe_lc (own := [("kind", 3)]) (g := gName 3) rfl sc_taken.nd (pi_range1 (by rfl) T.n_range (pa_cons (pe_gint T.i_KINDS (by rfl)) pa_nil)) (blkOk_by (own := [("kind", 3)]) (N := ["maze", "room", "held", "kind"]) (sc := defScope s_taken) (by decide +kernel)) (fun _ _ _ _ _ => (pg_name (i := 3) sc_taken.nd rfl (Or.inl rfl))) (fun _ _ _ _ _ => pts_one (PW.pt (pw_or (pt_cmpR (op_in_seq_K (K := K) rfl) (pv 3) (pv 2) (by rfl)) (pw_or1 (pt_cmpR (op_inD_K (K := K) rfl (u65 hr)) (pe_tup (pa_cons (pv 1) (pa_cons (pv 3) pa_nil))) (pe_ix (ix_tup_K (K := K) rfl) (pv 0) pe_int (fun _ _ => rfl)) (by rfl)))))) (fun _ _ _ _ _ => (pv 3))) pa_nil))))), ?_⟩
    refine ⟨_, rfl, _, rfl, v, n, room, _, rfl, hm, fun hr1 H1 e1 => ?_, qe⟩
    have hm1 := dp_ex e1 hm
    have hh1 := dp_ex e1 hh
    dsimp only
    refine s_retP (P := fun v H' => Td H' v (intsD (takenF ks room held))) ?_ ?_
    rotate_left
    · exact fun v H2 e2 p => q hr1 v H2 (e1.trans e2) p
    unfold intsD
    rw [← taken_data]
    refine td_tupleL (lt_lcR1 (n := 5) (fun (i : Nat) => decide ((i : Int) ∈ held) || ((ks.map keyD).any fun z => PyData.eqv z (keyD (room, (i : Int))))) (fun (i : Nat) => PyData.int (i : Int)) (ea_cons ev_c ea_nil) (by decide) (fun x => rfl) (fun i H2 e2 hi => ?_) (fun i H2 e2 hi _ => td_int (ev_var rfl)))
    refine et_or (et_test (ev_inI (ev_var rfl) (.inl (ed_any (ev_var rfl) (dp_ex e2 hh1))))) fun _ => ?_
    exact et_test (ev_inD (ed_td (td_tup (ea_tc (td_int (ev_var rfl)) (ea_tc (td_int (ev_var rfl)) ea_tn)) (by simp))) (ed_ixT (ed_any (ev_var rfl) (dp_ex e2 hm1)) ev_c rfl) (sh_key _) (sh_keys ks))
end

/-! ### doors that open -/
def opensF (d : Door) (held : List Int) : Bool := match d.2.2 with
  | none => true
  | some k => decide (k ∈ held)
section
variable {P : Program} {w : World} {K : PySem.W.Frag} {mg : Str → Option Value} {base : Heap}
def sp_opens (K : PySem.W.Frag) : Sp := fun vs H Q _ => ∃ (v hv : V) (d : Door) (held : List Int), vs = [v, hv] ∧ Dp K H v (doorD d) ∧ Dp K H hv (intsD held) ∧ ∀ H2, Ex H H2 → Q (.bl (opensF d held)) H2
/-- l is None or l in held -/
theorem ev_open {σ : L2.St} {H : Hp} {t1 t2 t3 : TE} {l : Option Int} {d1 d2 : Int} {held : List Int} (h1 : EvD K t1 σ H (lockD l)) (h2 : EvD K t2 σ H (lockD l)) (h3 : EvD K t3 σ H (intsD held)) : Ev (tOrV (tOp (fun x y H Q => y = .non ∧ Q (.bl (decide (x = .non))) H) t1 (tC .non)) (tOp (rIn K false) t2 t3)) σ H (.bl (opensF (d1, d2, l) held)) := by
  cases l with
  | none => exact ev_is (ev_orV (b := true) (ev_isN (ev_of_edN h1)) (fun z => by simp at z)) (by simp [opensF])
  | some k => exact ev_is (ev_orV (ev_isN (ev_of_ed h1)) (fun _ => ev_inI (ev_of_ed h2) (.inl h3))) (by simp [opensF])
theorem et_open {σ : L2.St} {H : Hp} {t1 t2 t3 : TE} {l : Option Int} {d1 d2 : Int} {held : List Int} (h1 : EvD K t1 σ H (lockD l)) (h2 : EvD K t2 σ H (lockD l)) (h3 : EvD K t3 σ H (intsD held)) : EvT (tOr (tTest (tOp (fun x y H Q => y = .non ∧ Q (.bl (decide (x = .non))) H) t1 (tC .non))) (tTest (tOp (rIn K false) t2 t3))) σ H (opensF (d1, d2, l) held) := by
  cases l with
  | none =>
    have h := et_or (b := true) (u := tTest (tOp (rIn K false) t2 t3)) (et_test (ev_isN (ev_of_edN h1))) (fun z => by simp at z)
    simpa [opensF] using h
  | some k =>
    have h := et_or (et_test (ev_isN (ev_of_ed h1))) (fun _ => et_test (ev_inI (ev_of_ed h2) (.inl h3)))
    simpa [opensF] using h
theorem ok_opens (T : Txt K mg) : Kept P w K mg base 1 "opens" ["door", "held"] (sp_opens K) := by
  refine T.d_opens.kept sc_opens (fun vs H Q E h => ?_) (fun cdv A outer s H vs Q E hr h => ?_)
  · obtain ⟨v, hv, d, held, rfl, _⟩ := h
    rfl
  · obtain ⟨v, hv, ⟨d1, d2, l⟩, held, rfl, hd, hh, q⟩ := h
    refine ⟨_, (pss_one (ps_ret (pe_or (pe_cmpR op_isN (pe_ix (ix_tup_K (K := K) rfl) (pv 0) pe_int (fun _ _ => rfl)) pe_non (nomark _)) (pe_one (pe_cmpR (op_in_seq_K (K := K) rfl) (pe_ix (ix_tup_K (K := K) rfl) (pv 0) pe_int (fun _ _ => rfl)) (pv 1) (by rfl)))))), ?_⟩
    exact s_ret (ev_open (d1 := d1) (d2 := d2) (ed_ixT (ed_any (ev_var rfl) hd) ev_c atI2) (ed_ixT (ed_any (ev_var rfl) hd) ev_c atI2) (ed_any (ev_var rfl) hh)) fun H2 e2 => q H2 e2
theorem sv_opens {H : Hp} {v hv : V} {d : Door} {held : List Int} (h1 : Dp K H v (doorD d)) (h2 : Dp K H hv (intsD held)) : SpV (sp_opens K) [v, hv] H (.bl (opensF d held)) := fun H1 e Q q E => ⟨v, hv, d, held, rfl, dp_ex e h1, dp_ex e h2, q⟩
theorem td_takenC {σ : L2.St} {H : Hp} {tr : TA} {E : XK} {v hv : V} {n room : Int} {dd : List PyData} {ks : List Key2} {held : List Int} (h : EvA tr σ H [v, .int room, hv]) (hm : Dp K H v (mazeD n dd ks)) (hh : Dp K H hv (intsD held)) (hr : Here n room) : EvTd (tCall (sp_taken K) [] E tr) σ H (intsD (takenF ks room held)) := fun H1 e Q q => h H1 e _ fun H2 e2 => ⟨v, hv, n, room, dd, ks, held, rfl, dp_ex (e.trans e2) hm, dp_ex (e.trans e2) hh, fun _ v H3 e3 p => q v H3 (e2.trans e3) p, fun z => absurd hr z⟩
end

section
variable {P : Program} {w : World} {K : PySem.W.Frag} {mg : Str → Option Value} {base : Heap}
/-! ### the keys taken, as the law has it -/
def sp_l_taken (K : PySem.W.Frag) : Sp := fun vs H Q _ => ∃ (v hv : V) (room : Int) (ks : List Key2) (held : List Int), vs = [v, .int room, hv] ∧ Dp K H v (.list (ks.map keyD)) ∧ Dp K H hv (intsD held) ∧ ∀ v H2, Ex H H2 → Td H2 v (intsD (takenF ks room held)) → Q v H2
theorem ok_l_taken (T : Txt K mg) : Kept P w K mg base 1 "_law_taken" ["_law_lying_here", "_law_room", "_law_held"] (sp_l_taken K) := by
  refine T.d_l_taken.kept sc_l_taken (fun vs H Q E h => ?_) (fun cdv A outer s H vs Q E hr h => ?_)
  · obtain ⟨v, hv, room, ks, held, rfl, _⟩ := h
    rfl
  · obtain ⟨v, hv, room, ks, held, rfl, hm, hh, q⟩ := h
    refine ⟨_, (pss_cons (ps_setLc (i := 3) (own := [("_law_kind", 4)]) (g := gName 4) rfl sc_l_taken.nd rfl rfl (sw_true rfl rfl rfl (by decide +kernel)) (pi_range1 (by rfl) T.n_range (pa_cons pe_int pa_nil)) (blkOk_by (own := [("_law_kind", 4)]) (N := ["_law_lying_here", "_law_room", "_law_held", "_law_made", "_law_kind"]) (sc := defScope s_l_taken) (by decide +kernel)) (fun _ _ _ _ _ => (pg_name (i := 4) sc_l_taken.nd rfl (Or.inl rfl))) (fun _ _ _ _ _ => pts_one (PW.pt (pw_or (pt_cmpR (op_in_seq_K (K := K) rfl) (pv 4) (pv 2) (by rfl)) (pw_or1 (pt_cmpR (op_inD_K (K := K) rfl (u65 hr)) (pe_tup (pa_cons (pv 1) (pa_cons (pv 4) pa_nil))) (pv 0) (by rfl)))))) (fun _ _ _ _ _ => (pv 4)))
      (pss_one (ps_ret (pe_callTy (call_tuple_of_K (K := K) rfl) (by rfl) T.n_tuple (by decide +kernel) (pa_cons (pv 3) pa_nil))))), ?_⟩
    refine q_asgLT (ds := (takenF ks room held).map PyData.int) ?_ fun l H1 nl e1 hl => ?_
    · rw [← taken_data]
      refine lt_lcR1 (n := 5) (fun (i : Nat) => decide ((i : Int) ∈ held) || ((ks.map keyD).any fun z => PyData.eqv z (keyD (room, (i : Int))))) (fun (i : Nat) => PyData.int (i : Int)) (ea_cons ev_c ea_nil) (by decide) (fun x => rfl) (fun i H2 e2 hi => ?_) (fun i H2 e2 hi _ => td_int (ev_var rfl))
      refine et_or (et_test (ev_inI (ev_var rfl) (.inl (ed_any (ev_var rfl) (dp_ex e2 hh))))) fun _ => ?_
      exact et_test (ev_inD (ed_td (td_tup (ea_tc (td_int (ev_var rfl)) (ea_tc (td_int (ev_var rfl)) ea_tn)) (by simp))) (ed_any (ev_var rfl) (dp_ex e2 hm)) (sh_key _) (sh_keys ks))
    · exact s_retP (td_tupleV (ev_var rfl) hl) fun v H2 e2 p => q v H2 (e1.trans e2) p
theorem td_l_takenC {σ : L2.St} {H : Hp} {tr : TA} {E : XK} {v hv : V} {room : Int} {ks : List Key2} {held : List Int} (h : EvA tr σ H [v, .int room, hv]) (hm : Dp K H v (.list (ks.map keyD))) (hh : Dp K H hv (intsD held)) : EvTd (tCall (sp_l_taken K) [] E tr) σ H (intsD (takenF ks room held)) := fun H1 e Q q => h H1 e _ fun H2 e2 => ⟨v, hv, room, ks, held, rfl, dp_ex (e.trans e2) hm, dp_ex (e.trans e2) hh, fun v H3 e3 p => q v H3 (e2.trans e3) p⟩
end

/-! ### kinds, in plain -/
theorem kindsOf_lt (p : Nat → Bool) : (kindsOf p).Pairwise (· < ·) := by
  unfold kindsOf
  exact List.Pairwise.map _ (fun a b h => Int.ofNat_lt.mpr h) (List.Pairwise.filter _ List.pairwise_lt_range)
theorem mem_kindsOf {p : Nat → Bool} {x : Int} : x ∈ kindsOf p ↔ ∃ i : Nat, i < 5 ∧ p i = true ∧ x = (i : Int) := by
  unfold kindsOf
  simp only [List.mem_map, List.mem_filter, List.mem_range]
  constructor
  · rintro ⟨i, ⟨h1, h2⟩, rfl⟩
    exact ⟨i, h1, h2, rfl⟩
  · rintro ⟨i, h1, h2, rfl⟩
    exact ⟨i, ⟨h1, h2⟩, rfl⟩
theorem mem_kinds {p : Nat → Bool} {i : Nat} (h : i < 5) : (i : Int) ∈ kindsOf p ↔ p i = true := by
  rw [mem_kindsOf]
  constructor
  · rintro ⟨j, h1, h2, h3⟩
    have : i = j := by omega
    subst this
    exact h2
  · intro z
    exact ⟨i, h, z, rfl⟩
theorem kindsOf_congr {p q : Nat → Bool} (h : ∀ i, i < 5 → p i = q i) : kindsOf p = kindsOf q := by
  unfold kindsOf
  congr 1
  exact List.filter_congr fun i hi => h i (List.mem_range.mp hi)
theorem nodup_of_lt {l : List Int} (h : l.Pairwise (· < ·)) : l.Nodup := h.imp fun h => by omega
theorem le_of_lt_ {l : List Int} (h : l.Pairwise (· < ·)) : l.Pairwise (· ≤ ·) := h.imp fun h => by omega
/-- no more of them than there are -/
theorem nodup_sub_len {α : Type} [DecidableEq α] : ∀ {l m : List α}, l.Nodup → (∀ x ∈ l, x ∈ m) → l.length ≤ m.length
  | [], m, _, _ => by simp
  | a :: r, m, h, s => by
    have h1 := List.nodup_cons.mp h
    have ha : a ∈ m := s a (by simp)
    have h2 := nodup_sub_len (m := m.erase a) h1.2 fun x hx => by
      have hne : x ≠ a := fun z => h1.1 (by rw [← z]; exact hx)
      exact (List.mem_erase_of_ne hne).mpr (s x (by simp [hx]))
    rw [List.length_erase_of_mem ha] at h2
    have h3 : 0 < m.length := List.length_pos_of_mem ha
    simp only [List.length_cons]
    omega
def upTo (n : Int) : List Int := (List.range n.toNat).map fun (i : Nat) => (i : Int)
theorem mem_upTo {n x : Int} : x ∈ upTo n ↔ Here n x := by
  unfold upTo
  simp only [List.mem_map, List.mem_range]
  constructor
  · rintro ⟨i, h, rfl⟩
    exact ⟨by omega, by omega⟩
  · rintro ⟨h1, h2⟩
    exact ⟨x.toNat, by omega, by omega⟩
theorem upTo_len (n : Int) : (upTo n).length = n.toNat := by simp [upTo]
theorem here_len {n : Int} {l : List Int} (hd : l.Nodup) (h : ∀ x ∈ l, Here n x) : l.length ≤ n.toNat := by
  have := nodup_sub_len (m := upTo n) hd fun x hx => mem_upTo.mpr (h x hx)
  rw [upTo_len] at this
  exact this
theorem takenF_mem {ks : List Key2} {room : Int} {held : List Int} {i : Nat} (h : i < 5) : (i : Int) ∈ takenF ks room held ↔ (i : Int) ∈ held ∨ (room, (i : Int)) ∈ ks := by
  unfold takenF
  rw [mem_kinds h]
  simp

/-! ### how the mazes are built -/
def SizeOk (f n : Int) : Prop := 1 ≤ n ∧ n ≤ 60 ∧ (f % 12 = 4 → 40 ≤ n) ∧ (f % 12 = 10 → 20 ≤ n ∧ n ≤ 40) ∧ (f % 12 = 7 → 12 ≤ n) ∧ (f % 12 = 5 → 8 ≤ n) ∧ (f % 12 = 9 → 15 ≤ n) ∧ (f % 12 = 6 ∨ f % 12 = 8 → 11 ≤ n ∧ n ≤ 23) ∧ (f % 6 = 2 → 2 ≤ n) ∧ (f % 6 = 3 → 2 ≤ n ∧ (f % 12 = 9 ∨ n ≤ 6))
def lockOk : Option Int → Bool
  | none => true
  | some k => decide (0 ≤ k) && decide (k < 5)
def WfD (n : Int) (d : Door) : Prop := Here n d.1 ∧ Here n d.2.1 ∧ lockOk d.2.2 = true
def DoorsOk (n : Int) (ds : List Door) : Prop := (∀ d ∈ ds, WfD n d) ∧ ds.length ≤ 1000
def KeysOk (n : Int) (ks : List Key2) : Prop := (∀ k ∈ ks, Here n k.1 ∧ Here 5 k.2) ∧ ks.length ≤ 100
theorem lockOk_getD {ls : List (Option Int)} (h : ls.all lockOk = true) (i : Nat) : lockOk (ls.getD i none) = true := by
  rw [List.getD_eq_getElem?_getD]
  cases e : ls[i]? with
  | none => rfl
  | some l =>
    have := List.all_eq_true.mp h l (List.mem_of_getElem? e)
    exact this
theorem wfd_append {n : Int} {ds : List Door} {d : Door} (h : ∀ d ∈ ds, WfD n d) (hd : WfD n d) : ∀ x ∈ ds ++ [d], WfD n x := fun x hx => by
  rcases List.mem_append.mp hx with h1 | h1
  · exact h x h1
  · simp at h1
    subst h1
    exact hd
section
variable {P : Program} {w : World} {K : PySem.W.Frag} {mg : Str → Option Value} {base : Heap}
/-- an item of a written list of locks -/
theorem td_ixLocks {σ : L2.St} {H : Hp} {tr : TA} {tb : TE} {ls : List (Option Int)} {i : Int} (h : EaTd tr σ H (ls.map lockD)) (hb : Ev tb σ H (.int i)) (h0 : 0 ≤ i) (h1 : i < (ls.length : Int)) (hl : ls.length ≤ 100000 := by first | decide | simp) : EvTd (tOp (rIxL K) (tLst tr) tb) σ H (lockD (ls.getD i.toNat none)) := by
  refine td_ixL (lt_lst h (by rw [List.length_map]; exact hl)) hb ?_
  have hl2 : i.toNat < ls.length := by omega
  have := at0 (ds := ls.map lockD) (j := i.toNat) (d := lockD (ls.getD i.toNat none)) (by rw [List.getElem?_map, List.getD_eq_getElem?_getD, List.getElem?_eq_getElem hl2]; rfl)
  rw [show ((i.toNat : Nat) : Int) = i by omega] at this
  exact this
theorem td_ixLocksV {σ : L2.St} {H : Hp} {ta tb : TE} {l : Addr} {ls : List (Option Int)} {i : Int} (ha : Ev ta σ H (.ref l)) (hl : LstT H l (ls.map lockD)) (hb : Ev tb σ H (.int i)) (h0 : 0 ≤ i) (h1 : i < (ls.length : Int)) : EvTd (tOp (rIxL K) ta tb) σ H (lockD (ls.getD i.toNat none)) := by
  refine td_ixLV ha hl hb ?_
  have hl2 : i.toNat < ls.length := by omega
  have := at0 (ds := ls.map lockD) (j := i.toNat) (d := lockD (ls.getD i.toNat none)) (by rw [List.getElem?_map, List.getD_eq_getElem?_getD, List.getElem?_eq_getElem hl2]; rfl)
  rw [show ((i.toNat : Nat) : Int) = i by omega] at this
  exact this
theorem td_door {σ : L2.St} {H : Hp} {t1 t2 t3 : TE} {a b : Int} {l : Option Int} (h1 : Ev t1 σ H (.int a)) (h2 : Ev t2 σ H (.int b)) (h3 : EvTd t3 σ H (lockD l)) : EvTd (tTup (tCons t1 (tCons t2 (tCons t3 tNil)))) σ H (doorD (a, b, l)) := td_tup (ea_tc (td_int h1) (ea_tc (td_int h2) (ea_tc h3 ea_tn))) (by simp)
theorem td_key {σ : L2.St} {H : Hp} {t1 t2 : TE} {a b : Int} (h1 : Ev t1 σ H (.int a)) (h2 : Ev t2 σ H (.int b)) : EvTd (tTup (tCons t1 (tCons t2 tNil))) σ H (keyD (a, b)) := td_tup (ea_tc (td_int h1) (ea_tc (td_int h2) ea_tn)) (by simp)
theorem td_lock0 {σ : L2.St} {H : Hp} {te : TE} (h : Ev te σ H .non) : EvTd te σ H (lockD none) := td_non h
theorem td_lock1 {σ : L2.St} {H : Hp} {te : TE} {i : Int} (h : Ev te σ H (.int i)) : EvTd te σ H (lockD (some i)) := td_int h
theorem ev_intB {σ : L2.St} {H : Hp} {ta : TE} {b : Bool} (h : Ev ta σ H (.bl b)) : Ev (tCB (fun xs H Q => (∃ i, xs = [.int i] ∧ Q (.int i) H) ∨ ∃ k, xs = [.bl k] ∧ Q (.int (if k then 1 else 0)) H) (tCons ta tNil)) σ H (.int (if b then 1 else 0)) := fun H1 e Q q => h H1 e _ fun H2 e2 => .inr ⟨b, rfl, q H2 e2⟩
theorem ev_min2 {σ : L2.St} {H : Hp} {ta tb : TE} {i j : Int} (ha : Ev ta σ H (.int i)) (hb : Ev tb σ H (.int j)) : Ev (tCB (fun xs H Q => ∃ i j, xs = [.int i, .int j] ∧ Q (.int (if j < i then j else i)) H) (tCons ta (tCons tb tNil))) σ H (.int (if j < i then j else i)) := fun H1 e Q q => ha H1 e _ fun H2 e2 => hb H2 (e.trans e2) _ fun H3 e3 => ⟨i, j, rfl, q H3 (e2.trans e3)⟩
theorem ev_in2 {σ : L2.St} {H : Hp} {ta : TE} {i a b : Int} (h : Ev ta σ H (.int i)) : Ev (tOp (rIn K false) ta (tTup (tCons (tC (.int a)) (tCons (tC (.int b)) tNil)))) σ H (.bl (decide (i ∈ [a, b]))) := ev_inW h (td_tup (ds := [.int a, .int b]) (ea_tc (td_int ev_c) (ea_tc (td_int ev_c) ea_tn)) (by simp))
theorem ev_ni2 {σ : L2.St} {H : Hp} {ta : TE} {i a b : Int} (h : Ev ta σ H (.int i)) : Ev (tOp (rIn K true) ta (tTup (tCons (tC (.int a)) (tCons (tC (.int b)) tNil)))) σ H (.bl (!decide (i ∈ [a, b]))) := ev_niW h (td_tup (ds := [.int a, .int b]) (ea_tc (td_int ev_c) (ea_tc (td_int ev_c) ea_tn)) (by simp))
/-! ### the size -/
def sp_l_size (K : PySem.W.Frag) : Sp := fun vs H Q _ => ∃ (a : Addr) (ns : List Int), vs = [.ref a] ∧ SqL K H a (ns.map V.int) ∧ ∀ n, SizeOk (cellAt ns 0) n → ∀ H2, Ex H H2 → Q (.int n) H2
theorem ok_l_size (T : Txt K mg) : Kept P w K mg base 2 "_law_size" ["_law_script"] (sp_l_size K) := by
  refine T.d_l_size.kept sc_l_size (fun vs H Q E h => ?_) (fun cdv A outer s H vs Q E hr h => ?_)
  · obtain ⟨a, ns, rfl, _⟩ := h
    rfl
  · obtain ⟨a, ns, rfl, hS, q⟩ := h
    refine ⟨_, (pss_cons (ps_set (i := 1) sc_l_size.nd rfl (Or.inl rfl) (pe_fn (ok_l_cell_at (K := K) T) (hr.mono (by decide)) passL (by rfl) (pa_cons (pv 0) (pa_cons pe_int pa_nil))))
      (pss_cons (ps_set (i := 2) sc_l_size.nd rfl (Or.inl rfl) (pe_fn (ok_l_mix (K := K) T) (hr.mono (by decide)) passL (by rfl) (pa_cons (pv 1) (pa_cons pe_int pa_nil))))
      (pss_cons (ps_if (pt_cmpR op_eq (pe_op op_mod (pv 1) pe_int) pe_int (nomark _))
        (pss_one (ps_ret (pe_op op_add pe_int (pe_op op_mod (pv 2) pe_int))))
        pss_nil)
      (pss_cons (ps_if (pt_cmpR op_eq (pe_op op_mod (pv 1) pe_int) pe_int (nomark _))
        (pss_one (ps_ret (pe_op op_add pe_int (pe_op op_mod (pv 2) pe_int))))
        pss_nil)
      (pss_cons (ps_if (pt_cmpR op_eq (pe_op op_mod (pv 1) pe_int) pe_int (nomark _))
        (pss_one (ps_ret (pe_op op_add pe_int (pe_op op_mod (pv 2) pe_int))))
        pss_nil)
      (pss_cons (ps_if (pt_cmpR op_eq (pe_op op_mod (pv 1) pe_int) pe_int (nomark _))
        (pss_one (ps_ret (pe_op op_add pe_int (pe_op op_mod (pv 2) pe_int))))
        pss_nil)
      (pss_cons (ps_if (pt_cmpR op_eq (pe_op op_mod (pv 1) pe_int) pe_int (nomark _))
        (pss_one (ps_ret (pe_op op_add pe_int (pe_op op_mod (pv 2) pe_int))))
        pss_nil)
      (pss_cons (ps_if (pt_cmpR (op_in_seq_K (K := K) rfl) (pe_op op_mod (pv 1) pe_int) (pe_tup (pa_cons pe_int (pa_cons pe_int pa_nil))) (by rfl))
        (pss_one (ps_ret (pe_ix (ix_list_K (K := K) rfl) (pe_lst (pa_cons pe_int (pa_cons pe_int (pa_cons pe_int pa_nil)))) (pe_op op_mod (pv 2) pe_int) (fun _ _ => rfl))))
        pss_nil)
      (pss_cons (ps_set (i := 3) sc_l_size.nd rfl (Or.inl rfl) (pe_lst (pa_cons pe_int (pa_cons pe_int (pa_cons pe_int (pa_cons pe_int (pa_cons pe_int (pa_cons pe_int pa_nil))))))))
      (pss_one (ps_ret (pe_op op_add (pe_op op_add pe_int (pe_op op_mod (pv 2) (pe_ix (ix_list_K (K := K) rfl) (pv 3) (pe_op op_mod (pv 1) pe_int) (fun _ _ => rfl)))) (pe_callTy call_int1 (by rfl) T.n_int (by decide +kernel) (pa_cons (pe_cmpR (op_in_seq_K (K := K) rfl) (pe_op op_mod (pv 1) pe_int) (pe_tup (pa_cons pe_int (pa_cons pe_int pa_nil))) (by rfl)) pa_nil)))))))))))))), ?_⟩
    obtain ⟨f, ef⟩ : ∃ f, cellAt ns 0 = f := ⟨_, rfl⟩
    rw [ef] at q
    refine q_asg (v := .int f) ?_ fun H1 e1 => ?_
    · rw [← ef]
      exact ev_call0 (ea_cons (ev_var rfl) (ea_cons ev_c ea_nil)) (sv_l_cell_at hS (by decide))
    obtain ⟨m, em⟩ : ∃ m, mix f 0 = m := ⟨_, rfl⟩
    have hm0 : 0 ≤ m := by rw [← em]; exact mix_pos _ _
    refine q_asg (v := .int m) ?_ fun H2 e2 => ?_
    · rw [← em]
      exact ev_call0 (ea_cons (ev_var rfl) (ea_cons ev_c ea_nil)) sv_l_mix
    have e12 := e1.trans e2
    refine q_when (b := decide (f % 12 = 4)) (by walk_at "mz ev") (fun hb H3 e3 => s_ret (v := .int (40 + m % 21)) (by walk_at "mz ev") fun H4 e4 => q _ ?_ H4 ((e12.trans e3).trans e4)) (fun hb H3 e3 => ?_)
    · have := of_decide_eq_true hb
      unfold SizeOk
      omega
    refine q_when (b := decide (f % 12 = 10)) (by walk_at "mz ev") (fun hb2 H4 e4 => s_ret (v := .int (20 + m % 21)) (by walk_at "mz ev") fun H5 e5 => q _ ?_ H5 (((e12.trans e3).trans e4).trans e5)) (fun hb2 H4 e4 => ?_)
    · have := of_decide_eq_true hb2
      unfold SizeOk
      omega
    refine q_when (b := decide (f % 12 = 7)) (by walk_at "mz ev") (fun hb3 H5 e5 => s_ret (v := .int (12 + m % 9)) (by walk_at "mz ev") fun H6 e6 => q _ ?_ H6 ((((e12.trans e3).trans e4).trans e5).trans e6)) (fun hb3 H5 e5 => ?_)
    · have := of_decide_eq_true hb3
      unfold SizeOk
      omega
    have e15 := ((e12.trans e3).trans e4).trans e5
    refine q_when (b := decide (f % 12 = 5)) (by walk_at "mz ev") (fun hb4 H6 e6 => s_ret (v := .int (8 + m % 7)) (by walk_at "mz ev") fun H7 e7 => q _ ?_ H7 ((e15.trans e6).trans e7)) (fun hb4 H6 e6 => ?_)
    · have := of_decide_eq_true hb4
      unfold SizeOk
      omega
    refine q_when (b := decide (f % 12 = 9)) (by walk_at "mz ev") (fun hb5 H7 e7 => s_ret (v := .int (15 + m % 16)) (by walk_at "mz ev") fun H8 e8 => q _ ?_ H8 (((e15.trans e6).trans e7).trans e8)) (fun hb5 H7 e7 => ?_)
    · have := of_decide_eq_true hb5
      unfold SizeOk
      omega
    have e17 := (e15.trans e6).trans e7
    simp only [decide_eq_false_iff_not] at hb hb2 hb3 hb4 hb5
    refine q_when (b := decide (f % 12 ∈ [6, 8])) (et_test (ev_in2 (by walk_at "mz ev"))) (fun hb6 H8 e8 => s_ret (v := .int (([11, 17, 23] : List Int).getD (m % 3).toNat 0)) (ev_ixInts (ea_tc (td_int ev_c) (ea_tc (td_int ev_c) (ea_tc (td_int ev_c) ea_tn))) (by walk_at "mz ev") (by omega) (by simp; omega)) fun H9 e9 => q _ ?_ H9 ((e17.trans e8).trans e9)) (fun hb6 H8 e8 => ?_)
    · simp only [decide_eq_true_eq, List.mem_cons, List.not_mem_nil, or_false] at hb6
      rcases (show m % 3 = 0 ∨ m % 3 = 1 ∨ m % 3 = 2 by omega) with h | h | h <;> rw [h] <;> unfold SizeOk <;> simp <;> omega
    simp only [decide_eq_false_iff_not, List.mem_cons, List.not_mem_nil, or_false] at hb6
    refine q_asgLT (ds := ([7, 60, 30, 5, 1, 7] : List Int).map PyData.int) (lt_lst (ea_tc (td_int ev_c) (ea_tc (td_int ev_c) (ea_tc (td_int ev_c) (ea_tc (td_int ev_c) (ea_tc (td_int ev_c) (ea_tc (td_int ev_c) ea_tn)))))) (by simp)) fun p H9 np e9 hp => ?_
    obtain ⟨g, hg, hg2⟩ : ∃ g : Int, ([7, 60, 30, 5, 1, 7] : List Int).getD (f % 6).toNat 0 = g ∧ (0 < g ∧ (f % 6 = 0 → g = 7) ∧ (f % 6 = 1 → g = 60) ∧ (f % 6 = 2 → g = 30) ∧ (f % 6 = 3 → g = 5) ∧ (f % 6 = 4 → g = 1) ∧ (f % 6 = 5 → g = 7)) := by
      refine ⟨_, rfl, ?_⟩
      rcases (show f % 6 = 0 ∨ f % 6 = 1 ∨ f % 6 = 2 ∨ f % 6 = 3 ∨ f % 6 = 4 ∨ f % 6 = 5 by omega) with h | h | h | h | h | h <;> rw [h] <;> simp
    have hix : Ev (tOp (rIxL K) (tVar 3) (tOp (rI (fun x j => 0 < j) fun i j => V.int (i % j)) (tVar 1) (tC (.int 6)))) [some (.ref a), some (.int f), some (.int m), some (.ref p)] H9 (.int g) := by
      have h := td_ixLV (K := K) (σ := [some (.ref a), some (.int f), some (.int m), some (.ref p)]) (ta := tVar 3) (tb := tOp (rI (fun x j => 0 < j) fun i j => V.int (i % j)) (tVar 1) (tC (.int 6))) (d := .int g) (i := f % 6) (ev_var rfl) hp (by walk_at "mz ev") (by
        have h6 : (f % 6).toNat < 6 := by omega
        have h := at0 (ds := ([7, 60, 30, 5, 1, 7] : List Int).map PyData.int) (j := (f % 6).toNat) (d := .int g) (by
          rw [List.getElem?_map, ← hg, List.getD_eq_getElem?_getD, List.getElem?_eq_getElem (by simpa using h6)]
          rfl)
        rw [show (((f % 6).toNat : Nat) : Int) = f % 6 by omega] at h
        exact h)
      exact ev_of_td h
    refine s_ret (v := .int (1 + m % g + if decide (f % 6 ∈ [2, 3]) then 1 else 0)) (ev_op (ev_op ev_c (ev_op (ev_var rfl) hix (rv_I (by omega))) rv_I0) (ev_intB (ev_in2 (by walk_at "mz ev"))) rv_I0) fun H10 e10 => q _ ?_ H10 (((e17.trans e8).trans e9).trans e10)
    have h1 : 0 ≤ m % g := Int.emod_nonneg _ (by omega)
    have h2 : m % g < g := Int.emod_lt_of_pos _ (by omega)
    unfold SizeOk
    by_cases h : f % 6 = 2 ∨ f % 6 = 3
    · have : decide (f % 6 ∈ ([2, 3] : List Int)) = true := by simp [h]
      rw [this, if_pos rfl]
      omega
    · have : decide (f % 6 ∈ ([2, 3] : List Int)) = false := by simp; omega
      rw [this, if_neg (by simp)]
      omega
/-! ### locks -/
def lockF (x : Int) : Option Int := ([none, none, none, some 0, some 1, some 2, some 3, some 4] : List (Option Int)).getD (x % 8).toNat none
theorem lockF_ok (x : Int) : lockOk (lockF x) = true := lockOk_getD (by decide) _
def sp_l_lock (K : PySem.W.Frag) : Sp := fun vs H Q _ => ∃ x : Int, vs = [.int x] ∧ ∀ v H2, Ex H H2 → Td H2 v (lockD (lockF x)) → Q v H2
theorem ok_l_lock (T : Txt K mg) : Kept P w K mg base 1 "_law_lock" ["_law_number"] (sp_l_lock K) := by
  refine T.d_l_lock.kept sc_l_lock (fun vs H Q E h => ?_) (fun cdv A outer s H vs Q E hr h => ?_)
  · obtain ⟨x, rfl, _⟩ := h
    rfl
  · obtain ⟨x, rfl, q⟩ := h
    refine ⟨_, (pss_one (ps_ret (pe_ix (ix_list_K (K := K) rfl) (pe_lst (pa_cons pe_non (pa_cons pe_non (pa_cons pe_non (pa_cons pe_int (pa_cons pe_int (pa_cons pe_int (pa_cons pe_int (pa_cons pe_int pa_nil))))))))) (pe_op op_mod (pv 0) pe_int) (fun _ _ => rfl)))), ?_⟩
    exact s_retP (td_ixLocks (K := K) (ls := [none, none, none, some 0, some 1, some 2, some 3, some 4]) (i := x % 8) (ea_tc (td_lock0 ev_c) (ea_tc (td_lock0 ev_c) (ea_tc (td_lock0 ev_c) (ea_tc (td_lock1 ev_c) (ea_tc (td_lock1 ev_c) (ea_tc (td_lock1 ev_c) (ea_tc (td_lock1 ev_c) (ea_tc (td_lock1 ev_c) ea_tn)))))))) (by walk_at "mz ev") (by omega) (by simp; omega)) fun v H2 e2 p => q v H2 e2 p
theorem td_l_lock {σ : L2.St} {H : Hp} {ta : TE} {x : Int} {E : XK} (h : Ev ta σ H (.int x)) : EvTd (tCall (sp_l_lock K) [] E (tCons ta tNil)) σ H (lockD (lockF x)) := fun H1 e Q q => h H1 e _ fun H2 e2 => ⟨x, rfl, fun v H3 e3 p => q v H3 (e2.trans e3) p⟩
/-! ### ranks -/
def rankF (i n : Int) : Int := if i = n - 1 then (n - 2) / 3 + 1 else (i + 2) / 3
def sp_l_rank (K : PySem.W.Frag) : Sp := fun vs H Q _ => ∃ i n : Int, vs = [.int i, .int n] ∧ ∀ H2, Ex H H2 → Q (.int (rankF i n)) H2
theorem ok_l_rank (T : Txt K mg) : Kept P w K mg base 1 "_law_rank" ["_law_place", "_law_size_here"] (sp_l_rank K) := by
  refine T.d_l_rank.kept sc_l_rank (fun vs H Q E h => ?_) (fun cdv A outer s H vs Q E hr h => ?_)
  · obtain ⟨i, n, rfl, _⟩ := h
    rfl
  · obtain ⟨i, n, rfl, q⟩ := h
    refine ⟨_, (pss_cons (ps_if (pt_cmpR op_eq (pv 0) (pe_op op_sub (pv 1) pe_int) (nomark _))
        (pss_one (ps_ret (pe_op op_add (pe_op op_fdiv (pe_op op_sub (pv 1) pe_int) pe_int) pe_int)))
        pss_nil)
      (pss_one (ps_ret (pe_op op_fdiv (pe_op op_add (pv 0) pe_int) pe_int)))), ?_⟩
    unfold rankF at q
    refine q_when (b := decide (i = n - 1)) (by walk_at "mz ev") (fun hb H1 e1 => ?_) (fun hb H1 e1 => ?_)
    · rw [if_pos (of_decide_eq_true hb)] at q
      exact s_ret (v := .int ((n - 2) / 3 + 1)) (by walk_at "mz ev") fun H2 e2 => q _ (e1.trans e2)
    · rw [if_neg (of_decide_eq_false hb)] at q
      exact s_ret (v := .int ((i + 2) / 3)) (by walk_at "mz ev") fun H2 e2 => q _ (e1.trans e2)
theorem sv_l_rank {H : Hp} {i n : Int} : SpV (sp_l_rank K) [.int i, .int n] H (.int (rankF i n)) := fun H1 e Q q E => ⟨i, n, rfl, q⟩
/-- doors made -/
def spDoors (K : PySem.W.Frag) : Sp := fun vs H Q _ => ∃ f n : Int, vs = [.int f, .int n] ∧ 2 ≤ n ∧ n ≤ 60 ∧ ∀ ds, DoorsOk n ds → ds.length ≤ 900 → ∀ p H2, H p = none → Ex H H2 → LstT H2 p (ds.map doorD) → Q (.ref p) H2
abbrev sp_l_ranks (K : PySem.W.Frag) : Sp := fun vs H Q _ => ∃ f n : Int, vs = [.int f, .int n] ∧ 2 ≤ n ∧ n ≤ 23 ∧ ∀ ds, DoorsOk n ds → ds.length ≤ 900 → ∀ p H2, H p = none → Ex H H2 → LstT H2 p (ds.map doorD) → Q (.ref p) H2
theorem ok_l_ranks (T : Txt K mg) : Kept P w K mg base 2 "_law_ranks" ["_law_first", "_law_size_here"] (sp_l_ranks K) := by
  refine T.d_l_ranks.kept sc_l_ranks (fun vs H Q E h => ?_) (fun cdv A outer s H vs Q E hr h => ?_)
  · obtain ⟨f, n, rfl, _⟩ := h
    rfl
  · obtain ⟨f, n, rfl, hn2, hn23, q⟩ := h
    refine ⟨_, (pss_cons (ps_set (i := 2) sc_l_ranks.nd rfl (Or.inl rfl) (pe_fn (ok_l_mix (K := K) T) (hr.mono (by decide)) passL (by rfl) (pa_cons (pv 0) (pa_cons pe_int pa_nil))))
      (pss_cons (ps_set (i := 3) sc_l_ranks.nd rfl (Or.inl rfl) (pe_op op_add pe_int (pe_op op_mod (pv 2) (pe_op op_sub (pv 1) pe_int))))
      (pss_cons (ps_set (i := 4) sc_l_ranks.nd rfl (Or.inl rfl) (pe_lst pa_nil))
      (pss_cons (ps_for (passes_of rfl) rfl (pi_range1 (by rfl) T.n_range (pa_cons (pv 1) pa_nil)) (pg_name (i := 5) sc_l_ranks.nd rfl (Or.inl rfl))
        (pss_one (ps_for (passes_of rfl) rfl (pi_range1 (by rfl) T.n_range (pa_cons (pv 1) pa_nil)) (pg_name (i := 6) sc_l_ranks.nd rfl (Or.inl rfl))
        (pss_cons (ps_set (i := 7) sc_l_ranks.nd rfl (Or.inl rfl) (pe_fn (ok_l_rank (K := K) T) (hr.mono (by decide)) passL (by rfl) (pa_cons (pv 5) (pa_cons (pv 1) pa_nil))))
      (pss_one (ps_if (pt_cmpR op_eq (pe_fn (ok_l_rank (K := K) T) (hr.mono (by decide)) passL (by rfl) (pa_cons (pv 6) (pa_cons (pv 1) pa_nil))) (pe_op op_add (pv 7) pe_int) (nomark _))
        (pss_cons (ps_set (i := 8) sc_l_ranks.nd rfl (Or.inl rfl) (pe_tup (pa_cons (pe_op op_mod (pe_op op_mul (pv 5) (pv 3)) (pv 1)) (pa_cons (pe_op op_mod (pe_op op_mul (pv 6) (pv 3)) (pv 1)) (pa_cons pe_int pa_nil)))))
      (pss_one (ps_if (PW.pt (pw_or (pt_cmpR op_eq (pv 5) pe_int (nomark _)) (pw_or (pt_cmpR op_eq (pv 6) (pe_op op_sub (pv 1) pe_int) (nomark _)) (pw_or1 (pt_cmpR op_eq (pe_op op_mod (pe_op op_add (pe_op op_add (pe_op op_sub (pv 6) (pv 5)) (pe_op op_fdiv (pv 2) pe_int)) (pe_op op_mul (pv 7) (pv 7))) pe_int) pe_int (nomark _))))))
        (pss_one (ps_expr (pe_bm_K (K := K) rfl PySem.F.plainAttrs_list PySem.F.slot_list_append PySem.F.type_list_append mt_append (pv 4) (pa_cons (pe_tup (pa_cons (pe_ix (ix_tup_K (K := K) rfl) (pv 8) pe_int (fun _ _ => rfl)) (pa_cons (pe_ix (ix_tup_K (K := K) rfl) (pv 8) pe_int (fun _ _ => rfl)) (pa_cons pe_non pa_nil)))) pa_nil))))
        (pss_one (ps_if (pt_cmpR op_eq (pe_op op_mod (pe_op op_add (pe_op op_mul (pv 5) (pv 6)) (pv 2)) pe_int) pe_int (nomark _))
        (pss_one (ps_expr (pe_bm_K (K := K) rfl PySem.F.plainAttrs_list PySem.F.slot_list_append PySem.F.type_list_append mt_append (pv 4) (pa_cons (pv 8) pa_nil))))
        pss_nil)))))
        pss_nil))))))
      (pss_one (ps_ret (pv 4))))))), ?_⟩
    obtain ⟨m, em⟩ : ∃ m, mix f 0 = m := ⟨_, rfl⟩
    have hm0 : 0 ≤ m := by rw [← em]; exact mix_pos _ _
    refine q_asg (v := .int m) ?_ fun H1 e1 => ?_
    · rw [← em]
      exact ev_call0 (ea_cons (ev_var rfl) (ea_cons ev_c ea_nil)) sv_l_mix
    obtain ⟨nm, enm⟩ : ∃ nm, 1 + m % (n - 1) = nm := ⟨_, rfl⟩
    have hnm : 1 ≤ nm ∧ nm ≤ n := by
      have h1 : 0 ≤ m % (n - 1) := Int.emod_nonneg _ (by omega)
      have h2 : m % (n - 1) < n - 1 := Int.emod_lt_of_pos _ (by omega)
      omega
    refine q_asg (v := .int nm) (by rw [← enm]; walk_at "mz ev") fun H2 e2 => ?_
    refine q_asgLT (ds := []) (lt_lst ea_tn (by simp)) fun l H3 nl e3 hl => ?_
    have e12 := e1.trans e2
    have nlH : H l = none := fresh_back e12 nl
    refine q_forR1 (n := n) (ea_cons (ev_var rfl) ea_nil) ⟨by omega, by omega⟩ (fun i σ' H' => Ex H H' ∧ ∃ (y5 y6 y7 y8 : Option V) (ds : List Door), σ' = [some (.int f), some (.int n), some (.int m), some (.int nm), some (.ref l), y5, y6, y7, y8] ∧ LstT H' l (ds.map doorD) ∧ (∀ d ∈ ds, WfD n d) ∧ ds.length ≤ i * 23) (fun H4 e4 => ⟨(e12.trans e3).trans e4, none, none, none, none, [], rfl, hl.ex e4, (fun d hd => by cases hd), by simp⟩) (fun i σ' H' hi hP => ?_) (fun σ' H' hP => ?_)
    · obtain ⟨eH, y5, y6, y7, y8, ds, rfl, hL, hwf, hlen⟩ := hP
      refine s_forR1 (n := n) (ea_cons (ev_var rfl) ea_nil) ⟨by omega, by omega⟩ (fun j σ' H' => Ex H H' ∧ ∃ (y6 y7 y8 : Option V) (ds : List Door), σ' = [some (.int f), some (.int n), some (.int m), some (.int nm), some (.ref l), some (.int i), y6, y7, y8] ∧ LstT H' l (ds.map doorD) ∧ (∀ d ∈ ds, WfD n d) ∧ ds.length ≤ i * 23 + j) (fun H4 e4 => ⟨eH.trans e4, y6, y7, y8, ds, rfl, hL.ex e4, hwf, by omega⟩) (fun j σ' H' hj hP => ?_) (fun σ' H' hP => ?_)
      · obtain ⟨eH, y6, y7, y8, ds, rfl, hL, hwf, hlen⟩ := hP
        have hi23 : i < 23 := by omega
        have hlen2 : ds.length < 900 := by omega
        obtain ⟨rk, erk⟩ : ∃ rk, rankF i n = rk := ⟨_, rfl⟩
        have hrk : 0 ≤ rk ∧ rk ≤ 100 := by
          rw [← erk]
          unfold rankF
          split <;> omega
        refine q_asg (v := .int rk) ?_ fun H4 e4 => ?_
        · rw [← erk]
          exact ev_call0 (ea_cons (ev_var rfl) (ea_cons (ev_var rfl) ea_nil)) sv_l_rank
        refine s_when (b := decide (rankF j n = rk + 1)) (et_test (ev_op (ev_call0 (ea_cons (ev_var rfl) (ea_cons (ev_var rfl) ea_nil)) sv_l_rank) (ev_op (ev_var rfl) ev_c rv_I0) rv_eqI)) (fun hb H5 e5 => ?_) (fun hb H5 e5 => ⟨(eH.trans e4).trans e5, _, _, y8, ds, rfl, hL.ex (e4.trans e5), hwf, by omega⟩)
        have eH5 := (eH.trans e4).trans e5
        have hL5 := hL.ex (e4.trans e5)
        have hd : ∀ l : Option Int, lockOk l = true → WfD n ((i : Int) * nm % n, (j : Int) * nm % n, l) := fun l hl => ⟨mod_here (n := n) (by omega) _, mod_here (n := n) (by omega) _, hl⟩
        refine q_asgP (P := fun v H' => Td H' v (doorD ((i : Int) * nm % n, (j : Int) * nm % n, some 0))) (td_door (by walk_at "mz ev") (by walk_at "mz ev") (td_lock1 ev_c)) fun dv H6 e6 hdv => ?_
        have eH6 := eH5.trans e6
        have hL6 := hL5.ex e6
        refine tif_cases (b := decide ((i : Int) = 0) || (decide ((j : Int) = n - 1) || decide (((j : Int) - (i : Int) + m / 3 + rk * rk) % 3 = 0))) ?_ (fun _ H7 e7 => ?_) (fun _ H7 e7 => ?_)
        · walk_at "mz ev"
        · have hdv7 := hdv.ex e7
          refine s_appT (d := doorD ((i : Int) * nm % n, (j : Int) * nm % n, none)) (hL6.ex e7) (ev_var rfl) (td_door (ev_of_td (td_ixT (td_any (ev_var rfl) hdv7) ev_c atI0)) (ev_of_td (td_ixT (td_any (ev_var rfl) hdv7) ev_c atI1)) (td_lock0 ev_c)) (by rw [List.length_map]; omega) fun H8 xs v e8 hx8 hp8 => ⟨Ex.mut ((eH6.trans e7).trans e8) nlH, _, _, _, ds ++ [((i : Int) * nm % n, (j : Int) * nm % n, none)], rfl, by rw [List.map_append]; exact hp8, wfd_append hwf (hd none rfl), by simp; omega⟩
        · refine s_when (b := decide (((i : Int) * (j : Int) + m) % 4 = 0)) (by walk_at "mz ev") (fun _ H8 e8 => ?_) (fun _ H8 e8 => ⟨(eH6.trans e7).trans e8, _, _, _, ds, rfl, hL6.ex (e7.trans e8), hwf, by omega⟩)
          refine s_appT (d := doorD ((i : Int) * nm % n, (j : Int) * nm % n, some 0)) (hL6.ex (e7.trans e8)) (ev_var rfl) (td_any (ev_var rfl) (hdv.ex (e7.trans e8))) (by rw [List.length_map]; omega) fun H9 xs v e9 hx9 hp9 => ⟨Ex.mut (((eH6.trans e7).trans e8).trans e9) nlH, _, _, _, ds ++ [((i : Int) * nm % n, (j : Int) * nm % n, some 0)], rfl, by rw [List.map_append]; exact hp9, wfd_append hwf (hd (some 0) rfl), by simp; omega⟩
      · obtain ⟨eH, y6, y7, y8, ds, rfl, hL, hwf, hlen⟩ := hP
        exact ⟨eH, _, y6, y7, y8, ds, rfl, hL, hwf, by omega⟩
    · obtain ⟨eH, y5, y6, y7, y8, ds, rfl, hL, hwf, hlen⟩ := hP
      exact s_ret (ev_var rfl) fun H5 e5 => q ds ⟨hwf, by omega⟩ (by omega) l H5 nlH (eH.trans e5) (hL.ex e5)
abbrev sp_l_many (K : PySem.W.Frag) : Sp := spDoors K
theorem ok_l_many (T : Txt K mg) : Kept P w K mg base 2 "_law_many" ["_law_first", "_law_size_here"] (sp_l_many K) := by
  refine T.d_l_many.kept sc_l_many (fun vs H Q E h => ?_) (fun cdv A outer s H vs Q E hr h => ?_)
  · obtain ⟨f, n, rfl, _⟩ := h
    rfl
  · obtain ⟨f, n, rfl, hn2, hn60, q⟩ := h
    refine ⟨_, (pss_cons (ps_set (i := 2) sc_l_many.nd rfl (Or.inl rfl) (pe_fn (ok_l_mix (K := K) T) (hr.mono (by decide)) passL (by rfl) (pa_cons (pv 0) (pa_cons pe_int pa_nil))))
      (pss_cons (ps_set (i := 3) sc_l_many.nd rfl (Or.inl rfl) (pe_lst pa_nil))
      (pss_cons (ps_for (passes_of rfl) rfl (pi_range1 (by rfl) T.n_range (pa_cons (pe_op op_add pe_int (pe_op op_mod (pe_op op_fdiv (pv 2) pe_int) pe_int)) pa_nil)) (pg_name (i := 4) sc_l_many.nd rfl (Or.inl rfl))
        (pss_cons (ps_set (i := 5) sc_l_many.nd rfl (Or.inl rfl) (pe_op op_mod (pv 4) (pe_op op_sub (pv 1) pe_int)))
      (pss_cons (ps_set (i := 6) sc_l_many.nd rfl (Or.inl rfl) (pe_op op_add (pe_op op_mul (pv 5) (pe_op op_add pe_int (pe_op op_mod (pe_op op_fdiv (pv 2) pe_int) pe_int))) (pe_op op_fdiv (pv 2) pe_int)))
      (pss_cut (ps_if (pt_cmpR op_eq (pe_op op_mod (pe_op op_fdiv (pv 4) (pe_op op_sub (pv 1) pe_int)) pe_int) pe_int (nomark _))
        (pss_one (ps_set (i := 6) sc_l_many.nd rfl (Or.inl rfl) (pe_op op_add (pv 6) (pe_op op_mod (pv 2) pe_int))))
        pss_nil)
      (pss_cons (ps_set (i := 6) sc_l_many.nd rfl (Or.inl rfl) (pe_op op_mod (pv 6) pe_int))
      (pss_one (ps_if (pt_cmpR op_eq (pe_op op_mod (pv 4) pe_int) pe_int (nomark _))
        (pss_one (ps_expr (pe_bm_K (K := K) rfl PySem.F.plainAttrs_list PySem.F.slot_list_append PySem.F.type_list_append mt_append (pv 3) (pa_cons (pe_tup (pa_cons (pe_op op_mod (pe_op op_mul (pv 4) (pv 4)) (pv 1)) (pa_cons (pe_op op_mod (pe_op op_mul (pv 4) pe_int) (pv 1)) (pa_cons (pe_ix (ix_list_K (K := K) rfl) (pe_lst (pa_cons pe_int (pa_cons pe_int (pa_cons pe_int (pa_cons pe_int (pa_cons pe_int (pa_cons pe_non pa_nil))))))) (pe_op op_mod (pv 4) pe_int) (fun _ _ => rfl)) pa_nil)))) pa_nil))))
        (pss_one (ps_expr (pe_bm_K (K := K) rfl PySem.F.plainAttrs_list PySem.F.slot_list_append PySem.F.type_list_append mt_append (pv 3) (pa_cons (pe_tup (pa_cons (pv 5) (pa_cons (pe_op op_add (pv 5) pe_int) (pa_cons (pe_ix (ix_list_K (K := K) rfl) (pe_lst (pa_cons pe_int (pa_cons pe_int (pa_cons pe_int (pa_cons pe_int (pa_cons pe_int (pa_cons pe_non pa_nil))))))) (pv 6) (fun _ _ => rfl)) pa_nil)))) pa_nil)))))))))))
      (pss_one (ps_ret (pv 3)))))), ?_⟩
    obtain ⟨m, em⟩ : ∃ m, mix f 0 = m := ⟨_, rfl⟩
    have hm0 : 0 ≤ m ∧ m < 999983 := by rw [← em]; exact ⟨mix_pos _ _, mix_lt _ _⟩
    refine q_asg (v := .int m) ?_ fun H1 e1 => ?_
    · rw [← em]
      exact ev_call0 (ea_cons (ev_var rfl) (ea_cons ev_c ea_nil)) sv_l_mix
    refine q_asgLT (ds := []) (lt_lst ea_tn (by simp)) fun l H3 nl e3 hl => ?_
    have nlH : H l = none := fresh_back e1 nl
    refine q_forR1 (n := 65 + m / 7 % 26) (by walk_at "mz ev") ⟨by omega, by omega⟩ (fun i σ' H' => Ex H H' ∧ ∃ (y4 y5 y6 : Option V) (ds : List Door), σ' = [some (.int f), some (.int n), some (.int m), some (.ref l), y4, y5, y6] ∧ LstT H' l (ds.map doorD) ∧ (∀ d ∈ ds, WfD n d) ∧ ds.length = i) (fun H4 e4 => ⟨(e1.trans e3).trans e4, none, none, none, [], rfl, hl.ex e4, (fun d hd => by cases hd), by simp⟩) (fun i σ' H' hi hP => ?_) (fun σ' H' hP => ?_)
    · obtain ⟨eH, y4, y5, y6, ds, rfl, hL, hwf, hlen⟩ := hP
      obtain ⟨nr, enr⟩ : ∃ nr, (i : Int) % (n - 1) = nr := ⟨_, rfl⟩
      have hnr : 0 ≤ nr ∧ nr < n - 1 := by
        have h1 : 0 ≤ (i : Int) % (n - 1) := Int.emod_nonneg _ (by omega)
        have h2 : (i : Int) % (n - 1) < n - 1 := Int.emod_lt_of_pos _ (by omega)
        omega
      refine q_asg (v := .int nr) (by rw [← enr]; walk_at "mz ev") fun H4 e4 => ?_
      refine q_asg (v := .int (nr * (1 + m / 182 % 5) + m / 910)) (by walk_at "mz ev") fun H5 e5 => ?_
      have eH5 := (eH.trans e4).trans e5
      have hL5 := hL.ex (e4.trans e5)
      refine q_cut (M := fun σ' H' => Ex H H' ∧ ∃ x : Int, σ' = [some (.int f), some (.int n), some (.int m), some (.ref l), some (.int i), some (.int nr), some (.int x)] ∧ LstT H' l (ds.map doorD)) ?_ ?_
      · refine s_when (b := decide ((i : Int) / (n - 1) % 2 = 1)) (by walk_at "mz ev") (fun _ H6 e6 => ?_) (fun _ H6 e6 => ⟨eH5.trans e6, _, rfl, hL5.ex e6⟩)
        exact s_asg (v := .int (nr * (1 + m / 182 % 5) + m / 910 + m % 3)) (by walk_at "mz ev") fun H7 e7 => ⟨(eH5.trans e6).trans e7, _, rfl, hL5.ex (e6.trans e7)⟩
      · rintro σ' H6 ⟨eH6, x, rfl, hL6⟩
        refine q_asg (v := .int (x % 6)) (by walk_at "mz ev") fun H7 e7 => ?_
        have eH7 := eH6.trans e7
        have hL7 := hL6.ex e7
        have hlk : ∀ k : Nat, lockOk (([some 0, some 1, some 2, some 3, some 4, none] : List (Option Int)).getD k none) = true := fun k => lockOk_getD (by decide) k
        have ea : ∀ {σ' : L2.St} {H' : Hp}, EaTd (tCons (tC (.int 0)) (tCons (tC (.int 1)) (tCons (tC (.int 2)) (tCons (tC (.int 3)) (tCons (tC (.int 4)) (tCons (tC .non) tNil)))))) σ' H' (([some 0, some 1, some 2, some 3, some 4, none] : List (Option Int)).map lockD) :=
          ea_tc (td_lock1 ev_c) (ea_tc (td_lock1 ev_c) (ea_tc (td_lock1 ev_c) (ea_tc (td_lock1 ev_c) (ea_tc (td_lock1 ev_c) (ea_tc (td_lock0 ev_c) ea_tn)))))
        refine tif_cases (b := decide ((i : Int) % 13 = 12)) (by walk_at "mz ev") (fun _ H8 e8 => ?_) (fun _ H8 e8 => ?_)
        · refine s_appT (hL7.ex e8) (ev_var rfl) (td_door (a := (i : Int) * i % n) (b := (i : Int) * 3 % n) (by walk_at "mz ev") (by walk_at "mz ev") (td_ixLocks (K := K) (i := (i : Int) % 6) ea (by walk_at "mz ev") (by omega) (by simp; omega))) (by rw [List.length_map]; omega) fun H9 xs v e9 hx9 hp9 => ⟨Ex.mut ((eH7.trans e8).trans e9) nlH, _, _, _, ds ++ [_], rfl, by rw [List.map_append]; exact hp9, wfd_append hwf ⟨mod_here (n := n) (by omega) _, mod_here (n := n) (by omega) _, hlk _⟩, by simp [hlen]⟩
        · refine s_appT (hL7.ex e8) (ev_var rfl) (td_door (a := nr) (b := nr + 1) (by walk_at "mz ev") (by walk_at "mz ev") (td_ixLocks (K := K) (i := x % 6) ea (by walk_at "mz ev") (by omega) (by simp; omega))) (by rw [List.length_map]; omega) fun H9 xs v e9 hx9 hp9 => ⟨Ex.mut ((eH7.trans e8).trans e9) nlH, _, _, _, ds ++ [_], rfl, by rw [List.map_append]; exact hp9, wfd_append hwf ⟨⟨by omega, by omega⟩, ⟨by show 0 ≤ nr + 1; omega, by show nr + 1 < n; omega⟩, hlk _⟩, by simp [hlen]⟩
    · obtain ⟨eH, y4, y5, y6, ds, rfl, hL, hwf, hlen⟩ := hP
      exact s_ret (ev_var rfl) fun H5 e5 => q ds ⟨hwf, by omega⟩ (by omega) l H5 nlH (eH.trans e5) (hL.ex e5)
abbrev sp_l_mixed (K : PySem.W.Frag) : Sp := spDoors K
theorem ok_l_mixed (T : Txt K mg) : Kept P w K mg base 2 "_law_mixed" ["_law_first", "_law_size_here"] (sp_l_mixed K) := by
  refine T.d_l_mixed.kept sc_l_mixed (fun vs H Q E h => ?_) (fun cdv A outer s H vs Q E hr h => ?_)
  · obtain ⟨f, n, rfl, _⟩ := h
    rfl
  · obtain ⟨f, n, rfl, hn2, hn60, q⟩ := h
    refine ⟨_, (pss_cons (ps_set (i := 2) sc_l_mixed.nd rfl (Or.inl rfl) (pe_fn (ok_l_mix (K := K) T) (hr.mono (by decide)) passL (by rfl) (pa_cons (pv 0) (pa_cons pe_int pa_nil))))
      (pss_cons (ps_set (i := 3) sc_l_mixed.nd rfl (Or.inl rfl) (pe_lst pa_nil))
      (pss_cons (ps_for (passes_of rfl) rfl (pi_range1 (by rfl) T.n_range (pa_cons (pe_op op_add pe_int (pe_op op_mod (pe_op op_fdiv (pv 2) pe_int) pe_int)) pa_nil)) (pg_name (i := 4) sc_l_mixed.nd rfl (Or.inl rfl))
        (pss_cons (ps_set (i := 5) sc_l_mixed.nd rfl (Or.inl rfl) (pe_ix (ix_list_K (K := K) rfl) (pe_lst (pa_cons pe_non (pa_cons pe_int (pa_cons pe_non (pa_cons pe_int (pa_cons pe_int (pa_cons pe_non (pa_cons pe_int (pa_cons pe_int pa_nil))))))))) (pe_op op_mod (pe_op op_add (pv 4) (pe_op op_fdiv (pv 2) pe_int)) pe_int) (fun _ _ => rfl)))
      (pss_cons (ps_set (i := 6) sc_l_mixed.nd rfl (Or.inl rfl) (pe_op op_mod (pe_op op_add (pe_op op_mul (pv 4) (pe_op op_add pe_int (pe_op op_mod (pe_op op_fdiv (pv 2) pe_int) pe_int))) (pv 2)) (pv 1)))
      (pss_one (ps_expr (pe_bm_K (K := K) rfl PySem.F.plainAttrs_list PySem.F.slot_list_append PySem.F.type_list_append mt_append (pv 3) (pa_cons (pe_tup (pa_cons (pv 6) (pa_cons (pe_op op_mod (pe_op op_add (pe_op op_mul (pv 4) (pv 4)) (pe_op op_fdiv (pv 2) pe_int)) (pv 1)) (pa_cons (pv 5) pa_nil)))) pa_nil)))))))
      (pss_one (ps_ret (pv 3)))))), ?_⟩
    obtain ⟨m, em⟩ : ∃ m, mix f 0 = m := ⟨_, rfl⟩
    have hm0 : 0 ≤ m ∧ m < 999983 := by rw [← em]; exact ⟨mix_pos _ _, mix_lt _ _⟩
    refine q_asg (v := .int m) ?_ fun H1 e1 => ?_
    · rw [← em]
      exact ev_call0 (ea_cons (ev_var rfl) (ea_cons ev_c ea_nil)) sv_l_mix
    refine q_asgLT (ds := []) (lt_lst ea_tn (by simp)) fun l H3 nl e3 hl => ?_
    have nlH : H l = none := fresh_back e1 nl
    refine q_forR1 (n := 41 + m / 16 % 50) (by walk_at "mz ev") ⟨by omega, by omega⟩ (fun i σ' H' => Ex H H' ∧ ∃ (y4 y5 y6 : Option V) (ds : List Door), σ' = [some (.int f), some (.int n), some (.int m), some (.ref l), y4, y5, y6] ∧ LstT H' l (ds.map doorD) ∧ (∀ d ∈ ds, WfD n d) ∧ ds.length = i) (fun H4 e4 => ⟨(e1.trans e3).trans e4, none, none, none, [], rfl, hl.ex e4, (fun d hd => by cases hd), by simp⟩) (fun i σ' H' hi hP => ?_) (fun σ' H' hP => ?_)
    · obtain ⟨eH, y4, y5, y6, ds, rfl, hL, hwf, hlen⟩ := hP
      refine q_asgP (td_ixLocks (K := K) (ls := [none, some 0, none, some 1, some 2, none, some 3, some 4]) (i := ((i : Int) + m / 800) % 8) (ea_tc (td_lock0 ev_c) (ea_tc (td_lock1 ev_c) (ea_tc (td_lock0 ev_c) (ea_tc (td_lock1 ev_c) (ea_tc (td_lock1 ev_c) (ea_tc (td_lock0 ev_c) (ea_tc (td_lock1 ev_c) (ea_tc (td_lock1 ev_c) ea_tn)))))))) (by walk_at "mz ev") (by omega) (by simp; omega)) fun lv H4 e4 hlv => ?_
      refine q_asg (v := .int (((i : Int) * (1 + m / 6400 % 7) + m) % n)) (by walk_at "mz ev") fun H5 e5 => ?_
      refine s_appT (hL.ex (e4.trans e5)) (ev_var rfl) (td_door (a := ((i : Int) * (1 + m / 6400 % 7) + m) % n) (b := ((i : Int) * i + m / 50) % n) (by walk_at "mz ev") (by walk_at "mz ev") (td_any (ev_var rfl) (hlv.ex e5))) (by rw [List.length_map]; omega) fun H9 xs v e9 hx9 hp9 => ⟨Ex.mut (((eH.trans e4).trans e5).trans e9) nlH, _, _, _, ds ++ [_], rfl, by rw [List.map_append]; exact hp9, wfd_append hwf ⟨mod_here (n := n) (by omega) _, mod_here (n := n) (by omega) _, lockOk_getD (ls := [none, some 0, none, some 1, some 2, none, some 3, some 4]) (by decide) _⟩, by simp [hlen]⟩
    · obtain ⟨eH, y4, y5, y6, ds, rfl, hL, hwf, hlen⟩ := hP
      exact s_ret (ev_var rfl) fun H5 e5 => q ds ⟨hwf, by omega⟩ (by omega) l H5 nlH (eH.trans e5) (hL.ex e5)
end

section
variable {P : Program} {w : World} {K : PySem.W.Frag} {mg : Str → Option Value} {base : Heap}
theorem TdAll.rep {H : Hp} {ds : List PyData} {vs : List V} (h : TdAll H vs ds) : ∀ k : Nat, TdAll H (List.replicate k vs).flatten (List.replicate k ds).flatten
  | 0 => .nil
  | k + 1 => by
    rw [List.replicate_succ, List.replicate_succ, List.flatten_cons, List.flatten_cons]
    exact TdAll.append h (TdAll.rep h k)
theorem lt_rep {σ : L2.St} {H : Hp} {ta tb : TE} {ds : List PyData} {k : Int} (ha : EvLT ta σ H ds) (hb : Ev tb σ H (.int k)) (h1 : -100000 ≤ k ∧ k ≤ 100000) (h2 : ds.length * k.toNat ≤ 100000) : EvLT (tOp rRep ta tb) σ H (List.replicate k.toNat ds).flatten := fun H1 e Q q => ha H1 e _ fun l H2 nl e2 hl => hb H2 (e.trans e2) _ fun H3 e3 => by
  obtain ⟨xs, hx, hd⟩ := hl.ex e3
  exact ⟨l, k, xs, rfl, rfl, hx, by omega, by omega, sz_of (by rw [hd.len]; exact h2), fun p np => q p _ (fresh_back (e2.trans e3) np) ((e2.trans e3).trans (Ex.new np)) ⟨_, upd_same, (hd.rep _).ex (Ex.new np)⟩⟩
theorem doors_map {m : Nat} {g : Nat → Door} : (List.range m).map (fun i => doorD (g i)) = ((List.range m).map g).map doorD := by
  rw [List.map_map]
  rfl
theorem doors_ok {m : Nat} {g : Nat → Door} {n : Int} (h : ∀ i, i < m → WfD n (g i)) (hm : m ≤ 900) : DoorsOk n ((List.range m).map g) ∧ ((List.range m).map g).length ≤ 900 := by
  have hl : ((List.range m).map g).length = m := by simp
  refine ⟨⟨fun d hd => ?_, by omega⟩, by omega⟩
  obtain ⟨i, hi, rfl⟩ := List.mem_map.mp hd
  exact h i (List.mem_range.mp hi)
theorem s_retA {σ : L2.St} {H : Hp} {D : Ends} {tr : TA} {sp : Sp} {E : XK} {vs : List V} (h : EvA tr σ H vs) (k : ∀ H1, Ex H H1 → sp vs H1 D.rt E) : tRet (tCall sp [] E tr) D σ H := h H (Ex.refl H) _ fun H1 e1 => by
  show sp (vs ++ []) H1 _ E
  rw [List.append_nil]
  exact k H1 e1
theorem q_asgA {σ : L2.St} {H : Hp} {D : Ends} {tz : TS} {tr : TA} {sp : Sp} {E : XK} {vs : List V} {i : Nat} (h : EvA tr σ H vs) (k : ∀ H1, Ex H H1 → sp vs H1 (fun v H2 => tz D (σ.set i (some v)) H2) E) : tSeq (tAsg (tCall sp [] E tr) (gName i)) tz D σ H := h H (Ex.refl H) _ fun H1 e1 => by
  show sp (vs ++ []) H1 _ E
  rw [List.append_nil]
  exact k H1 e1
abbrev sp_l_built (K : PySem.W.Frag) : Sp := fun vs H Q _ => ∃ f n : Int, vs = [.int f, .int n] ∧ SizeOk f n ∧ ∀ ds, DoorsOk n ds → ds.length ≤ 900 → ∀ p H2, H p = none → Ex H H2 → LstT H2 p (ds.map doorD) → Q (.ref p) H2
theorem ok_l_built (T : Txt K mg) : Kept P w K mg base 3 "_law_built" ["_law_first", "_law_size_here"] (sp_l_built K) := by
  refine T.d_l_built.kept sc_l_built (fun vs H Q E h => ?_) (fun cdv A outer s H vs Q E hr h => ?_)
  · obtain ⟨f, n, rfl, _⟩ := h
    rfl
  · obtain ⟨f, n, rfl, hz, q⟩ := h
    obtain ⟨hz0, hz60, hz4, hz10, hz7, hz5, hz9, hz68, hz2, hz3⟩ := hz
    refine ⟨_, (pss_cons (ps_if (pt_cmpR op_eq (pe_op op_mod (pv 0) pe_int) pe_int (nomark _))
        (pss_cons (ps_set (i := 2) sc_l_built.nd rfl (Or.inl rfl) (pe_lst pa_nil))
      (pss_cons (ps_for (passes_of rfl) rfl (pi_range1 (by rfl) T.n_range (pa_cons (pe_op op_sub pe_int (pe_op op_mod (pe_op op_fdiv (pv 0) pe_int) pe_int)) pa_nil)) (pg_name (i := 3) sc_l_built.nd rfl (Or.inl rfl))
        (pss_cons (ps_set (i := 4) sc_l_built.nd rfl (Or.inl rfl) (pe_op op_mod (pe_ix (ix_list_K (K := K) rfl) (pe_lst (pa_cons (pv 3) (pa_cons (pe_op op_mul (pv 3) (pv 3)) pa_nil))) (pe_callTy call_int1 (by rfl) T.n_int (by decide +kernel) (pa_cons (pe_cmpR op_ge (pv 3) (pv 1) (nomark _)) pa_nil)) (fun _ _ => rfl)) (pv 1)))
      (pss_cons (ps_set (i := 5) sc_l_built.nd rfl (Or.inl rfl) (pe_op op_mod (pe_ix (ix_list_K (K := K) rfl) (pe_lst (pa_cons (pe_op op_add (pv 3) pe_int) (pa_cons (pe_op op_mul (pv 3) pe_int) pa_nil))) (pe_callTy call_int1 (by rfl) T.n_int (by decide +kernel) (pa_cons (pe_cmpR op_ge (pv 3) (pv 1) (nomark _)) pa_nil)) (fun _ _ => rfl)) (pv 1)))
      (pss_one (ps_expr (pe_bm_K (K := K) rfl PySem.F.plainAttrs_list PySem.F.slot_list_append PySem.F.type_list_append mt_append (pv 2) (pa_cons (pe_tup (pa_cons (pv 4) (pa_cons (pv 5) (pa_cons (pe_ix (ix_list_K (K := K) rfl) (pe_lst (pa_cons pe_non (pa_cons pe_int (pa_cons pe_non (pa_cons (pe_op op_mod (pe_op op_fdiv (pv 3) pe_int) pe_int) (pa_cons (pe_op op_mod (pe_op op_add (pe_op op_fdiv (pv 0) pe_int) (pv 3)) pe_int) pa_nil)))))) (pe_op op_mod (pv 3) pe_int) (fun _ _ => rfl)) pa_nil)))) pa_nil)))))))
      (pss_one (ps_ret (pv 2)))))
        pss_nil)
      (pss_cons (ps_if (pt_cmpR op_eq (pe_op op_mod (pv 0) pe_int) pe_int (nomark _))
        (pss_cons (ps_set (i := 6) sc_l_built.nd rfl (Or.inr rfl) (pe_op op_cat (pe_op op_cat (pe_lst (pa_cons pe_int (pa_cons pe_int pa_nil))) (pe_op op_rep (pe_lst (pa_cons pe_non pa_nil)) (pe_op op_sub (pv 1) pe_int))) (pe_lst (pa_cons pe_int (pa_cons pe_int (pa_cons pe_int pa_nil))))))
      (pss_one (ps_ret (pe_lc (own := [("_law_k", 3)]) (g := gName 3) rfl sc_l_built.nd (pi_range1 (by rfl) T.n_range (pa_cons (pe_op op_sub (pv 1) pe_int) pa_nil)) (blkOk_by (own := [("_law_k", 3)]) (N := ["_law_first", "_law_size_here", "_law_made", "_law_k", "_law_one", "_law_other", "_law_locks", "_law_turn"]) (sc := defScope s_l_built) (by decide +kernel)) (fun _ _ _ _ _ => (pg_name (i := 3) sc_l_built.nd rfl (Or.inl rfl))) (fun _ _ _ _ _ => pts_nil) (fun _ _ _ _ _ => (pe_tup (pa_cons (pv 3) (pa_cons (pe_op op_add (pv 3) pe_int) (pa_cons (pe_ix (ix_list_K (K := K) rfl) (pv 6) (pv 3) (fun _ _ => rfl)) pa_nil)))))))))
        pss_nil)
      (pss_cons (ps_if (pt_cmpR op_eq (pe_op op_mod (pv 0) pe_int) pe_int (nomark _))
        (pss_one (ps_ret (pe_lc (own := [("_law_k", 3)]) (g := gName 3) rfl sc_l_built.nd (pi_range2 (by rfl) T.n_range (pa_cons pe_int (pa_cons (pv 1) pa_nil))) (blkOk_by (own := [("_law_k", 3)]) (N := ["_law_first", "_law_size_here", "_law_made", "_law_k", "_law_one", "_law_other", "_law_locks", "_law_turn"]) (sc := defScope s_l_built) (by decide +kernel)) (fun _ _ _ _ _ => (pg_name (i := 3) sc_l_built.nd rfl (Or.inl rfl))) (fun _ _ _ _ _ => pts_nil) (fun _ _ _ _ _ => (pe_tup (pa_cons pe_int (pa_cons (pv 3) (pa_cons pe_non pa_nil))))))))
        pss_nil)
      (pss_cons (ps_if (pt_cmpR (op_in_seq_K (K := K) rfl) (pe_op op_mod (pv 0) pe_int) (pe_tup (pa_cons pe_int (pa_cons pe_int pa_nil))) (by rfl))
        (pss_one (ps_ret (pe_fn (ok_l_ranks (K := K) T) (hr.mono (by decide)) passL (by rfl) (pa_cons (pv 0) (pa_cons (pv 1) pa_nil)))))
        pss_nil)
      (pss_cons (ps_if (pt_cmpR op_eq (pe_op op_mod (pv 0) pe_int) pe_int (nomark _))
        (pss_one (ps_ret (pe_fn (ok_l_many (K := K) T) (hr.mono (by decide)) passL (by rfl) (pa_cons (pv 0) (pa_cons (pv 1) pa_nil)))))
        pss_nil)
      (pss_cons (ps_if (pt_cmpR op_eq (pe_op op_mod (pv 0) pe_int) pe_int (nomark _))
        (pss_one (ps_ret (pe_fn (ok_l_mixed (K := K) T) (hr.mono (by decide)) passL (by rfl) (pa_cons (pv 0) (pa_cons (pv 1) pa_nil)))))
        pss_nil)
      (pss_cons (ps_if (pt_cmpR op_eq (pe_op op_mod (pv 0) pe_int) pe_int (nomark _))
        (pss_cons (ps_set (i := 7) sc_l_built.nd rfl (Or.inr rfl) (pe_op op_mod (pe_op op_fdiv (pe_fn (ok_l_mix (K := K) T) (hr.mono (by decide)) passL (by rfl) (pa_cons (pv 0) (pa_cons pe_int pa_nil))) pe_int) pe_int))
      (pss_one (ps_ret (pe_lc (own := [("_law_k", 3)]) (g := gName 3) rfl sc_l_built.nd (pi_range1 (by rfl) T.n_range (pa_cons (pe_op op_sub (pv 1) pe_int) pa_nil)) (blkOk_by (own := [("_law_k", 3)]) (N := ["_law_first", "_law_size_here", "_law_made", "_law_k", "_law_one", "_law_other", "_law_locks", "_law_turn"]) (sc := defScope s_l_built) (by decide +kernel)) (fun _ _ _ _ _ => (pg_name (i := 3) sc_l_built.nd rfl (Or.inl rfl))) (fun _ _ _ _ _ => pts_nil) (fun _ _ _ _ _ => (pe_tup (pa_cons (pv 3) (pa_cons (pe_op op_add (pv 3) pe_int) (pa_cons (pe_fn (ok_l_lock (K := K) T) (hr.mono (by decide)) passL (by rfl) (pa_cons (pe_op op_mul (pe_op op_add (pv 3) pe_int) (pv 7)) pa_nil)) pa_nil)))))))))
        pss_nil)
      (pss_cons (ps_if (pt_cmpR op_eq (pe_op op_mod (pv 0) pe_int) pe_int (nomark _))
        (pss_one (ps_ret (pe_lc (own := [("_law_k", 3)]) (g := gName 3) rfl sc_l_built.nd (pi_range2 (by rfl) T.n_range (pa_cons pe_int (pa_cons (pv 1) pa_nil))) (blkOk_by (own := [("_law_k", 3)]) (N := ["_law_first", "_law_size_here", "_law_made", "_law_k", "_law_one", "_law_other", "_law_locks", "_law_turn"]) (sc := defScope s_l_built) (by decide +kernel)) (fun _ _ _ _ _ => (pg_name (i := 3) sc_l_built.nd rfl (Or.inl rfl))) (fun _ _ _ _ _ => pts_nil) (fun _ _ _ _ _ => (pe_tup (pa_cons (pv 3) (pa_cons pe_int (pa_cons (pe_ix (ix_list_K (K := K) rfl) (pe_lst (pa_cons pe_non (pa_cons pe_int (pa_cons pe_int (pa_cons pe_int (pa_cons pe_int pa_nil)))))) (pe_op op_sub (pv 3) pe_int) (fun _ _ => rfl)) pa_nil))))))))
        pss_nil)
      (pss_one (ps_ret (pe_lst pa_nil))))))))))), ?_⟩
    refine q_when (b := decide (f % 12 = 4)) (by walk_at "mz ev") (fun hb H1 e1 => ?_) (fun hb H1 e1 => ?_)
    · refine q_asgLT (ds := []) (lt_lst ea_tn (by simp)) fun l H2 nl e2 hl => ?_
      have nlH : H l = none := fresh_back e1 nl
      refine q_forR1 (n := 90 - f / 12 % 3) (by walk_at "mz ev") ⟨by omega, by omega⟩ (fun i σ' H' => Ex H H' ∧ ∃ (y3 y4 y5 : Option V) (ds : List Door), σ' = [some (.int f), some (.int n), some (.ref l), y3, y4, y5, none, none] ∧ LstT H' l (ds.map doorD) ∧ (∀ d ∈ ds, WfD n d) ∧ ds.length = i) (fun H4 e4 => ⟨(e1.trans e2).trans e4, none, none, none, [], rfl, hl.ex e4, (fun d hd => by cases hd), by simp⟩) (fun i σ' H' hi hP => ?_) (fun σ' H' hP => ?_)
      · obtain ⟨eH, y3, y4, y5, ds, rfl, hL, hwf, hlen⟩ := hP
        have hc : ∀ a b : Int, 0 ≤ (if decide (n ≤ (i : Int)) = true then (1 : Int) else 0) ∧ (if decide (n ≤ (i : Int)) = true then (1 : Int) else 0) < (([a, b] : List Int).length : Int) := by
          intro a b
          simp
          split <;> omega
        refine q_asg (v := .int ((([(i : Int), (i : Int) * (i : Int)] : List Int).getD (if decide (n ≤ (i : Int)) = true then (1 : Int) else 0).toNat 0) % n)) (ev_op (ev_ixInts (ea_tc (td_int (by walk_at "mz ev")) (ea_tc (td_int (by walk_at "mz ev")) ea_tn)) (ev_intB (ev_op (ev_var rfl) (ev_var rfl) rv_I0)) (hc 0 0).1 (hc _ _).2) (ev_var rfl) (rv_I (by omega))) fun H4 e4 => ?_
        refine q_asg (v := .int ((([(i : Int) + 1, (i : Int) * 7] : List Int).getD (if decide (n ≤ (i : Int)) = true then (1 : Int) else 0).toNat 0) % n)) (ev_op (ev_ixInts (ea_tc (td_int (by walk_at "mz ev")) (ea_tc (td_int (by walk_at "mz ev")) ea_tn)) (ev_intB (ev_op (ev_var rfl) (ev_var rfl) rv_I0)) (hc 0 0).1 (hc _ _).2) (ev_var rfl) (rv_I (by omega))) fun H5 e5 => ?_
        have eH5 := (eH.trans e4).trans e5
        refine s_appT (hL.ex (e4.trans e5)) (ev_var rfl) (td_door (ev_var rfl) (ev_var rfl) (td_ixLocks (K := K) (ls := [none, some 4, none, some ((i : Int) / 5 % 4), some ((f / 36 + (i : Int)) % 5)]) (i := (i : Int) % 5) (ea_tc (td_lock0 ev_c) (ea_tc (td_lock1 ev_c) (ea_tc (td_lock0 ev_c) (ea_tc (td_lock1 (by walk_at "mz ev")) (ea_tc (td_lock1 (by walk_at "mz ev")) ea_tn))))) (by walk_at "mz ev") (by omega) (by simp; omega))) (by rw [List.length_map]; omega) fun H9 xs v e9 hx9 hp9 => ⟨Ex.mut (eH5.trans e9) nlH, _, _, _, ds ++ [_], rfl, by rw [List.map_append]; exact hp9, wfd_append hwf ⟨mod_here (n := n) (by omega) _, mod_here (n := n) (by omega) _, lockOk_getD (ls := [none, some 4, none, some ((i : Int) / 5 % 4), some ((f / 36 + (i : Int)) % 5)]) ?_ _⟩, by simp [hlen]⟩
        simp [lockOk]
        omega
      · obtain ⟨eH, y3, y4, y5, ds, rfl, hL, hwf, hlen⟩ := hP
        exact s_ret (ev_var rfl) fun H5 e5 => q ds ⟨hwf, by omega⟩ (by omega) l H5 nlH (eH.trans e5) (hL.ex e5)
    simp only [decide_eq_false_iff_not] at hb
    refine q_when (b := decide (f % 12 = 10)) (by walk_at "mz ev") (fun hb2 H2 e2 => ?_) (fun hb2 H2 e2 => ?_)
    · have hb2 := of_decide_eq_true hb2
      obtain ⟨hn20, hn40⟩ := hz10 hb2
      have e12 := e1.trans e2
      let L : List (Option Int) := [some 3, some 1] ++ List.replicate (n - 6).toNat none ++ [some 0, some 2, some 4]
      have hL : L.map lockD = [.int 3, .int 1] ++ (List.replicate (n - 6).toNat [PyData.none]).flatten ++ [.int 0, .int 2, .int 4] := by
        simp only [L, List.map_append, List.map_replicate, List.map_cons, List.map_nil, lockD]
        congr 2
        generalize (n - 6).toNat = m
        induction m with
        | zero => rfl
        | succ m ih => rw [List.replicate_succ, List.replicate_succ, List.flatten_cons, ← ih]; rfl
      have hll : L.length = (n - 6).toNat + 5 := by simp [L]
      have hlo : L.all lockOk = true := by
        rw [List.all_eq_true]
        intro x hx
        simp only [L, List.mem_append, List.mem_cons, List.mem_replicate, List.not_mem_nil, or_false] at hx
        rcases hx with ((h | h) | h) | h | h | h
        · subst h; rfl
        · subst h; rfl
        · rw [h.2]; rfl
        · subst h; rfl
        · subst h; rfl
        · subst h; rfl
      refine q_asgLT (ds := L.map lockD) ?_ fun l H3 nl e3 hl => ?_
      · rw [hL]
        refine lt_cat2 (lt_cat2 (lt_lst (ea_tc (td_int ev_c) (ea_tc (td_int ev_c) ea_tn)) (by simp)) (lt_rep (lt_lst (ea_tc (td_non ev_c) ea_tn) (by simp)) (by walk_at "mz ev") (by omega) (by simp; omega)) ?_) (lt_lst (ea_tc (td_int ev_c) (ea_tc (td_int ev_c) (ea_tc (td_int ev_c) ea_tn))) (by simp)) ?_
        · simp; omega
        · simp; omega
      · refine s_retLT (lt_mapR1 (n := n - 1) (fun i => doorD ((i : Int), (i : Int) + 1, L.getD (i : Int).toNat none)) (by walk_at "mz ev") (by omega) (fun x => rfl) fun i H4 e4 hi => td_door (by walk_at "mz ev") (by walk_at "mz ev") (td_ixLocksV (K := K) (ev_var rfl) (hl.ex e4) (by walk_at "mz ev") (by omega) (by rw [hll]; omega))) fun p H4 np e4 hp => ?_
        rw [doors_map] at hp
        have hh := doors_ok (n := n) (m := (n - 1).toNat) (g := fun i => ((i : Int), (i : Int) + 1, L.getD (i : Int).toNat none)) (fun i hi => ⟨⟨by show 0 ≤ (i : Int); omega, by show (i : Int) < n; omega⟩, ⟨by show 0 ≤ (i : Int) + 1; omega, by show (i : Int) + 1 < n; omega⟩, lockOk_getD hlo _⟩) (by omega)
        exact q _ hh.1 hh.2 p H4 (fresh_back (e12.trans e3) np) ((e12.trans e3).trans e4) hp
    simp only [decide_eq_false_iff_not] at hb2
    have e12 := e1.trans e2
    refine q_when (b := decide (f % 12 = 7)) (by walk_at "mz ev") (fun hb3 H3 e3 => ?_) (fun hb3 H3 e3 => ?_)
    · refine s_retLT (lt_mapR2 (lo := 1) (n := n) (fun i => doorD (0, 1 + (i : Int), none)) (by walk_at "mz ev") ⟨by omega, by omega, by omega, by omega⟩ (fun x => rfl) fun i H4 e4 hi => td_door ev_c (by walk_at "mz ev") (td_lock0 ev_c)) fun p H4 np e4 hp => ?_
      rw [doors_map] at hp
      have hh := doors_ok (n := n) (m := (n - 1).toNat) (g := fun i => (0, 1 + (i : Int), none)) (fun i hi => ⟨⟨by show (0 : Int) ≤ 0; omega, by show (0 : Int) < n; omega⟩, ⟨by show 0 ≤ 1 + (i : Int); omega, by show 1 + (i : Int) < n; omega⟩, rfl⟩) (by omega)
      exact q _ hh.1 hh.2 p H4 (fresh_back (e12.trans e3) np) ((e12.trans e3).trans e4) hp
    simp only [decide_eq_false_iff_not] at hb3
    have e13 := e12.trans e3
    refine q_when (b := decide (f % 12 ∈ [6, 8])) (et_test (ev_in2 (by walk_at "mz ev"))) (fun hb6 H4 e4 => ?_) (fun hb6 H4 e4 => ?_)
    · simp only [decide_eq_true_eq, List.mem_cons, List.not_mem_nil, or_false] at hb6
      obtain ⟨hn1, hn2⟩ := hz68 hb6
      exact s_retA (vs := [.int f, .int n]) (ea_cons (ev_var rfl) (ea_cons (ev_var rfl) ea_nil)) fun H5 e5 => ⟨f, n, rfl, by omega, hn2, fun ds h1 h2 p H6 np e6 hp => q ds h1 h2 p H6 (fresh_back ((e13.trans e4).trans e5) np) (((e13.trans e4).trans e5).trans e6) hp⟩
    simp only [decide_eq_false_iff_not, List.mem_cons, List.not_mem_nil, or_false] at hb6
    have e14 := e13.trans e4
    refine q_when (b := decide (f % 12 = 5)) (by walk_at "mz ev") (fun hb5 H5 e5 => ?_) (fun hb5 H5 e5 => ?_)
    · have hb5 := of_decide_eq_true hb5
      have := hz5 hb5
      exact s_retA (vs := [.int f, .int n]) (ea_cons (ev_var rfl) (ea_cons (ev_var rfl) ea_nil)) fun H6 e6 => ⟨f, n, rfl, by omega, by omega, fun ds h1 h2 p H7 np e7 hp => q ds h1 h2 p H7 (fresh_back ((e14.trans e5).trans e6) np) (((e14.trans e5).trans e6).trans e7) hp⟩
    simp only [decide_eq_false_iff_not] at hb5
    have e15 := e14.trans e5
    refine q_when (b := decide (f % 12 = 9)) (by walk_at "mz ev") (fun hb9 H6 e6 => ?_) (fun hb9 H6 e6 => ?_)
    · have hb9 := of_decide_eq_true hb9
      have := hz9 hb9
      exact s_retA (vs := [.int f, .int n]) (ea_cons (ev_var rfl) (ea_cons (ev_var rfl) ea_nil)) fun H7 e7 => ⟨f, n, rfl, by omega, by omega, fun ds h1 h2 p H8 np e8 hp => q ds h1 h2 p H8 (fresh_back ((e15.trans e6).trans e7) np) (((e15.trans e6).trans e7).trans e8) hp⟩
    simp only [decide_eq_false_iff_not] at hb9
    have e16 := e15.trans e6
    refine q_when (b := decide (f % 6 = 2)) (by walk_at "mz ev") (fun hbb H7 e7 => ?_) (fun hbb H7 e7 => ?_)
    · refine q_asg (v := .int (mix f 0 / 30 % 8)) (ev_op (ev_op (ev_call0 (ea_cons (ev_var rfl) (ea_cons ev_c ea_nil)) sv_l_mix) ev_c (rv_I (by walk_at "mz side"))) ev_c (rv_I (by walk_at "mz side"))) fun H8 e8 => ?_
      have e18 := (e16.trans e7).trans e8
      refine s_retLT (lt_mapR1 (n := n - 1) (fun i => doorD ((i : Int), (i : Int) + 1, lockF (((i : Int) + 1) * (mix f 0 / 30 % 8)))) (by walk_at "mz ev") (by omega) (fun x => rfl) fun i H9 e9 hi => td_door (by walk_at "mz ev") (by walk_at "mz ev") (td_l_lock (by walk_at "mz ev"))) fun p H9 np e9 hp => ?_
      rw [doors_map] at hp
      have hh := doors_ok (n := n) (m := (n - 1).toNat) (g := fun i => ((i : Int), (i : Int) + 1, lockF (((i : Int) + 1) * (mix f 0 / 30 % 8)))) (fun i hi => ⟨⟨by show 0 ≤ (i : Int); omega, by show (i : Int) < n; omega⟩, ⟨by show 0 ≤ (i : Int) + 1; omega, by show (i : Int) + 1 < n; omega⟩, lockF_ok _⟩) (by omega)
      exact q _ hh.1 hh.2 p H9 (fresh_back e18 np) (e18.trans e9) hp
    simp only [decide_eq_false_iff_not] at hbb
    have e17 := e16.trans e7
    refine q_when (b := decide (f % 6 = 3)) (by walk_at "mz ev") (fun hb8 H8 e8 => ?_) (fun hb8 H8 e8 => ?_)
    · have hb8 := of_decide_eq_true hb8
      obtain ⟨hn2, hn6⟩ := hz3 hb8
      have hn6 : n ≤ 6 := by omega
      refine s_retLT (lt_mapR2 (lo := 1) (n := n) (fun i => doorD (1 + (i : Int), 0, ([none, some 0, some 1, some 2, some 3] : List (Option Int)).getD (1 + (i : Int) - 1).toNat none)) (by walk_at "mz ev") ⟨by omega, by omega, by omega, by omega⟩ (fun x => rfl) fun i H9 e9 hi => td_door (by walk_at "mz ev") ev_c (td_ixLocks (K := K) (ea_tc (td_lock0 ev_c) (ea_tc (td_lock1 ev_c) (ea_tc (td_lock1 ev_c) (ea_tc (td_lock1 ev_c) (ea_tc (td_lock1 ev_c) ea_tn))))) (by walk_at "mz ev") (by omega) (by simp; omega))) fun p H9 np e9 hp => ?_
      rw [doors_map] at hp
      have hh := doors_ok (n := n) (m := (n - 1).toNat) (g := fun i => (1 + (i : Int), 0, ([none, some 0, some 1, some 2, some 3] : List (Option Int)).getD (1 + (i : Int) - 1).toNat none)) (fun i hi => ⟨⟨by show 0 ≤ 1 + (i : Int); omega, by show 1 + (i : Int) < n; omega⟩, ⟨by show (0 : Int) ≤ 0; omega, by show (0 : Int) < n; omega⟩, lockOk_getD (by decide) _⟩) (by omega)
      exact q _ hh.1 hh.2 p H9 (fresh_back (e17.trans e8) np) ((e17.trans e8).trans e9) hp
    refine s_retLT (ds := ([] : List Door).map doorD) (lt_lst ea_tn (by simp)) fun p H9 np e9 hp => q [] ⟨(fun d hd => absurd hd (by simp)), by simp⟩ (by simp) p H9 (fresh_back (e17.trans e8) np) ((e17.trans e8).trans e9) hp
end

section
variable {P : Program} {w : World} {K : PySem.W.Frag} {mg : Str → Option Value} {base : Heap}
theorem ev_scr {σ : L2.St} {H : Hp} {ta tb : TE} {a : Addr} {ns : List Int} {k : Int} (ha : Ev ta σ H (.ref a)) (hS : SqL K H a (ns.map V.int)) (hb : Ev tb σ H (.int k)) (h0 : 0 ≤ k) (h1 : k < (ns.length : Int)) : Ev (tOp (rIxL K) ta tb) σ H (.int (ns.getD k.toNat 0)) := by
  have hl : k.toNat < ns.length := by omega
  have e : (ns.map V.int)[k.toNat]? = some (.int (ns.getD k.toNat 0)) := by
    rw [List.getElem?_map, List.getElem?_eq_getElem hl, List.getD_eq_getElem?_getD, List.getElem?_eq_getElem hl]
    rfl
  exact ev_op ha hb (rv_ixL hS (at_of (by omega) e))
theorem min_len {ns : List Int} : ∃ j : Nat, (if (27 : Int) < ((ns.map V.int).length : Int) then (27 : Int) else ((ns.map V.int).length : Int)) = (j : Int) ∧ j ≤ 27 ∧ j ≤ ns.length := by
  rw [List.length_map]
  by_cases h : (27 : Int) < (ns.length : Int)
  · exact ⟨27, by rw [if_pos h]; rfl, by omega, by omega⟩
  · exact ⟨ns.length, by rw [if_neg h], by omega, by omega⟩
theorem step3 : ∀ j : Fin 28, Builtin.Range.small 5 ((j.val : Nat) : Int) 3 = true ∧ Builtin.Range.rangeSize 5 ((j.val : Nat) : Int) 3 = (((j.val - 3) / 3 : Nat) : Int) := by decide +kernel
/-- a range by steps -/
theorem q_forR3 {σ : L2.St} {H : Hp} {ta : TA} {tu tz : TS} {D : Ends} {jj : Nat} {lo hi c : Int} {n : Nat} (h : EvA ta σ H [.int lo, .int hi, .int c]) (hn : RgC lo hi c n) (Pv : Nat → L2.St → Hp → Prop) (h0 : ∀ H1, Ex H H1 → Pv 0 σ H1)
    (hs : ∀ (i : Nat) σ' H', i < n → Pv i σ' H' → tu { D with nx := Pv (i + 1), ct := Pv (i + 1), bk := tz D } (σ'.set jj (some (.int (lo + (i : Int) * c)))) H') (hd : ∀ σ' H', Pv n σ' H' → tz D σ' H') : tSeq (tFor (iRng3 ta) (gName jj) tu) tz D σ H :=
  h H (Ex.refl H) _ fun H1 e => ⟨lo, hi, c, n, rfl, hn, for_rangeC (D := { D with nx := tz D }) Pv (h0 H1 e) (fun i σ' H' hi p => hs i σ' H' hi p) hd⟩
/-! ### the doors -/
abbrev sp_l_doors (K : PySem.W.Frag) : Sp := fun vs H Q _ => ∃ (a : Addr) (ns : List Int) (n : Int), vs = [.ref a, .int n] ∧ SqL K H a (ns.map V.int) ∧ SizeOk (cellAt ns 0) n ∧ ns.length ≤ 63 ∧ ∀ ds, DoorsOk n ds → ∀ p H2, H p = none → Ex H H2 → LstT H2 p (ds.map doorD) → Q (.ref p) H2
theorem ok_l_doors (T : Txt K mg) : Kept P w K mg base 4 "_law_doors" ["_law_script", "_law_size_here"] (sp_l_doors K) := by
  refine T.d_l_doors.kept sc_l_doors (fun vs H Q E h => ?_) (fun cdv A outer s H vs Q E hr h => ?_)
  · obtain ⟨a, ns, n, rfl, _⟩ := h
    rfl
  · obtain ⟨a, ns, n, rfl, hS, hz, hl63, q⟩ := h
    have hz1 : 1 ≤ n ∧ n ≤ 60 := ⟨hz.1, hz.2.1⟩
    refine ⟨_, (pss_cons (ps_set (i := 2) sc_l_doors.nd rfl (Or.inl rfl) (pe_fn (ok_l_cell_at (K := K) T) (hr.mono (by decide)) passL (by rfl) (pa_cons (pv 0) (pa_cons pe_int pa_nil))))
      (pss_cons (ps_set (i := 3) sc_l_doors.nd rfl (Or.inl rfl) (pe_fn (ok_l_built (K := K) T) (hr.mono (by decide)) passL (by rfl) (pa_cons (pv 2) (pa_cons (pv 1) pa_nil))))
      (pss_cons (ps_if (pt_cmpR (op_in_seq_K (K := K) rfl) (pe_op op_mod (pv 2) pe_int) (pe_tup (pa_cons pe_int (pa_cons pe_int (pa_cons pe_int (pa_cons pe_int (pa_cons pe_int (pa_cons pe_int (pa_cons pe_int pa_nil)))))))) (by rfl))
        (pss_one (ps_ret (pv 3)))
        pss_nil)
      (pss_cons (ps_for (passes_of rfl) rfl (pi_range2 (by rfl) T.n_range (pa_cons pe_int (pa_cons (pe_callB (call_min2 rfl) (by rfl) T.n_min (by decide +kernel) (pa_cons (pe_callB (call_len_seq_K (K := K) rfl) (by rfl) T.n_len (by decide +kernel) (pa_cons (pv 0) pa_nil)) (pa_cons pe_int pa_nil))) pa_nil))) (pg_name (i := 4) sc_l_doors.nd rfl (Or.inl rfl))
        (pss_cons (ps_set (i := 5) sc_l_doors.nd rfl (Or.inl rfl) (pe_ix (ix_list_K (K := K) rfl) (pv 0) (pv 4) (fun _ _ => rfl)))
      (pss_one (ps_if (PW.pt (pw_and (pt_cmpR op_ne (pe_op op_mod (pv 4) pe_int) pe_int (nomark _)) (pw_and1 (PW.pt (pw_or (pt_cmpR (op_notIn_seq_K (K := K) rfl) (pe_op op_mod (pv 2) pe_int) (pe_tup (pa_cons pe_int (pa_cons pe_int pa_nil))) (by rfl)) (pw_or1 (pt_cmpR op_gt (pv 4) pe_int (nomark _))))))))
        (pss_cons (ps_set (i := 6) sc_l_doors.nd rfl (Or.inl rfl) (pe_op op_mod (pe_fn (ok_l_mix (K := K) T) (hr.mono (by decide)) passL (by rfl) (pa_cons (pv 5) (pa_cons pe_int pa_nil))) (pv 1)))
      (pss_one (ps_expr (pe_bm_K (K := K) rfl PySem.F.plainAttrs_list PySem.F.slot_list_append PySem.F.type_list_append mt_append (pv 3) (pa_cons (pe_tup (pa_cons (pv 6) (pa_cons (pe_op op_mod (pe_fn (ok_l_mix (K := K) T) (hr.mono (by decide)) passL (by rfl) (pa_cons (pv 5) (pa_cons pe_int pa_nil))) (pv 1)) (pa_cons (pe_fn (ok_l_lock (K := K) T) (hr.mono (by decide)) passL (by rfl) (pa_cons (pe_fn (ok_l_mix (K := K) T) (hr.mono (by decide)) passL (by rfl) (pa_cons (pv 5) (pa_cons pe_int pa_nil))) pa_nil)) pa_nil)))) pa_nil)))))
        pss_nil))))
      (pss_one (ps_ret (pv 3))))))), ?_⟩
    obtain ⟨f, ef⟩ : ∃ f, cellAt ns 0 = f := ⟨_, rfl⟩
    rw [ef] at hz
    refine q_asg (v := .int f) ?_ fun H1 e1 => ?_
    · rw [← ef]
      exact ev_call0 (ea_cons (ev_var rfl) (ea_cons ev_c ea_nil)) (sv_l_cell_at hS (by decide))
    refine q_asgA (vs := [.int f, .int n]) (ea_cons (ev_var rfl) (ea_cons (ev_var rfl) ea_nil)) fun H2 e2 => ⟨f, n, rfl, hz, fun ds0 hd0 hd00 l H3 nl e3 hl => ?_⟩
    have e12 := e1.trans e2
    have nlH : H l = none := fresh_back e12 nl
    have e13 := e12.trans e3
    refine q_when (b := decide (f % 12 ∈ [4, 5, 6, 7, 8, 9, 10])) (et_test (ev_inW (ns := [4, 5, 6, 7, 8, 9, 10]) (by walk_at "mz ev") (td_tup (ds := [.int 4, .int 5, .int 6, .int 7, .int 8, .int 9, .int 10]) (ea_tc (td_int ev_c) (ea_tc (td_int ev_c) (ea_tc (td_int ev_c) (ea_tc (td_int ev_c) (ea_tc (td_int ev_c) (ea_tc (td_int ev_c) (ea_tc (td_int ev_c) ea_tn))))))) (by simp)))) (fun hb H4 e4 => s_ret (ev_var rfl) fun H5 e5 => q ds0 hd0 l H5 nlH ((e13.trans e4).trans e5) (hl.ex (e4.trans e5))) (fun hb H4 e4 => ?_)
    obtain ⟨j, ej, hj27, hjl⟩ := min_len (ns := ns)
    refine q_forR2 (lo := 3) (n := (j : Int)) (ea_cons ev_c (ea_cons (ev_is (ev_min2 (ev_lenS (ev_var rfl) (ex_l (e13.trans e4) hS)) ev_c) (by rw [ej])) ea_nil)) ⟨by omega, by omega, by omega, by omega⟩ (fun i σ' H' => Ex H H' ∧ ∃ (y4 y5 y6 : Option V) (ds : List Door), σ' = [some (.ref a), some (.int n), some (.int f), some (.ref l), y4, y5, y6] ∧ LstT H' l (ds.map doorD) ∧ (∀ d ∈ ds, WfD n d) ∧ ds.length ≤ 900 + i) (fun H5 e5 => ⟨(e13.trans e4).trans e5, none, none, none, ds0, rfl, hl.ex (e4.trans e5), hd0.1, by omega⟩) (fun i σ' H' hi hP => ?_) (fun σ' H' hP => ?_)
    · obtain ⟨eH, y4, y5, y6, ds, rfl, hL, hwf, hlen⟩ := hP
      obtain ⟨c, ec⟩ : ∃ c, ns.getD (3 + (i : Int)).toNat 0 = c := ⟨_, rfl⟩
      refine q_asg (v := .int c) (by rw [← ec]; exact ev_scr (ev_var rfl) (ex_l eH hS) (by walk_at "mz ev") (by omega) (by omega)) fun H5 e5 => ?_
      refine s_when (b := !decide ((3 + (i : Int)) % 3 = 2) && ((!decide (f % 6 ∈ [2, 3])) || decide ((20 : Int) < 3 + (i : Int)))) (et_and (by walk_at "mz ev") fun _ => et_or (et_test (ev_ni2 (by walk_at "mz ev"))) fun _ => by walk_at "mz ev") (fun _ H6 e6 => ?_) (fun _ H6 e6 => ⟨(eH.trans e5).trans e6, _, _, _, ds, rfl, hL.ex (e5.trans e6), hwf, by omega⟩)
      have eH6 := (eH.trans e5).trans e6
      have hL6 := hL.ex (e5.trans e6)
      have evm : ∀ {σ : L2.St} {H' : Hp} {ta tb : TE} {x y : Int} {E : XK}, Ev ta σ H' (.int x) → Ev tb σ H' (.int y) → Ev (tCall (sp_l_mix K) [] E (tCons ta (tCons tb tNil))) σ H' (.int (mix x y)) := fun h1 h2 => ev_call0 (ea_cons h1 (ea_cons h2 ea_nil)) sv_l_mix
      refine q_asg (v := .int (mix c 0 % n)) (ev_op (evm (ev_var rfl) ev_c) (ev_var rfl) (rv_I (by omega))) fun H7 e7 => ?_
      refine s_appT (hL6.ex e7) (ev_var rfl) (td_door (a := mix c 0 % n) (b := mix c 1 % n) (ev_var rfl) (ev_op (evm (ev_var rfl) ev_c) (ev_var rfl) (rv_I (by omega))) (td_l_lock (evm (ev_var rfl) ev_c))) (by rw [List.length_map]; omega) fun H9 xs v e9 hx9 hp9 => ⟨Ex.mut ((eH6.trans e7).trans e9) nlH, _, _, _, ds ++ [_], rfl, by rw [List.map_append]; exact hp9, wfd_append hwf ⟨mod_here (n := n) (by omega) _, mod_here (n := n) (by omega) _, lockF_ok _⟩, by simp; omega⟩
    · obtain ⟨eH, y4, y5, y6, ds, rfl, hL, hwf, hlen⟩ := hP
      exact s_ret (ev_var rfl) fun H5 e5 => q ds ⟨hwf, by omega⟩ l H5 nlH (eH.trans e5) (hL.ex e5)
/-! ### the keys that lie -/
theorem keys_map {m : Nat} {g : Nat → Key2} : (List.range m).map (fun i => keyD (g i)) = ((List.range m).map g).map keyD := by
  rw [List.map_map]
  rfl
theorem keys_mapF {m : Nat} {p : Nat → Bool} {g : Nat → Key2} : ((List.range m).filter p).map (fun i => keyD (g i)) = (((List.range m).filter p).map g).map keyD := by
  rw [List.map_map]
  rfl
abbrev KeyOk (n : Int) (k : Key2) : Prop := Here n k.1 ∧ Here 5 k.2
theorem keys_ok {m : Nat} {p : Nat → Bool} {g : Nat → Key2} {n : Int} (h : ∀ i, i < m → KeyOk n (g i)) : (∀ k ∈ ((List.range m).filter p).map g, KeyOk n k) ∧ (((List.range m).filter p).map g).length ≤ m := by
  refine ⟨fun d hd => ?_, ?_⟩
  · obtain ⟨i, hi, rfl⟩ := List.mem_map.mp hd
    exact h i (List.mem_range.mp (List.mem_filter.mp hi).1)
  · rw [List.length_map]
    exact Nat.le_trans (List.length_filter_le _ _) (by simp)
theorem keys_ok1 {m : Nat} {g : Nat → Key2} {n : Int} (h : ∀ i, i < m → KeyOk n (g i)) : (∀ k ∈ (List.range m).map g, KeyOk n k) ∧ ((List.range m).map g).length ≤ m := by
  refine ⟨fun d hd => ?_, by simp⟩
  obtain ⟨i, hi, rfl⟩ := List.mem_map.mp hd
  exact h i (List.mem_range.mp hi)
theorem keys_app {n : Int} {ks : List Key2} {k : Key2} (h : ∀ k ∈ ks, KeyOk n k) (hd : KeyOk n k) : ∀ x ∈ ks ++ [k], KeyOk n x := fun x hx => by
  rcases List.mem_append.mp hx with h1 | h1
  · exact h x h1
  · simp at h1
    subst h1
    exact hd
theorem keys_app2 {n : Int} {ks ls : List Key2} (h : ∀ k ∈ ks, KeyOk n k) (hd : ∀ k ∈ ls, KeyOk n k) : ∀ x ∈ ks ++ ls, KeyOk n x := fun x hx => by
  rcases List.mem_append.mp hx with h1 | h1
  · exact h x h1
  · exact hd x h1
theorem here5 {i : Int} (h1 : 0 ≤ i) (h2 : i < 5) : Here 5 i := ⟨h1, h2⟩
abbrev sp_l_lying (K : PySem.W.Frag) : Sp := fun vs H Q _ => ∃ (a : Addr) (ns : List Int) (n : Int), vs = [.ref a, .int n] ∧ SqL K H a (ns.map V.int) ∧ SizeOk (cellAt ns 0) n ∧ ns.length ≤ 63 ∧ ∀ ks, KeysOk n ks → ∀ p H2, H p = none → Ex H H2 → LstT H2 p (ks.map keyD) → Q (.ref p) H2
theorem ok_l_lying (T : Txt K mg) : Kept P w K mg base 2 "_law_lying" ["_law_script", "_law_size_here"] (sp_l_lying K) := by
  refine T.d_l_lying.kept sc_l_lying (fun vs H Q E h => ?_) (fun cdv A outer s H vs Q E hr h => ?_)
  · obtain ⟨a, ns, n, rfl, _⟩ := h
    rfl
  · obtain ⟨a, ns, n, rfl, hS, hz, hl63, q⟩ := h
    refine ⟨_, (pss_cons (ps_set (i := 2) sc_l_lying.nd rfl (Or.inl rfl) (pe_fn (ok_l_cell_at (K := K) T) (hr.mono (by decide)) passL (by rfl) (pa_cons (pv 0) (pa_cons pe_int pa_nil))))
      (pss_cons (ps_set (i := 3) sc_l_lying.nd rfl (Or.inr rfl) (pe_op op_fdiv (pe_fn (ok_l_cell_at (K := K) T) (hr.mono (by decide)) passL (by rfl) (pa_cons (pv 0) (pa_cons pe_int pa_nil))) pe_int))
      (pss_cons (ps_if (pt_cmpR op_eq (pe_op op_mod (pv 2) pe_int) pe_int (nomark _))
        (pss_cons (ps_setLc (i := 4) (own := [("_law_k", 5)]) (g := gName 5) rfl sc_l_lying.nd rfl rfl (sw_true rfl rfl rfl (by decide +kernel)) (pi_range1 (by rfl) T.n_range (pa_cons pe_int pa_nil)) (blkOk_by (own := [("_law_k", 5)]) (N := ["_law_script", "_law_size_here", "_law_first", "_law_turn", "_law_made", "_law_k"]) (sc := defScope s_l_lying) (by decide +kernel)) (fun _ _ _ _ _ => (pg_name (i := 5) sc_l_lying.nd rfl (Or.inl rfl))) (fun _ _ _ _ _ => pts_nil) (fun _ _ _ _ _ => (pe_tup (pa_cons (pe_op op_mod (pe_op op_add (pe_op op_mul (pv 3) (pe_op op_add (pe_op op_mul pe_int (pv 5)) pe_int)) (pv 5)) (pv 1)) (pa_cons (pv 5) pa_nil)))))
      (pss_one (ps_ret (pe_op op_cat (pv 4) (pe_lc (own := [("_law_k", 5)]) (g := gName 5) rfl sc_l_lying.nd (pi_range1 (by rfl) T.n_range (pa_cons pe_int pa_nil)) (blkOk_by (own := [("_law_k", 5)]) (N := ["_law_script", "_law_size_here", "_law_first", "_law_turn", "_law_made", "_law_k"]) (sc := defScope s_l_lying) (by decide +kernel)) (fun _ _ _ _ _ => (pg_name (i := 5) sc_l_lying.nd rfl (Or.inl rfl))) (fun _ _ _ _ _ => pts_one (pt_cmpR op_eq (pe_op op_mod (pv 5) pe_int) pe_int (nomark _))) (fun _ _ _ _ _ => (pe_tup (pa_cons (pe_op op_mod (pe_op op_add (pv 5) (pv 3)) (pv 1)) (pa_cons pe_int pa_nil)))))))))
        pss_nil)
      (pss_cons (ps_if (pt_cmpR op_eq (pe_op op_mod (pv 2) pe_int) pe_int (nomark _))
        (pss_one (ps_ret (pe_lst (pa_cons (pe_tup (pa_cons pe_int (pa_cons pe_int pa_nil))) (pa_cons (pe_tup (pa_cons (pe_op op_sub (pv 1) pe_int) (pa_cons pe_int pa_nil))) (pa_cons (pe_tup (pa_cons pe_int (pa_cons pe_int pa_nil))) (pa_cons (pe_tup (pa_cons (pe_op op_sub (pv 1) pe_int) (pa_cons pe_int pa_nil))) (pa_cons (pe_tup (pa_cons pe_int (pa_cons pe_int pa_nil))) pa_nil))))))))
        pss_nil)
      (pss_cons (ps_if (pt_cmpR op_eq (pe_op op_mod (pv 2) pe_int) pe_int (nomark _))
        (pss_one (ps_ret (pe_lc (own := [("_law_k", 5)]) (g := gName 5) rfl sc_l_lying.nd (pi_range2 (by rfl) T.n_range (pa_cons pe_int (pa_cons (pv 1) pa_nil))) (blkOk_by (own := [("_law_k", 5)]) (N := ["_law_script", "_law_size_here", "_law_first", "_law_turn", "_law_made", "_law_k"]) (sc := defScope s_l_lying) (by decide +kernel)) (fun _ _ _ _ _ => (pg_name (i := 5) sc_l_lying.nd rfl (Or.inl rfl))) (fun _ _ _ _ _ => pts_nil) (fun _ _ _ _ _ => (pe_tup (pa_cons (pv 5) (pa_cons (pe_op op_mod (pe_op op_add (pv 5) (pv 3)) pe_int) pa_nil)))))))
        pss_nil)
      (pss_cons (ps_if (pt_cmpR (op_in_seq_K (K := K) rfl) (pe_op op_mod (pv 2) pe_int) (pe_tup (pa_cons pe_int (pa_cons pe_int pa_nil))) (by rfl))
        (pss_one (ps_ret (pe_lst (pa_cons (pe_tup (pa_cons (pe_op op_mod (pv 3) (pv 1)) (pa_cons pe_int pa_nil))) (pa_cons (pe_tup (pa_cons (pe_op op_mod (pe_op op_add (pe_op op_mul (pv 3) pe_int) pe_int) (pv 1)) (pa_cons pe_int pa_nil))) pa_nil)))))
        pss_nil)
      (pss_cons (ps_if (PW.pt (pw_or (pt_cmpR op_eq (pe_op op_mod (pv 2) pe_int) pe_int (nomark _)) (pw_or1 (pt_cmpR op_eq (pe_op op_mod (pv 2) pe_int) pe_int (nomark _)))))
        (pss_one (ps_ret (pe_lc (own := [("_law_k", 5)]) (g := gName 5) rfl sc_l_lying.nd (pi_range1 (by rfl) T.n_range (pa_cons (pe_op op_add pe_int (pe_op op_mod (pv 3) pe_int)) pa_nil)) (blkOk_by (own := [("_law_k", 5)]) (N := ["_law_script", "_law_size_here", "_law_first", "_law_turn", "_law_made", "_law_k"]) (sc := defScope s_l_lying) (by decide +kernel)) (fun _ _ _ _ _ => (pg_name (i := 5) sc_l_lying.nd rfl (Or.inl rfl))) (fun _ _ _ _ _ => pts_nil) (fun _ _ _ _ _ => (pe_tup (pa_cons (pe_op op_mod (pe_op op_add (pe_op op_mul (pv 5) (pv 5)) (pv 3)) (pv 1)) (pa_cons (pe_op op_mod (pe_op op_mul (pv 5) pe_int) pe_int) pa_nil)))))))
        pss_nil)
      (pss_cons (ps_set (i := 4) sc_l_lying.nd rfl (Or.inl rfl) (pe_lst pa_nil))
      (pss_cut (ps_if (pt_cmpR op_eq (pe_op op_mod (pv 2) pe_int) pe_int (nomark _))
        (pss_one (ps_setLc (i := 4) (own := [("_law_k", 5)]) (g := gName 5) rfl sc_l_lying.nd rfl rfl (sw_true rfl rfl rfl (by decide +kernel)) (pi_range2 (by rfl) T.n_range (pa_cons pe_int (pa_cons (pv 1) pa_nil))) (blkOk_by (own := [("_law_k", 5)]) (N := ["_law_script", "_law_size_here", "_law_first", "_law_turn", "_law_made", "_law_k"]) (sc := defScope s_l_lying) (by decide +kernel)) (fun _ _ _ _ _ => (pg_name (i := 5) sc_l_lying.nd rfl (Or.inl rfl))) (fun _ _ _ _ _ => pts_nil) (fun _ _ _ _ _ => (pe_tup (pa_cons (pv 5) (pa_cons (pe_op op_sub (pv 5) pe_int) pa_nil))))))
        pss_nil)
      (pss_cons (ps_for (passes_of rfl) rfl (pi_range3 (by rfl) T.n_range (pa_cons pe_int (pa_cons (pe_callB (call_min2 rfl) (by rfl) T.n_min (by decide +kernel) (pa_cons (pe_callB (call_len_seq_K (K := K) rfl) (by rfl) T.n_len (by decide +kernel) (pa_cons (pv 0) pa_nil)) (pa_cons pe_int pa_nil))) (pa_cons pe_int pa_nil)))) (pg_name (i := 5) sc_l_lying.nd rfl (Or.inl rfl))
        (pss_one (ps_expr (pe_bm_K (K := K) rfl PySem.F.plainAttrs_list PySem.F.slot_list_append PySem.F.type_list_append mt_append (pv 4) (pa_cons (pe_tup (pa_cons (pe_op op_mod (pe_fn (ok_l_mix (K := K) T) (hr.mono (by decide)) passL (by rfl) (pa_cons (pe_ix (ix_list_K (K := K) rfl) (pv 0) (pv 5) (fun _ _ => rfl)) (pa_cons pe_int pa_nil))) (pv 1)) (pa_cons (pe_op op_mod (pe_fn (ok_l_mix (K := K) T) (hr.mono (by decide)) passL (by rfl) (pa_cons (pe_ix (ix_list_K (K := K) rfl) (pv 0) (pv 5) (fun _ _ => rfl)) (pa_cons pe_int pa_nil))) pe_int) pa_nil))) pa_nil)))))
      (pss_one (ps_ret (pv 4))))))))))))), ?_⟩
    obtain ⟨f, ef⟩ : ∃ f, cellAt ns 0 = f := ⟨_, rfl⟩
    rw [ef] at hz
    obtain ⟨hz0, hz60, hz4, hz10, hz7, hz5, hz9, hz68, hz2, hz3⟩ := hz
    refine q_asg (v := .int f) ?_ fun H1 e1 => ?_
    · rw [← ef]
      exact ev_call0 (ea_cons (ev_var rfl) (ea_cons ev_c ea_nil)) (sv_l_cell_at hS (by decide))
    obtain ⟨u, eu⟩ : ∃ u, cellAt ns 1 / 60 = u := ⟨_, rfl⟩
    refine q_asg (v := .int u) ?_ fun H2 e2 => ?_
    · rw [← eu]
      exact ev_op (ev_call0 (ea_cons (ev_var rfl) (ea_cons ev_c ea_nil)) (sv_l_cell_at (ex_l e1 hS) (by decide))) ev_c (rv_I (by walk_at "mz side"))
    have e12 := e1.trans e2
    refine q_when (b := decide (f % 12 = 4)) (by walk_at "mz ev") (fun hb H3 e3 => ?_) (fun hb H3 e3 => ?_)
    · refine q_asgLT (lt_mapR1 (n := 4) (fun i => keyD ((u * (2 * (i : Int) + 1) + (i : Int)) % n, (i : Int))) (by walk_at "mz ev") (by omega) (fun x => rfl) fun i H4 e4 hi => td_key (by walk_at "mz ev") (by walk_at "mz ev")) fun l H4 nl e4 hl => ?_
      rw [keys_map] at hl
      refine s_retLT (lt_cat (ev_var rfl) hl (lt_lcR1 (n := 60) (fun i => decide ((i : Int) % 2 = 1)) (fun i => keyD (((i : Int) + u) % n, 4)) (by walk_at "mz ev") (by omega) (fun x => rfl) (fun i H5 e5 hi => by walk_at "mz ev") (fun i H5 e5 hi _ => td_key (by walk_at "mz ev") ev_c)) ?_) fun p H5 np e5 hp => ?_
      · have := len_filt (fun i => decide ((i : Int) % 2 = 1)) (fun i => keyD (((i : Int) + u) % n, 4)) (60 : Int).toNat
        simp only [List.length_map, List.length_range] at this ⊢
        omega
      · rw [keys_mapF, ← List.map_append] at hp
        have h1 := keys_ok1 (n := n) (m := (4 : Int).toNat) (g := fun i => ((u * (2 * (i : Int) + 1) + (i : Int)) % n, (i : Int))) fun i hi => ⟨mod_here (n := n) (by omega) _, here5 (by show (0 : Int) ≤ (i : Int); omega) (by show (i : Int) < 5; omega)⟩
        have h2 := keys_ok (n := n) (m := (60 : Int).toNat) (p := fun i => decide ((i : Int) % 2 = 1)) (g := fun i => (((i : Int) + u) % n, 4)) fun i hi => ⟨mod_here (n := n) (by omega) _, here5 (by dsimp only; omega) (by dsimp only; omega)⟩
        exact q _ ⟨keys_app2 h1.1 h2.1, by rw [List.length_append]; have := h1.2; have := h2.2; omega⟩ p H5 (fresh_back ((e12.trans e3).trans e4) np) (((e12.trans e3).trans e4).trans e5) hp
    simp only [decide_eq_false_iff_not] at hb
    have e13 := e12.trans e3
    refine q_when (b := decide (f % 12 = 10)) (by walk_at "mz ev") (fun hb2 H4 e4 => ?_) (fun hb2 H4 e4 => ?_)
    · have hb2 := of_decide_eq_true hb2
      obtain ⟨hn20, hn40⟩ := hz10 hb2
      refine s_retLT (ds := ([(2, 0), (n - 3, 1), (1, 2), (n - 2, 3), (0, 4)] : List Key2).map keyD) (lt_lst (ea_tc (td_key ev_c ev_c) (ea_tc (td_key (by walk_at "mz ev") ev_c) (ea_tc (td_key ev_c ev_c) (ea_tc (td_key (by walk_at "mz ev") ev_c) (ea_tc (td_key ev_c ev_c) ea_tn))))) (by simp)) fun p H5 np e5 hp => q _ ⟨?_, by simp⟩ p H5 (fresh_back (e13.trans e4) np) ((e13.trans e4).trans e5) hp
      intro k hk
      simp only [List.mem_cons, List.not_mem_nil, or_false] at hk
      rcases hk with h | h | h | h | h <;> subst h <;> exact ⟨⟨by dsimp only; omega, by dsimp only; omega⟩, by dsimp only; omega, by dsimp only; omega⟩
    simp only [decide_eq_false_iff_not] at hb2
    have e14 := e13.trans e4
    refine q_when (b := decide (f % 12 = 7)) (by walk_at "mz ev") (fun hb3 H5 e5 => ?_) (fun hb3 H5 e5 => ?_)
    · refine s_retLT (lt_mapR2 (lo := 1) (n := n) (fun i => keyD (1 + (i : Int), (1 + (i : Int) + u) % 5)) (by walk_at "mz ev") ⟨by omega, by omega, by omega, by omega⟩ (fun x => rfl) fun i H6 e6 hi => td_key (by walk_at "mz ev") (by walk_at "mz ev")) fun p H6 np e6 hp => ?_
      rw [keys_map] at hp
      have h1 := keys_ok1 (n := n) (m := (n - 1).toNat) (g := fun i => (1 + (i : Int), (1 + (i : Int) + u) % 5)) fun i hi => ⟨⟨by show 0 ≤ 1 + (i : Int); omega, by show 1 + (i : Int) < n; omega⟩, mod_here (n := 5) (by decide) _⟩
      exact q _ ⟨h1.1, by have := h1.2; omega⟩ p H6 (fresh_back (e14.trans e5) np) ((e14.trans e5).trans e6) hp
    have e15 := e14.trans e5
    refine q_when (b := decide (f % 12 ∈ [6, 8])) (et_test (ev_in2 (by walk_at "mz ev"))) (fun hb6 H6 e6 => ?_) (fun hb6 H6 e6 => ?_)
    · refine s_retLT (ds := ([(u % n, 0), ((u * 7 + 5) % n, 0)] : List Key2).map keyD) (lt_lst (ea_tc (td_key (by walk_at "mz ev") ev_c) (ea_tc (td_key (by walk_at "mz ev") ev_c) ea_tn)) (by simp)) fun p H7 np e7 hp => q _ ⟨?_, by simp⟩ p H7 (fresh_back (e15.trans e6) np) ((e15.trans e6).trans e7) hp
      intro k hk
      simp only [List.mem_cons, List.not_mem_nil, or_false] at hk
      rcases hk with h | h <;> subst h <;> exact ⟨mod_here (n := n) (by omega) _, here5 (by dsimp only; omega) (by dsimp only; omega)⟩
    have e16 := e15.trans e6
    refine q_when (b := decide (f % 12 = 5) || decide (f % 12 = 9)) (by walk_at "mz ev") (fun hb5 H7 e7 => ?_) (fun hb5 H7 e7 => ?_)
    · refine s_retLT (lt_mapR1 (n := 5 + u % 56) (fun i => keyD (((i : Int) * (i : Int) + u) % n, (i : Int) * 3 % 5)) (by walk_at "mz ev") (by omega) (fun x => rfl) fun i H8 e8 hi => td_key (by walk_at "mz ev") (by walk_at "mz ev")) fun p H8 np e8 hp => ?_
      rw [keys_map] at hp
      have h1 := keys_ok1 (n := n) (m := (5 + u % 56).toNat) (g := fun i => (((i : Int) * (i : Int) + u) % n, (i : Int) * 3 % 5)) fun i hi => ⟨mod_here (n := n) (by omega) _, mod_here (n := 5) (by decide) _⟩
      exact q _ ⟨h1.1, by have := h1.2; omega⟩ p H8 (fresh_back (e16.trans e7) np) ((e16.trans e7).trans e8) hp
    simp only [Bool.or_eq_false_iff, decide_eq_false_iff_not] at hb5
    have e17 := e16.trans e7
    refine q_asgLT (ds := []) (lt_lst ea_tn (by simp)) fun l0 H8 nl0 e8 hl0 => ?_
    have e18 := e17.trans e8
    refine q_cut (M := fun σ' H' => Ex H H' ∧ ∃ (l : Addr) (ks : List Key2), H l = none ∧ σ' = [some (.ref a), some (.int n), some (.int f), some (.int u), some (.ref l), none] ∧ LstT H' l (ks.map keyD) ∧ (∀ k ∈ ks, KeyOk n k) ∧ ks.length ≤ 60) ?_ ?_
    · refine s_when (b := decide (f % 6 = 3)) (by walk_at "mz ev") (fun hb8 H9 e9 => ?_) (fun hb8 H9 e9 => ⟨e18.trans e9, l0, [], fresh_back e17 nl0, rfl, hl0.ex e9, (fun k hk => absurd hk (by simp)), by simp⟩)
      have hb8 := of_decide_eq_true hb8
      obtain ⟨hn2, hn6⟩ := hz3 hb8
      have hn6 : n ≤ 6 := by omega
      refine s_asgLT (lt_mapR2 (lo := 1) (n := n) (fun i => keyD (1 + (i : Int), 1 + (i : Int) - 1)) (by walk_at "mz ev") ⟨by omega, by omega, by omega, by omega⟩ (fun x => rfl) fun i H10 e10 hi => td_key (by walk_at "mz ev") (by walk_at "mz ev")) fun p H10 np e10 hp => ?_
      rw [keys_map] at hp
      have h1 := keys_ok1 (n := n) (m := (n - 1).toNat) (g := fun i => (1 + (i : Int), 1 + (i : Int) - 1)) fun i hi => ⟨⟨by show 0 ≤ 1 + (i : Int); omega, by show 1 + (i : Int) < n; omega⟩, here5 (by show (0 : Int) ≤ 1 + (i : Int) - 1; omega) (by show 1 + (i : Int) - 1 < 5; omega)⟩
      exact ⟨(e18.trans e9).trans e10, p, _, fresh_back (e18.trans e9) np, rfl, hp, h1.1, by have := h1.2; omega⟩
    · rintro σ' H9 ⟨e9, l, ks0, nlH, rfl, hl, hk0, hk60⟩
      obtain ⟨j, ej, hj27, hjl⟩ := min_len (ns := ns)
      obtain ⟨hs1, hs2⟩ := step3 ⟨j, by omega⟩
      refine q_forR3 (lo := 5) (hi := (j : Int)) (c := 3) (n := (j - 3) / 3) (ea_cons ev_c (ea_cons (ev_is (ev_min2 (ev_lenS (ev_var rfl) (ex_l e9 hS)) ev_c) (by rw [ej])) (ea_cons ev_c ea_nil))) ⟨by decide, by decide, hs1, hs2⟩ (fun i σ' H' => Ex H H' ∧ ∃ (y5 : Option V) (ks : List Key2), σ' = [some (.ref a), some (.int n), some (.int f), some (.int u), some (.ref l), y5] ∧ LstT H' l (ks.map keyD) ∧ (∀ k ∈ ks, KeyOk n k) ∧ ks.length ≤ 60 + i) (fun H10 e10 => ⟨e9.trans e10, none, ks0, rfl, hl.ex e10, hk0, by omega⟩) (fun i σ' H' hi hP => ?_) (fun σ' H' hP => ?_)
      · obtain ⟨eH, y5, ks, rfl, hL, hwf, hlen⟩ := hP
        have hcell : ∀ {ta : TE} {H' : Hp}, Ex H H' → Ev (tOp (rIxL K) (tVar 0) (tVar 5)) [some (.ref a), some (.int n), some (.int f), some (.int u), some (.ref l), some (.int (5 + (i : Int) * 3))] H' (.int (ns.getD (5 + (i : Int) * 3).toNat 0)) := fun e => ev_scr (ev_var rfl) (ex_l e hS) (ev_var rfl) (by omega) (by omega)
        refine s_appT hL (ev_var rfl) (td_key (a := mix (ns.getD (5 + (i : Int) * 3).toNat 0) 0 % n) (b := mix (ns.getD (5 + (i : Int) * 3).toNat 0) 2 % 5) (ev_op (ev_call0 (ea_cons (hcell (ta := tVar 0) eH) (ea_cons ev_c ea_nil)) sv_l_mix) (ev_var rfl) (rv_I (by omega))) (ev_op (ev_call0 (ea_cons (hcell (ta := tVar 0) eH) (ea_cons ev_c ea_nil)) sv_l_mix) ev_c (rv_I (by walk_at "mz side")))) (by rw [List.length_map]; omega) fun H11 xs v e11 hx11 hp11 => ⟨Ex.mut (eH.trans e11) nlH, _, ks ++ [_], rfl, by rw [List.map_append]; exact hp11, keys_app hwf ⟨mod_here (n := n) (by omega) _, mod_here (n := 5) (by decide) _⟩, by simp; omega⟩
      · obtain ⟨eH, y5, ks, rfl, hL, hwf, hlen⟩ := hP
        exact s_ret (ev_var rfl) fun H10 e10 => q ks ⟨hwf, by omega⟩ l H10 nlH (eH.trans e10) (hL.ex e10)
end

/-! ### the steps out of a state -/
abbrev State := Int × List Int
def stateD (s : State) : PyData := .tuple [.int s.1, intsD s.2]
def stepF (ks : List Key2) (room : Int) (held : List Int) (d : Door) : List State :=
  if opensF d held = true then (if d.1 = room then [(d.2.1, takenF ks d.2.1 held)] else if d.2.1 = room then [(d.1, takenF ks d.1 held)] else []) else []
def stepsF (ds : List Door) (ks : List Key2) (room : Int) (held : List Int) : List State := ds.flatMap (stepF ks room held)
theorem stepsF_take {ds : List Door} {ks : List Key2} {room : Int} {held : List Int} {i : Nat} {d : Door} (h : ds[i]? = some d) : stepsF (ds.take (i + 1)) ks room held = stepsF (ds.take i) ks room held ++ stepF ks room held d := by
  have e : ds.take (i + 1) = ds.take i ++ [d] := by rw [List.take_succ, h]; rfl
  unfold stepsF
  rw [e, List.flatMap_append]
  simp
theorem stepF_len (ks : List Key2) (room : Int) (held : List Int) (d : Door) : (stepF ks room held d).length ≤ 1 := by
  unfold stepF
  split
  · split
    · simp
    · split <;> simp
  · simp
theorem stepsF_len (ks : List Key2) (room : Int) (held : List Int) : ∀ ds : List Door, (stepsF ds ks room held).length ≤ ds.length
  | [] => by simp [stepsF]
  | d :: ds => by
    have h1 := stepsF_len ks room held ds
    have h2 := stepF_len ks room held d
    simp only [stepsF, List.flatMap_cons, List.length_append, List.length_cons] at *
    omega
section
variable {P : Program} {w : World} {K : PySem.W.Frag} {mg : Str → Option Value} {base : Heap}
theorem td_state {σ : L2.St} {H : Hp} {t1 t2 : TE} {a : Int} {hs : List Int} (h1 : Ev t1 σ H (.int a)) (h2 : EvTd t2 σ H (intsD hs)) : EvTd (tTup (tCons t1 (tCons t2 tNil))) σ H (stateD (a, hs)) := td_tup (ea_tc (td_int h1) (ea_tc h2 ea_tn)) (by simp)
def sp_steps (K : PySem.W.Frag) : Sp := fun vs H Q E => ∃ (v hv : V) (n room : Int) (ds : List Door) (ks : List Key2) (held : List Int), vs = [v, .int room, hv] ∧ Dp K H v (mazeF n ds ks) ∧ Dp K H hv (intsD held) ∧ DoorsOk n ds ∧
  (Here n room → ∀ p H2, H p = none → Ex H H2 → LstT H2 p ((stepsF ds ks room held).map stateD) → Q (.ref p) H2) ∧ (¬ Here n room → ∀ H2, Ex H H2 → E (cNoRoom K) none H2)
theorem ok_steps (T : Txt K mg) : Kept P w K mg base 3 "steps" ["maze", "room", "held"] (sp_steps K) := by
  refine T.d_steps.kept sc_steps (fun vs H Q E h => ?_) (fun cdv A outer s H vs Q E hr h => ?_)
  · obtain ⟨v, hv, n, room, ds, ks, held, rfl, _⟩ := h
    rfl
  · obtain ⟨v, hv, n, room, ds, ks, held, rfl, hm, hh, hok, q, qe⟩ := h
    refine ⟨_, (pss_cons (ps_expr (pe_fn (ok_need_room (K := K) T) (hr.mono (by decide)) (passR (takes_of rfl rfl rfl rfl)) (by rfl) (pa_cons (pv 0) (pa_cons (pv 1) pa_nil))))
      (pss_cons (ps_set (i := 3) sc_steps.nd rfl (Or.inl rfl) (pe_lst pa_nil))
      (pss_cons (ps_for (passes_of rfl) rfl (pi_list_K (K := K) rfl (pe_ix (ix_tup_K (K := K) rfl) (pv 0) pe_int (fun _ _ => rfl))) (pg_name (i := 4) sc_steps.nd rfl (Or.inl rfl))
        (pss_one (ps_if (pt_val (pe_fn (ok_opens (K := K) T) (hr.mono (by decide)) passL (by rfl) (pa_cons (pv 4) (pa_cons (pv 2) pa_nil))))
        (pss_one (ps_if (pt_cmpR op_eq (pe_ix (ix_tup_K (K := K) rfl) (pv 4) pe_int (fun _ _ => rfl)) (pv 1) (nomark _))
        (pss_one (ps_expr (pe_bm_K (K := K) rfl PySem.F.plainAttrs_list PySem.F.slot_list_append PySem.F.type_list_append mt_append (pv 3) (pa_cons (pe_tup (pa_cons (pe_ix (ix_tup_K (K := K) rfl) (pv 4) pe_int (fun _ _ => rfl)) (pa_cons (pe_fn (ok_taken (K := K) T) (hr.mono (by decide)) (passR (takes_of rfl rfl rfl rfl)) (by rfl) (pa_cons (pv 0) (pa_cons (pe_ix (ix_tup_K (K := K) rfl) (pv 4) pe_int (fun _ _ => rfl)) (pa_cons (pv 2) pa_nil)))) pa_nil))) pa_nil))))
        (pss_one (ps_if (pt_cmpR op_eq (pe_ix (ix_tup_K (K := K) rfl) (pv 4) pe_int (fun _ _ => rfl)) (pv 1) (nomark _))
        (pss_one (ps_expr (pe_bm_K (K := K) rfl PySem.F.plainAttrs_list PySem.F.slot_list_append PySem.F.type_list_append mt_append (pv 3) (pa_cons (pe_tup (pa_cons (pe_ix (ix_tup_K (K := K) rfl) (pv 4) pe_int (fun _ _ => rfl)) (pa_cons (pe_fn (ok_taken (K := K) T) (hr.mono (by decide)) (passR (takes_of rfl rfl rfl rfl)) (by rfl) (pa_cons (pv 0) (pa_cons (pe_ix (ix_tup_K (K := K) rfl) (pv 4) pe_int (fun _ _ => rfl)) (pa_cons (pv 2) pa_nil)))) pa_nil))) pa_nil))))
        pss_nil))))
        pss_nil)))
      (pss_one (ps_ret (pv 3)))))), ?_⟩
    refine ⟨_, rfl, _, rfl, v, n, room, _, rfl, hm, fun hr1 H1 e1 => ?_, qe⟩
    dsimp only
    refine q_asgLT (ds := []) (lt_lst ea_tn (by simp)) fun l H2 nl e2 hl => ?_
    have nlH : H l = none := fresh_back e1 nl
    have e12 := e1.trans e2
    obtain ⟨dv, hdv, edv⟩ := dp_item hm atI1
    refine q_forV (edv e12 (ev_var rfl) ev_c) hdv e12 (fun i σ' H' => Ex H H' ∧ ∃ y, σ' = [some v, some (.int room), some hv, some (.ref l), y] ∧ LstT H' l ((stepsF (ds.take i) ks room held).map stateD)) (fun H3 e3 => ⟨e12.trans e3, none, rfl, by simpa [stepsF] using hl.ex e3⟩) (fun i σ' H' hP => hP.1) (fun i d x σ' H' hdi hx hP => ?_) (fun σ' H' hP => ?_)
    · obtain ⟨eH, y, rfl, hL⟩ := hP
      rw [List.getElem?_map] at hdi
      obtain ⟨⟨d1, d2, d3⟩, hd1, rfl⟩ := Option.map_eq_some_iff.mp hdi
      have hwf := hok.1 _ (List.mem_of_getElem? hd1)
      have hlen : ((stepsF (ds.take i) ks room held).map stateD).length < 100000 := by
        rw [List.length_map]
        have h1 := stepsF_len ks room held (ds.take i)
        have h2 := List.length_take_le i ds
        have h3 := hok.2
        have h4 : (ds.take i).length ≤ ds.length := by rw [List.length_take]; omega
        omega
      show tIfS _ _ _ _ _ _
      refine s_when (b := opensF (d1, d2, d3) held) (et_B (ev_call0 (ea_cons (ev_var rfl) (ea_cons (ev_var rfl) ea_nil)) (sv_opens (dp_ex eH hx) (dp_ex eH hh)))) (fun hb H3 e3 => ?_) (fun hb H3 e3 => ⟨eH.trans e3, _, rfl, ?_⟩)
      · have eH3 := eH.trans e3
        have x0 : ∀ {σ : L2.St} {H' : Hp}, Ex H H' → σ[4]? = some (some x) → Ev (tOp (rIxT K) (tVar 4) (tC (.int 0))) σ H' (.int d1) := fun e h => ev_of_ed (ed_ixT (ed_any (ev_var h) (dp_ex e hx)) ev_c atI0)
        have x1 : ∀ {σ : L2.St} {H' : Hp}, Ex H H' → σ[4]? = some (some x) → Ev (tOp (rIxT K) (tVar 4) (tC (.int 1))) σ H' (.int d2) := fun e h => ev_of_ed (ed_ixT (ed_any (ev_var h) (dp_ex e hx)) ev_c atI1)
        refine tif_cases (b := decide (d1 = room)) (et_test (ev_op (x0 eH3 rfl) (ev_var rfl) rv_eqI)) (fun hb2 H4 e4 => ?_) (fun hb2 H4 e4 => ?_)
        · have eH4 := eH3.trans e4
          refine s_appT (d := stateD (d2, takenF ks d2 held)) (hL.ex (e3.trans e4)) (ev_var rfl) (td_state (x1 eH4 rfl) (td_takenC (ea_cons (ev_var rfl) (ea_cons (x1 eH4 rfl) (ea_cons (ev_var rfl) ea_nil))) (dp_ex eH4 hm) (dp_ex eH4 hh) hwf.2.1)) hlen fun H5 xs v5 e5 hx5 hp5 => ⟨Ex.mut (eH4.trans e5) nlH, _, rfl, ?_⟩
          rw [stepsF_take hd1]
          simp only [stepF, if_pos hb, if_pos (of_decide_eq_true hb2), List.map_append]
          exact hp5
        · have eH4 := eH3.trans e4
          refine s_when (b := decide (d2 = room)) (et_test (ev_op (x1 eH4 rfl) (ev_var rfl) rv_eqI)) (fun hb3 H5 e5 => ?_) (fun hb3 H5 e5 => ⟨eH4.trans e5, _, rfl, ?_⟩)
          · have eH5 := eH4.trans e5
            refine s_appT (d := stateD (d1, takenF ks d1 held)) (hL.ex ((e3.trans e4).trans e5)) (ev_var rfl) (td_state (x0 eH5 rfl) (td_takenC (ea_cons (ev_var rfl) (ea_cons (x0 eH5 rfl) (ea_cons (ev_var rfl) ea_nil))) (dp_ex eH5 hm) (dp_ex eH5 hh) hwf.1)) hlen fun H6 xs v5 e6 hx5 hp5 => ⟨Ex.mut (eH5.trans e6) nlH, _, rfl, ?_⟩
            rw [stepsF_take hd1]
            simp only [stepF, if_pos hb, if_neg (of_decide_eq_false hb2), if_pos (of_decide_eq_true hb3), List.map_append]
            exact hp5
          · rw [stepsF_take hd1]
            simp only [stepF, if_pos hb, if_neg (of_decide_eq_false hb2), if_neg (of_decide_eq_false hb3), List.append_nil]
            exact hL.ex ((e3.trans e4).trans e5)
      · rw [stepsF_take hd1]
        simp only [stepF, hb, Bool.false_eq_true, if_false, List.append_nil]
        exact hL.ex e3
    · obtain ⟨eH, y, rfl, hL⟩ := hP
      rw [List.length_map, List.take_length] at hL
      exact s_ret (ev_var rfl) fun H3 e3 => q hr1 l H3 nlH (eH.trans e3) (hL.ex e3)
end

section
variable {P : Program} {w : World} {K : PySem.W.Frag} {mg : Str → Option Value} {base : Heap}
/-! ### the steps, as the law has them -/
def sp_l_steps (K : PySem.W.Frag) : Sp := fun vs H Q E => ∃ (dv lv hv : V) (room : Int) (ds : List Door) (ks : List Key2) (held : List Int), vs = [dv, lv, .int room, hv] ∧ Dp K H dv (.list (ds.map doorD)) ∧ Dp K H lv (.list (ks.map keyD)) ∧ Dp K H hv (intsD held) ∧ ds.length ≤ 1000 ∧
  (∀ p H2, H p = none → Ex H H2 → LstT H2 p ((stepsF ds ks room held).map stateD) → Q (.ref p) H2)
theorem ok_l_steps (T : Txt K mg) : Kept P w K mg base 2 "_law_steps" ["_law_doors_here", "_law_lying_here", "_law_room", "_law_held"] (sp_l_steps K) := by
  refine T.d_l_steps.kept sc_l_steps (fun vs H Q E h => ?_) (fun cdv A outer s H vs Q E hr h => ?_)
  · obtain ⟨dv, lv, hv, room, ds, ks, held, rfl, _⟩ := h
    rfl
  · obtain ⟨dv, lv, hv, room, ds, ks, held, rfl, hd, hm, hh, hok, q⟩ := h
    refine ⟨_, (pss_cons (ps_set (i := 4) sc_l_steps.nd rfl (Or.inl rfl) (pe_lst pa_nil))
      (pss_cons (ps_for (passes_of rfl) rfl (pi_list_K (K := K) rfl (pv 0)) (pg_tup_K (K := K) rfl (by rfl) (pgs_cons (pg_name (i := 5) sc_l_steps.nd rfl (Or.inl rfl)) (pgs_cons (pg_name (i := 6) sc_l_steps.nd rfl (Or.inl rfl)) (pgs_cons (pg_name (i := 7) sc_l_steps.nd rfl (Or.inl rfl)) pgs_nil))))
        (pss_one (ps_if (PW.pt (pw_or (pt_cmpR op_isN (pv 7) pe_non (nomark _)) (pw_or1 (pt_cmpR (op_in_seq_K (K := K) rfl) (pv 7) (pv 3) (by rfl)))))
        (pss_one (ps_if (pt_cmpR op_eq (pv 5) (pv 2) (nomark _))
        (pss_one (ps_expr (pe_bm_K (K := K) rfl PySem.F.plainAttrs_list PySem.F.slot_list_append PySem.F.type_list_append mt_append (pv 4) (pa_cons (pe_tup (pa_cons (pv 6) (pa_cons (pe_fn (ok_l_taken (K := K) T) (hr.mono (by decide)) passL (by rfl) (pa_cons (pv 1) (pa_cons (pv 6) (pa_cons (pv 3) pa_nil)))) pa_nil))) pa_nil))))
        (pss_one (ps_if (pt_cmpR op_eq (pv 6) (pv 2) (nomark _))
        (pss_one (ps_expr (pe_bm_K (K := K) rfl PySem.F.plainAttrs_list PySem.F.slot_list_append PySem.F.type_list_append mt_append (pv 4) (pa_cons (pe_tup (pa_cons (pv 5) (pa_cons (pe_fn (ok_l_taken (K := K) T) (hr.mono (by decide)) passL (by rfl) (pa_cons (pv 1) (pa_cons (pv 5) (pa_cons (pv 3) pa_nil)))) pa_nil))) pa_nil))))
        pss_nil))))
        pss_nil)))
      (pss_one (ps_ret (pv 4))))), ?_⟩
    refine q_asgLT (ds := []) (lt_lst ea_tn (by simp)) fun l H2 nlH e12 hl => ?_
    refine q_forV (ev_var rfl) hd e12 (fun i σ' H' => Ex H H' ∧ ∃ y5 y6 y7, σ' = [some dv, some lv, some (.int room), some hv, some (.ref l), y5, y6, y7] ∧ LstT H' l ((stepsF (ds.take i) ks room held).map stateD)) (fun H3 e3 => ⟨e12.trans e3, none, none, none, rfl, by simpa [stepsF] using hl.ex e3⟩) (fun i σ' H' hP => hP.1) (fun i d x σ' H' hdi hx hP => ?_) (fun σ' H' hP => ?_)
    · obtain ⟨eH, y5, y6, y7, rfl, hL⟩ := hP
      rw [List.getElem?_map] at hdi
      obtain ⟨⟨d1, d2, d3⟩, hd1, rfl⟩ := Option.map_eq_some_iff.mp hdi
      have hlen : ((stepsF (ds.take i) ks room held).map stateD).length < 100000 := by
        rw [List.length_map]
        have h1 := stepsF_len ks room held (ds.take i)
        have h4 : (ds.take i).length ≤ ds.length := by rw [List.length_take]; omega
        omega
      cases hx with
      | tup ho hda =>
        rename_i b xs
        obtain ⟨x1, x2, x3, rfl, h1, h2, h3⟩ := dpAll3 hda
        cases dp_int_inv h1
        cases dp_int_inv h2
        refine ⟨b, _, rfl, ex_t eH ho, rfl, _, _, rfl, _, _, rfl, _, _, rfl, rfl, ?_⟩
        dsimp only
        refine s_when (b := opensF (d1, d2, d3) held) (et_open (ed_any (ev_var rfl) (dp_ex eH h3)) (ed_any (ev_var rfl) (dp_ex eH h3)) (ed_any (ev_var rfl) (dp_ex eH hh))) (fun hb H3 e3 => ?_) (fun hb H3 e3 => ⟨eH.trans e3, _, _, _, rfl, ?_⟩)
        · have eH3 := eH.trans e3
          refine tif_cases (b := decide (d1 = room)) (by walk_at "mz ev") (fun hb2 H4 e4 => ?_) (fun hb2 H4 e4 => ?_)
          · have eH4 := eH3.trans e4
            refine s_appT (d := stateD (d2, takenF ks d2 held)) (hL.ex (e3.trans e4)) (ev_var rfl) (td_state (ev_var rfl) (td_l_takenC (ea_cons (ev_var rfl) (ea_cons (ev_var rfl) (ea_cons (ev_var rfl) ea_nil))) (dp_ex eH4 hm) (dp_ex eH4 hh))) hlen fun H5 xs v5 e5 hx5 hp5 => ⟨Ex.mut (eH4.trans e5) nlH, _, _, _, rfl, ?_⟩
            rw [stepsF_take hd1]
            simp only [stepF, if_pos hb, if_pos (of_decide_eq_true hb2), List.map_append]
            exact hp5
          · have eH4 := eH3.trans e4
            refine s_when (b := decide (d2 = room)) (by walk_at "mz ev") (fun hb3 H5 e5 => ?_) (fun hb3 H5 e5 => ⟨eH4.trans e5, _, _, _, rfl, ?_⟩)
            · have eH5 := eH4.trans e5
              refine s_appT (d := stateD (d1, takenF ks d1 held)) (hL.ex ((e3.trans e4).trans e5)) (ev_var rfl) (td_state (ev_var rfl) (td_l_takenC (ea_cons (ev_var rfl) (ea_cons (ev_var rfl) (ea_cons (ev_var rfl) ea_nil))) (dp_ex eH5 hm) (dp_ex eH5 hh))) hlen fun H6 xs v5 e6 hx5 hp5 => ⟨Ex.mut (eH5.trans e6) nlH, _, _, _, rfl, ?_⟩
              rw [stepsF_take hd1]
              simp only [stepF, if_pos hb, if_neg (of_decide_eq_false hb2), if_pos (of_decide_eq_true hb3), List.map_append]
              exact hp5
            · rw [stepsF_take hd1]
              simp only [stepF, if_pos hb, if_neg (of_decide_eq_false hb2), if_neg (of_decide_eq_false hb3), List.append_nil]
              exact hL.ex ((e3.trans e4).trans e5)
        · rw [stepsF_take hd1]
          simp only [stepF, hb, Bool.false_eq_true, if_false, List.append_nil]
          exact hL.ex e3
    · obtain ⟨eH, y5, y6, y7, rfl, hL⟩ := hP
      rw [List.length_map, List.take_length] at hL
      exact s_ret (ev_var rfl) fun H3 e3 => q l H3 nlH (eH.trans e3) (hL.ex e3)
end

section
variable {P : Program} {w : World} {K : PySem.W.Frag} {mg : Str → Option Value} {base : Heap}
/-! ### a room far off -/
def sp_l_far (K : PySem.W.Frag) : Sp := fun vs H Q _ => ∃ c n : Int, vs = [.int c, .int n] ∧ 1 ≤ n ∧ ∀ far, ¬ Here n far → ∀ H2, Ex H H2 → Q (.int far) H2
theorem ok_l_far (T : Txt K mg) : Kept P w K mg base 1 "_law_far" ["_law_cell", "_law_size_here"] (sp_l_far K) := by
  refine T.d_l_far.kept sc_l_far (fun vs H Q E h => ?_) (fun cdv A outer s H vs Q E hr h => ?_)
  · obtain ⟨c, n, rfl, _⟩ := h
    rfl
  · obtain ⟨c, n, rfl, hn, q⟩ := h
    refine ⟨_, (pss_one (ps_ret (pe_ix (ix_list_K (K := K) rfl) (pe_lst (pa_cons (pe_un un_neg pe_int) (pa_cons (pv 1) (pa_cons (pe_op op_sub (pe_un un_neg pe_int) (pe_op op_mod (pe_callB call_abs (by rfl) T.n_abs (by decide +kernel) (pa_cons (pv 0) pa_nil)) (pe_op op_pow pe_int pe_int))) (pa_cons (pe_op op_add (pv 1) (pe_op op_mod (pe_callB call_abs (by rfl) T.n_abs (by decide +kernel) (pa_cons (pv 0) pa_nil)) (pe_op op_pow pe_int pe_int))) pa_nil))))) (pe_op op_mod (pe_op op_fdiv (pv 0) pe_int) pe_int) (fun _ _ => rfl)))), ?_⟩
    obtain ⟨ab, hab⟩ : ∃ ab : Int, (if c < 0 then -c else c) = ab := ⟨_, rfl⟩
    obtain ⟨tt, htt⟩ : ∃ tt : Int, (10 : Int) ^ (30 : Int).toNat = tt := ⟨_, rfl⟩
    have htp : 0 < tt := by rw [← htt]; decide
    have hab0 : 0 ≤ ab % tt := Int.emod_nonneg _ (by omega)
    obtain ⟨j, hj⟩ : ∃ j : Int, c / 12 % 4 = j := ⟨_, rfl⟩
    have hj0 : 0 ≤ j ∧ j < 4 := by omega
    obtain ⟨far, hfar, hnf⟩ : ∃ far : Int, ([-1, n, -1 - ab % tt, n + ab % tt] : List Int).getD j.toNat 0 = far ∧ ¬ Here n far := by
      refine ⟨_, rfl, fun z => ?_⟩
      obtain ⟨z1, z2⟩ := z
      rcases (show j = 0 ∨ j = 1 ∨ j = 2 ∨ j = 3 by omega) with h | h | h | h <;> subst h <;> simp at z1 z2 <;> omega
    refine s_ret (v := .int far) ?_ fun H2 e2 => q far hnf H2 e2
    rw [← hfar]
    refine ev_ixInts (ea_tc (td_int (ev_un ev_c ru_neg)) (ea_tc (td_int (ev_var rfl)) (ea_tc (td_int ?_) (ea_tc (td_int ?_) ea_tn)))) ?_ (by omega) (by simp; omega)
    · rw [← hab, ← htt]
      walk_at "mz ev"
    · rw [← hab, ← htt]
      walk_at "mz ev"
    · rw [← hj]
      walk_at "mz ev"
end

theorem nb_state (s : State) : nb (stateD s) = true := by
  have := nb_ints s.2
  simp [stateD, nb, nbAll, this]
theorem dep_state (s : State) : (stateD s).depth ≤ 2 := by
  have := dep_ints s.2
  simp only [stateD, PyData.depth, PyData.depthAll]
  omega
theorem nb_states (ss : List State) : nb (.list (ss.map stateD)) = true := by simp only [nb]; exact nbAll_map nb_state ss
theorem sh_states (ss : List State) : SeqAt.shaped (.list (ss.map stateD)) = true := shaped_of (nb_states ss) (by have := depth_list (depth_map dep_state ss); omega)

/-! ### dicts whose keys are states -/
def nkS (s : State) : NestedKey := .tup [.num s.1, .tup (s.2.map .num)]
theorem nkS_inj {a b : State} : nkS a = nkS b ↔ a = b := by
  refine ⟨fun e => ?_, fun e => by rw [e]⟩
  obtain ⟨a1, a2⟩ := a
  obtain ⟨b1, b2⟩ := b
  simp only [nkS, NestedKey.tup.injEq, List.cons.injEq, NestedKey.num.injEq, and_true] at e
  rw [e.1, map_inj (f := NestedKey.num) (fun a b z => by simpa using z) e.2]
theorem nk_depth : ∀ hs : List Int, NestedKey.depthAll (hs.map .num) = 0
  | [] => by simp [NestedKey.depthAll]
  | x :: r => by simp [NestedKey.depthAll, NestedKey.depth, nk_depth r]
theorem nkS_depth (s : State) : (nkS s).depth ≤ 8 := by
  simp [nkS, NestedKey.depth, NestedKey.depthAll, nk_depth]
abbrev Ent := State × Addr × V
def PN (p : Ent) (q : NestedKey × Addr × Value) : Prop := q.1 = nkS p.1 ∧ q.2.1 = p.2.1 ∧ RelV p.2.2 q.2.2
def RawN (P : Program) (w : World) (h : Heap) (a : Addr) (L : List Ent) : Prop := L.length ≤ sizeLine ∧ (a == sysModules) = false ∧ ∃ xs, Paired PN L xs ∧
  ∃ o es ep, h.get? a = some o ∧ o.ExactDict ∧ o.data = .dict es ep ∧ es.toList = xs.map (entryOfKey (nestedKind P w)) ∧ (xs.map (·.1)).Nodup
def DN (P : Program) (w : World) (a : Addr) (L : List Ent) : HO := .ext fun h => RawN P w h a L
def KeysT (H : Hp) (L : List Ent) : Prop := ∀ p ∈ L, Td H (.ref p.2.1) (stateD p.1)
def hasN (L : List Ent) (k : State) : Bool := L.any fun p => decide (p.1 = k)
def getN (L : List Ent) (k : State) : Option V := (L.find? fun p => decide (p.1 = k)).map (·.2.2)
def putN (L : List Ent) (k : State) (b : Addr) (v : V) : List Ent := if hasN L k = true then L.map (fun p => if p.1 = k then (p.1, p.2.1, v) else p) else L ++ [(k, b, v)]
section
variable {P : Program} {w : World} {H : Hp} {h : Heap} {a : Addr} {L : List Ent}
theorem rawN_keep {h' : Heap} (r : RawN P w h a L) (k : ∀ o, h.get? a = some o → h'.get? a = some o) : RawN P w h' a L := by
  obtain ⟨z, y, xs, p, o, es, ep, e, q⟩ := r
  exact ⟨z, y, xs, p, o, es, ep, k o e, q⟩
theorem dn_new (r : RawN P w h a L) : ObjOk P w H h a (DN P w a L) := by
  have r0 := r
  obtain ⟨_, _, _, _, o, _, _, e, _⟩ := r0
  exact ⟨r, ⟨o, e⟩, fun h1 h2 p k => rawN_keep p k⟩
theorem dn_ok (ok : HOk P w H h) (e : Rd H a (DN P w a L)) : RawN P w h a L := by
  have x : ObjOk P w H h a (DN P w a L) := e.ok ok
  exact x.1
theorem nested_ints : ∀ {hs : List Int} {us : List Value}, Vals (hs.map V.int) us → NestedAll h (hs.map .num) us
  | [], _, .nil => .nil
  | n :: r, _, .cons hu t => by
    obtain ⟨tk, rfl⟩ := hu
    exact .cons (.int n tk) (nested_ints t)
theorem nested_state (ok : HOk P w H h) {b : Addr} {s : State} (t : Td H (.ref b) (stateD s)) : (nestedKind P w).is h (nkS s) b := by
  refine ⟨?_, nkS_depth s⟩
  unfold stateD at t
  cases t with
  | tup ho hd =>
    rename_i xs
    cases hd with
    | cons h1 h2 =>
      cases h2 with
      | cons h3 h4 =>
        cases h4
        cases h1
        unfold intsD at h3
        cases h3 with
        | tup ho2 hd2 =>
          rename_i c ys
          have ey := tdAll_ints hd2
          subst ey
          obtain ⟨_, its, rv, o, e1, e2, n, e3⟩ := (show ObjOk P w H h b (.tup [.int s.1, .ref c]) from ok b _ ho)
          obtain ⟨_, its2, rv2, o2, f1, f2, n2, f3⟩ := (show ObjOk P w H h c (.tup (s.2.map V.int)) from ok c _ ho2)
          cases rv with
          | cons r1 rv =>
            cases rv with
            | cons r2 rv =>
              cases rv
              obtain ⟨tk, rfl⟩ := r1
              cases r2
              exact .tup e1 e2 e3 (.cons (.int _ tk) (.cons (.tup f1 f2 f3 (by simpa using nested_ints rv2)) .nil))
theorem dictOf_n (ok : HOk P w H h) (e : Rd H a (DN P w a L)) (hk : KeysT H L) : L.length ≤ sizeLine ∧ (a == sysModules) = false ∧ ∃ xs, Paired PN L xs ∧ h.DictOfH (nestedKind P w) a xs := by
  obtain ⟨z, y, xs, r, o, es, ep, h1, h2, h3, h4, h5⟩ := dn_ok ok e
  refine ⟨z, y, xs, r, o, es, ep, h1, h2, h3, h4, ?_, h5⟩
  have all : ∀ {l : List Ent} {m : List (NestedKey × Addr × Value)}, Paired PN l m → (∀ p ∈ l, Td H (.ref p.2.1) (stateD p.1)) → ∀ x ∈ m, (nestedKind P w).is h x.1 x.2.1 := by
    intro l m q
    induction q with
    | nil => intro _ x hx; exact nomatch hx
    | @cons p q ps qs hq t ih =>
      intro hk x hx
      rcases List.mem_cons.mp hx with e | hx
      · subst e
        rw [hq.1, hq.2.1]
        exact nested_state ok (hk p (by simp))
      · exact ih (fun p hp => hk p (by simp [hp])) x hx
  exact all r hk
theorem pn_at {L : List Ent} {xs : List (NestedKey × Addr × Value)} (r : Paired PN L xs) (k : State) : RelO (getN L k) ((atKey xs (nkS k)).map (·.2)) := by
  induction r with
  | nil => exact True.intro
  | @cons p q ps qs hq t ih =>
    unfold getN atKey at *
    by_cases c : p.1 = k
    · have c2 : q.1 = nkS k := by rw [hq.1, c]
      simp only [List.find?_cons, c, c2, decide_true, Option.map_some]
      exact hq.2.2
    · have c2 : ¬ q.1 = nkS k := fun z => c (nkS_inj.mp (by rw [← hq.1]; exact z))
      simp only [List.find?_cons, c, c2, decide_false]
      exact ih
theorem hasN_get (L : List Ent) (k : State) : hasN L k = (getN L k).isSome := by
  unfold hasN getN
  rw [Option.isSome_map]
  induction L with
  | nil => rfl
  | cons p r ih =>
    simp only [List.any_cons, List.find?_cons]
    by_cases c : p.1 = k
    · simp [c]
    · simp [c, ih]
theorem pn_has {L : List Ent} {xs : List (NestedKey × Addr × Value)} (r : Paired PN L xs) (k : State) : (atKey xs (nkS k)).isSome = hasN L k := by
  have h1 := (pn_at r k).isSome_eq
  rw [Option.isSome_map] at h1
  rw [hasN_get, ← h1]
theorem pn_put {L : List Ent} {xs : List (NestedKey × Addr × Value)} (r : Paired PN L xs) (k : State) (b : Addr) {v : V} {u : Value} (rv : RelV v u) : Paired PN (putN L k b v) (storedH xs (nkS k) b u) := by
  unfold putN storedH
  rw [pn_has r k]
  split
  · rename_i hh
    clear hh b
    induction r with
    | nil => exact .nil
    | @cons p q ps qs hq t ih =>
      simp only [List.map_cons]
      refine .cons ?_ ih
      unfold putAt
      by_cases c : p.1 = k
      · have c2 : q.1 = nkS k := by rw [hq.1, c]
        rw [if_pos c, if_pos c2]
        exact ⟨by rw [hq.1], hq.2.1, rv⟩
      · have c2 : ¬ q.1 = nkS k := fun z => c (nkS_inj.mp (by rw [← hq.1]; exact z))
        rw [if_neg c, if_neg c2]
        exact hq
  · exact Paired.snoc r ⟨rfl, rfl, rv⟩
theorem putN_len (L : List Ent) (k : State) (b : Addr) (v : V) : (putN L k b v).length ≤ L.length + 1 := by
  unfold putN
  split
  · simp
  · simp
end
section
variable {X : Cx} {K : PySem.W.Frag}
def rInN (P : Program) (w : World) (neg : Bool) : R2 := fun x y H Q => ∃ (b d : Addr) (k : State) (L : List Ent), x = .ref b ∧ y = .ref d ∧ Td H (.ref b) (stateD k) ∧ Rd H d (DN P w d L) ∧ KeysT H L ∧ Q (.bl (if neg then !hasN L k else hasN L k)) H
theorem room_n {A : Around} (h : A.units + 64 < cLine) : A.in1.units + 8 < cLine := by
  have : A.in1.units ≤ A.units + 1 := by first | exact Nat.le_refl _ | (show A.units + 1 ≤ A.units + 1; omega)
  omega
theorem op_inN {P : Program} {w : World} (hP : X.prog = P) (hw : X.w = w) (hu : X.A.units + 64 < cLine) : OpR X (compareOp .In) (rInN P w false) := by
  subst hP hw
  intro pins s σ H x y v u Q I rx ry h
  obtain ⟨b, d, k, L, rfl, rfl, ht, hd, hk, q⟩ := h
  cases rx
  cases ry
  obtain ⟨z, hds, xs, rel, dd⟩ := dictOf_n I.hok hd hk
  refine wpAny_in_heap (knd := nestedKind X.prog X.w) (room_n hu) (nested_state I.hok ht) hds dd ?_
  rw [pn_has rel k]
  exact ⟨.bl (hasN L k), H, I.tok _, rfl, q⟩
theorem op_notInN {P : Program} {w : World} (hP : X.prog = P) (hw : X.w = w) (hu : X.A.units + 64 < cLine) : OpR X (compareOp .NotIn) (rInN P w true) := by
  subst hP hw
  intro pins s σ H x y v u Q I rx ry h
  obtain ⟨b, d, k, L, rfl, rfl, ht, hd, hk, q⟩ := h
  cases rx
  cases ry
  obtain ⟨z, hds, xs, rel, dd⟩ := dictOf_n I.hok hd hk
  refine wpAny_notIn_heap (knd := nestedKind X.prog X.w) (room_n hu) (nested_state I.hok ht) hds dd ?_
  rw [pn_has rel k]
  exact ⟨.bl (!hasN L k), H, I.tok _, rfl, q⟩
/-- d[k] -/
def rGetN (P : Program) (w : World) : R2 := fun x y H Q => ∃ (b d : Addr) (k : State) (L : List Ent) (v : V), x = .ref d ∧ y = .ref b ∧ Td H (.ref b) (stateD k) ∧ Rd H d (DN P w d L) ∧ KeysT H L ∧ getN L k = some v ∧ Q v H
theorem pe_dgetN {o i : Expr} {pos : Pos} {td ty : TE} {P : Program} {w : World} (hP : X.prog = P) (hw : X.w = w) (hu : X.A.units + 64 < cLine) (ho : PE X o td) (hi : PE X i ty) (hs : NoSl i) : PE X (.Subscript o i pos) (tOp (rGetN P w) td ty) := by
  subst hP hw
  refine ⟨fun pins s σ H Q I h => ?_⟩
  refine subD_of PySem.F.slot_dict_getitem.lookup hs (thn (ho.run pins s σ H _ I h) fun u s1 ⟨x, H1, I1, rx, q1⟩ => thn (hi.run pins s1 σ H1 _ I1 q1) fun iv s2 ⟨y, H2, I2, ry, b, d, k, L, v, ex, ey, ht, hd, hk, hg, q2⟩ => ?_)
  subst ex ey
  obtain rfl : u = Value.ref d := rx
  obtain rfl : iv = Value.ref b := ry
  obtain ⟨z, hds, xs, rel, dd⟩ := dictOf_n I2.hok hd hk
  obtain ⟨w', hw, rw'⟩ := RelO.some_of (v := v) (o := (atKey xs (nkS k)).map (·.2)) (by rw [← hg]; exact pn_at rel k)
  obtain ⟨p, hp, hp2⟩ := Option.map_eq_some_iff.mp hw
  refine ⟨dd.typeIs, wpAny_getItem_heap (knd := nestedKind X.prog X.w) (room_n hu) (nested_state I2.hok ht) dd hp ?_⟩
  rw [hp2]
  exact ⟨v, H2, I2.tok _, rw', q2⟩
/-- d[k] = v -/
def rSetN (P : Program) (w : World) : TSet := fun o i v H Q => ∃ (b d : Addr) (k : State) (L : List Ent), o = .ref d ∧ i = .ref b ∧ Td H (.ref b) (stateD k) ∧ H d = some (DN P w d L) ∧ KeysT H L ∧ L.length < sizeLine ∧ Q (upd H d (DN P w d (putN L k b v)))
theorem set_dN {P : Program} {w : World} (hP : X.prog = P) (hw : X.w = w) (hu : X.A.units + 64 < cLine) : PSet X (rSetN P w) := by
  subst hP hw
  intro pins s σ H o i v ov iv u Q I ro ri rv h
  obtain ⟨b, d, k, L, rfl, rfl, ht, hd, hk, hl, q⟩ := h
  cases ro
  cases ri
  obtain ⟨z, hds, xs, rel, dd⟩ := dictOf_n I.hok (Rd.of hd) hk
  have hz : xs.length ≤ sizeLine := by rw [← Paired.length rel]; exact z
  have hl2 : (putN L k b v).length ≤ sizeLine := by have := putN_len L k b v; omega
  refine wpAny_setItem_heap (knd := nestedKind X.prog X.w) (hsz := hz) (room_n hu) (nested_state I.hok ht) dd fun h' dd' hs => ?_
  obtain ⟨ob, es, ep, hq, h2, h3, h4, _, h5⟩ := dd'
  exact ⟨_, d_write I (by rw [hd]; exact True.intro) hs ⟨ob, hq⟩ (dn_new ⟨hl2, hds, _, pn_put rel k b rv, ob, es, ep, hq, h2, h3, h4, h5⟩), q⟩
/-- {} -/
def tDNewN (P : Program) (w : World) : TE := fun _ H Q => ∀ p, H p = none → Q (.ref p) (upd H p (DN P w p []))
theorem raw_empty {P : Program} {w : World} (h : Heap) (hb : sysModules < h.objs.size) : RawN P w (h.push { cls := .type "dict", data := .dict #[] }) h.objs.size [] :=
  ⟨Nat.zero_le _, beq_eq_false_iff_ne.mpr (Ne.symm (Nat.ne_of_lt hb)), [], .nil, _, #[], 0, Heap.get?_push_size _ rfl, ⟨rfl, rfl, rfl⟩, rfl, rfl, List.nodup_nil⟩
theorem pe_dnewN {pos : Pos} {P : Program} {w : World} (hP : X.prog = P) (hw : X.w = w) : PE X (.Dict [] [] pos) (tDNewN P w) := by
  subst hP hw
  exact ⟨fun pins s σ H Q I h => wpAny_Dict_empty ⟨.ref s.heap.objs.size, _, I.laid (a := s.heap.objs.size) (o := DN X.prog X.w s.heap.objs.size []) (t' := s.toks) (fun _ _ q => Heap.get?_push_of_some _ q) (Nat.le_refl _) (dn_new (raw_empty s.heap I.big)), rfl, h _ (I.hok.fresh (Nat.le_refl _))⟩⟩
/-- {k: v} -/
def tDispN (P : Program) (w : World) (tk tv : TE) : TE := fun σ H Q => ∀ p, H p = none → tk σ (upd H p (DN P w p [])) fun x H1 => tv σ H1 fun y H2 => ∃ (b : Addr) (k : State), x = .ref b ∧ Td H2 (.ref b) (stateD k) ∧ H2 p = some (DN P w p []) ∧ Q (.ref p) (upd H2 p (DN P w p [(k, b, y)]))
theorem wpAny_Dict_addr {prog : Program} {w : World} {K : Type} [DecidableEq K] {knd : HeapKind prog w K} {A : Around} {E : Value → Shared → Prop} {s : Shared} {env : Env} {keys : List (Option Expr)} {values : List Expr} {pos : Pos} {pairs : List (Sem Value × Sem Value)} {Q : Value → Shared → Prop} (hu : knd.room A)
    (hshape : (evalEachOpt keys env).zip ((evalEach values env).map fun v => do let x ← v; standAt pos; pure x) = pairs.map fun p => (some p.1, p.2)) (h0 : pairs ≠ []) (hlen : pairs.length ≤ 15)
    (h : wpAny (model prog w) A (evalPairs pairs) (fun vs s₁ => ∃ ps, CarriesH knd s₁.heap vs ps ∧ s₁.heap.DictOfH knd s.heap.objs.size [] ∧
      ∀ h' tk, h'.DictOfH knd s.heap.objs.size (storedAllH [] ps) → Heap.SameBut s.heap.objs.size s₁.heap h' → Q (.ref s.heap.objs.size) { s₁ with heap := h', toks := tk }) E
      { s with heap := s.heap.push { cls := .type "dict", data := .dict #[] } }) :
    wpAny (model prog w) A (eval (.Dict keys values pos) env) Q E s := by
  rw [arm_eval_Dict, hshape, dictDisplay_pairs pairs h0 (by omega)]
  exact wpAny_bind (wpAny_standAt (wpAny_bind (wpAny_subDictH (knd := knd) (Q := fun d s' => wpAny (model prog w) A (pure (Value.ref d)) Q E s') hu hlen
    (wpAny_mono h (fun vs s₁ h₁ => by obtain ⟨ps, hc, hm, hq⟩ := h₁; exact ⟨ps, hc, hm, fun h' tk a b => wpAny_pure (hq h' tk a b)⟩) fun _ _ e => e))))
theorem pe_dispN {k v : Expr} {pos : Pos} {tk tv : TE} {P : Program} {w : World} (hP : X.prog = P) (hw : X.w = w) (hu : X.A.units + 64 < cLine) (hk : PE X k tk) (hv : PE X v tv) : PE X (.Dict [some k] [v] pos) (tDispN P w tk tv) := by
  subst hP hw
  refine ⟨fun pins s σ H Q I q => ?_⟩
  have hn := I.hok.fresh (Nat.le_refl s.heap.objs.size)
  have I1 := I.laid (a := s.heap.objs.size) (o := DN X.prog X.w s.heap.objs.size []) (h' := s.heap.push { cls := .type "dict", data := .dict #[] }) (t' := s.toks) (fun _ _ q => Heap.get?_push_of_some _ q) (Nat.le_refl _) (dn_new (raw_empty s.heap I.big))
  refine wpAny_Dict_addr (knd := nestedKind X.prog X.w) (pairs := pairTrees [some k] [v] X.env pos) (show X.A.units + 8 < cLine by omega) (zip_pairTrees [some k] [v] X.env pos rfl rfl) (by rw [ne_eq, ← List.length_eq_zero_iff, pairTrees_length [some k] [v] X.env pos rfl rfl]; simp) (by rw [pairTrees_length [some k] [v] X.env pos rfl rfl]; simp) ?_
  refine pairTrees_cons_walk (thn (hk.run pins _ σ _ _ I1 (q _ hn)) fun u s1 ⟨x, H1, I1, rx, q1⟩ => thn (hv.run pins s1 σ H1 _ I1 q1) fun w2 s2 ⟨y, H2, I2, ry, b, st, ex, ht, hd, q2⟩ => pairTrees_nil_walk ?_)
  subst ex
  obtain rfl : u = Value.ref b := rx
  obtain ⟨z, hds, xs, rel, dd⟩ := dictOf_n I2.hok (Rd.of hd) (fun p hp => absurd hp (by simp))
  cases rel
  refine ⟨[(nkS st, b, w2)], ⟨rfl, rfl, nested_state I2.hok ht, True.intro⟩, dd, fun h' tk dd' hs => ⟨.ref s.heap.objs.size, _, ?_, rfl, q2⟩⟩
  obtain ⟨ob, es, ep, hq, h2, h3, h4, _, h5⟩ := dd'
  exact d_write I2 (by rw [hd]; exact True.intro) hs ⟨ob, hq⟩ (dn_new ⟨by rw [sizeLine_eq]; simp, hds, _, .cons ⟨rfl, rfl, ry⟩ .nil, ob, es, ep, hq, h2, h3, h4, h5⟩)
end
section
/-! ### for k in d -/
/-- the keys of the locked dict at d, in their order -/
def ItN (P : Program) (w : World) (d : Addr) (o : Obj) (L : List Ent) : It :=
  ⟨fun i H => H d = some (.frz o (DN P w d L)) ∧ i < L.length, fun i H x H' => H' = H ∧ ∃ e : Ent, L[i]? = some e ∧ x = .ref e.2.1, fun i H => H d = some (.frz o (DN P w d L)) ∧ L.length ≤ i⟩
theorem frzN {X : Cx} {pins : List (Addr × Obj)} {σ : L2.St} {H : Hp} {s : Shared} {d : Addr} {o : Obj} {L : List Ent} (I : Inv X pins σ H s) (h : H d = some (.frz o (DN X.prog X.w d L))) :
    (d == sysModules) = false ∧ s.heap.get? d = some o ∧ o.ExactDict ∧ ∃ (es : Array DictEntry) (ep : Nat), o.data = .dict es ep ∧ es.size = L.length ∧
      ∀ (i : Nat) (e : Ent), L[i]? = some e → ∃ en : DictEntry, es[i]? = some en ∧ en.key = .ref e.2.1 := by
  obtain ⟨hd, r⟩ := I.hok d _ h
  have r1 : RawN X.prog X.w s.heap d L := (show ObjOk X.prog X.w H s.heap d (DN X.prog X.w d L) from r).1
  obtain ⟨z, hs, xs, pr, o', es, ep, ho, hx, hdt, he, _⟩ := r1
  rw [hd] at ho
  cases ho
  refine ⟨hs, hd, hx, es, ep, hdt, ?_, fun i e hi => ?_⟩
  · have l1 : es.size = xs.length := size_of_entries he
    have l2 : L.length = xs.length := Paired.length pr
    omega
  · obtain ⟨b, hb, e1, e2, _⟩ := paired_get pr hi
    have q := entry_at he i
    rw [hb] at q
    exact ⟨_, q, by show Value.ref b.2.1 = _; rw [e2]⟩
theorem turn_keysN {P : Program} {w : World} {K : PySem.W.Frag} {tg : Expr} {d : Addr} {o : Obj} {es : Array DictEntry} {ep : Nat} {L : List Ent} (it : Addr) (hod : o.data = .dict es ep) : Turn P w K tg (ItN P w d o L) [it] it (fun i h => h.IsKeyIter it d i L.length ep) where
  mem := by simp
  obj := fun i h st b hb => by
    have e : b = it := by simpa using hb
    subst e
    obtain ⟨oi, e, c, dd⟩ := st
    exact ⟨oi, e, fun v z => by rw [dd] at z; cases z⟩
  keep := fun i h h' st k => st.at fun oi e => k it (by simp) oi e
  item := by
    intro X hP hw hK hc i pins s σ H E I hf st hg
    subst hP hw hK
    obtain ⟨hd, hi⟩ := hg
    obtain ⟨f0, f1, f2, f3, f4, f5⟩ := hf it (by simp)
    obtain ⟨hs, hgd, hx, es', ep', hdt, hsz, ent⟩ := frzN I hd
    obtain ⟨rfl, rfl⟩ := dict_ep hod hdt
    obtain ⟨e0, he0⟩ : ∃ e0, L[i]? = some e0 := ⟨L[i], List.getElem?_eq_getElem hi⟩
    obtain ⟨en, hen, hkey⟩ := ent i e0 he0
    refine next_key_item st hgd hdt hsz hen fun h' st' sb => ?_
    have I1 : Inv X pins σ H { s with heap := h' } := I.turned (t' := s.toks) (fun b ob hb e => (sb.2 b hb).trans e) f0 f1 f3 f4 f5
    obtain ⟨oi, e, c, dd⟩ := id st'
    exact ⟨en.key, rfl, go_of (s := { s with heap := h' }) e c dd (by decide) ⟨.ref e0.2.1, H, I1, hkey, ⟨rfl, e0, he0, rfl⟩, st', fun b hb => (hf b hb).1⟩⟩
  done := by
    intro X hP hw hK hc i pins s σ H E I hf st hg
    subst hP hw hK
    obtain ⟨hd, hi⟩ := hg
    obtain ⟨f0, f1, f2, f3, f4, f5⟩ := hf it (by simp)
    obtain ⟨hs, hgd, hx, es', ep', hdt, hsz, ent⟩ := frzN I hd
    obtain ⟨rfl, rfl⟩ := dict_ep hod hdt
    exact next_key_end (I.ok.hd hc) st hgd hdt hsz hi fun h' eb => ⟨rfl, I.turned (t' := s.toks) (fun b ob hb e => eb b ob hb e) f0 f1 f3 f4 f5⟩
  self := fun A i s Q E st h => by
    refine wpAny_pyIter_slot st.typeIs PySem.F.slot_dict_keyiterator_iter (wpAny_call_entry PySem.F.slot_dict_keyiterator_iter st.typeIs PySem.F.entry_dict_keyiterator_iter ?_ (PySem.F.args_dict_keyiterator_iter_1 _))
    show wpAny _ _ (ret (.ref it)) _ _ s
    exact wpAny_pure ⟨_, rfl, "dict_keyiterator", _, st.typeIs, PySem.F.slot_dict_keyiterator_next.lookup, h⟩
def iKeysN (P : Program) (w : World) (td : TE) : TI := fun σ H R => td σ H fun x H1 => ∃ d o L, x = .ref d ∧ H1 d = some (.frz o (DN P w d L)) ∧ R (ItN P w d o L) H1
theorem pi_keysN {X : Cx} {P : Program} {w : World} {tg e : Expr} {td : TE} (hP : X.prog = P) (hw : X.w = w) (he : PE X e td) : PI X tg e (iKeysN P w td) := by
  subst hP hw
  refine ⟨fun pins s σ H R I h => ?_⟩
  refine thn (he.run pins s σ H _ I h) fun u s1 ⟨x, H1, I1, rx, d, o, L, ex, hd, q⟩ => ?_
  subst ex
  obtain rfl : u = Value.ref d := rx
  obtain ⟨hs, hgd, hx, es, ep, hdt, hsz, ent⟩ := frzN I1 hd
  refine iter_keys hs hgd hx hdt (pi_one (tk := s1.toks) I1 _ (turn_keysN _ hdt) ⟨_, Heap.get?_push_size _ rfl, rfl, ?_⟩ q)
  rw [hsz] <;> rfl
/-- len(d) -/
theorem call_lenN {X : Cx} {P : Program} {w : World} (hP : X.prog = P) (hw : X.w = w) : CallR X (.builtin "len") (fun xs H Q => ∃ d L, xs = [.ref d] ∧ Rd H d (DN P w d L) ∧ KeysT H L ∧ Q (.int (L.length : Int)) H) := by
  subst hP hw
  intro pins s σ H xs us Q I r h
  obtain ⟨d, L, rfl, hd, hk, q⟩ := h
  rw [Vals.ref1 r]
  obtain ⟨z, hds, xs, rel, dd⟩ := dictOf_n I.hok hd hk
  have hl : L.length = xs.length := Paired.length rel
  refine call_len_dictH (knd := nestedKind X.prog X.w) hds dd (by rw [sizeLine_eq] at z; omega) ?_
  rw [← hl]
  exact ⟨.int (L.length : Int), H, I.tok _, ⟨_, rfl⟩, q⟩
end

/-! ### sorted(xs), the items data -/
section
variable {P : Program} {w : World} {H : Hp} {h : Heap}
mutual
theorem reads_td (ok : HOk P w H h) : ∀ {d : PyData} {v : V} {u : Value}, Td H v d → RelV v u → ∃ as, Reads h u d as
  | .none, _, _, .non, r => by
    cases r
    exact ⟨_, .none⟩
  | .bool b, _, _, .bl _, r => by
    cases r
    exact ⟨_, .bool b⟩
  | .int i, _, _, .int _, r => by
    obtain ⟨tk, rfl⟩ := r
    exact ⟨_, .int i tk⟩
  | .str x, _, _, .str _, r => by
    obtain ⟨tk, rfl⟩ := r
    exact ⟨_, .str x tk⟩
  | .tuple ds, _, _, .tup (a := a) (xs := xs) ho hd, r => by
    cases r
    obtain ⟨_, its, rv, o, e1, e2, n, e3⟩ := (show ObjOk P w H h a (.tup xs) from ok a _ ho)
    obtain ⟨as, ra⟩ := reads_tdAll ok hd rv
    exact ⟨as, .tuple e1 e2 e3 (by simpa using ra)⟩
theorem reads_tdAll (ok : HOk P w H h) : ∀ {ds : List PyData} {vs : List V} {us : List Value}, TdAll H vs ds → Vals vs us → ∃ as, ReadsAll h us ds as
  | [], _, _, .nil, .nil => ⟨_, .nil⟩
  | d :: ds, _, _, .cons t1 t2, .cons r1 r2 => by
    obtain ⟨as, ra⟩ := reads_td ok t1 r1
    obtain ⟨bs, rb⟩ := reads_tdAll ok t2 r2
    exact ⟨as ++ bs, .cons ra rb⟩
end
theorem each_td {β : Type} {enc : β → PyData} : ∀ {bs : List β} {xs : List V} {us : List Value}, TdAll H xs (bs.map enc) → Vals xs us → PySem.W.EachIs (fun u b => ∃ x, RelV x u ∧ Td H x (enc b)) us bs
  | [], _, _, .nil, .nil => .nil
  | b :: bs, _, _, .cons t1 t2, .cons r1 r2 => .cons ⟨_, r1, t1⟩ (each_td t2 r2)
theorem td_each {β : Type} {enc : β → PyData} : ∀ {bs : List β} {us : List Value}, PySem.W.EachIs (fun u b => ∃ x, RelV x u ∧ Td H x (enc b)) us bs → ∃ xs, Vals xs us ∧ TdAll H xs (bs.map enc)
  | _, _, .nil => ⟨[], .nil, .nil⟩
  | _, _, .cons ⟨x, r, t⟩ e => by
    obtain ⟨xs, rs, ts⟩ := td_each e
    exact ⟨x :: xs, .cons r rs, .cons t ts⟩
end
def rSortedG {β : Type} (K : PySem.W.Frag) (enc : β → PyData) : List V → Hp → VK → Prop := fun vs H Q => ∃ (a : Addr) (bs : List β) (xs : List V), vs = [V.ref a] ∧ SqL K H a xs ∧ TdAll H xs (bs.map enc) ∧ bs.length ≤ sizeLine ∧
  ∀ ys p, TdAll H ys ((bs.mergeSort (PySem.W.dataLe false enc)).map enc) → H p = none → Q (.ref p) (upd H p (.lst ys))
theorem cr_sortedG {X : Cx} {K : PySem.W.Frag} {β : Type} {enc : β → PyData} (hK : X.K = K) (hu : X.A.units + 64 < cLine) (hal : ∀ b b', PySem.W.alike (enc b) (enc b') = true) (ht : ∀ b, ∃ x r, enc b = .tuple (x :: r)) (hdep : ∀ b, (enc b).depth ≤ 30) : CallR X (.builtin "sorted") (rSortedG K enc) := by
  subst hK
  intro pins s σ H vs us Q I r h
  obtain ⟨a, bs, xs, rfl, hs, ht2, hz, q⟩ := h
  obtain ⟨its, rv, hl, _⟩ := I.list hs
  rw [Vals.ref1 r]
  have e := each_td ht2 rv
  refine PySem.W.sorted_data (R := fun u b => ∃ x, RelV x u ∧ Td H x (enc b)) (enc := enc) hl.isList e (e.mono fun u b ⟨x, r1, t1⟩ => reads_td I.hok t1 r1) (PySem.W.AllAlike.of hal) (PySem.W.Sortable.tuples ht) hz (fun b _ => by have := hdep b; omega) fun out ho eo => ?_
  obtain ⟨ys, rys, tys⟩ := td_each eo
  obtain ⟨ep, he'⟩ := PyProof.Rows.sortedAll_at s.heap its out.toArray
  have hlen : ys.length ≤ sizeLine := by rw [tys.len, List.length_map, List.length_mergeSort]; exact hz
  exact ⟨.ref _, upd H (s.heap.objs.size + 1) (.lst ys), I.laid (t' := s.toks) (fun _ _ => PyProof.Rows.sortedAll_old) (Nat.le_succ _) ⟨hlen, out, ep, rys, he'⟩, rfl, q ys _ tys (I.hok.fresh (Nat.le_succ _))⟩
theorem alike_state (a b : State) : PySem.W.alike (stateD a) (stateD b) = true := by
  simp [stateD, intsD, PySem.W.alike, PySem.W.alikeAll, PySem.W.alike_ints]
theorem cr_sortedSt {X : Cx} {K : PySem.W.Frag} (hK : X.K = K) (hu : X.A.units + 64 < cLine) : CallR X (.builtin "sorted") (rSortedG K stateD) := cr_sortedG hK hu alike_state (fun b => ⟨_, _, rfl⟩) (fun b => by have := dep_state b; omega)
def sortS (ss : List State) : List State := ss.mergeSort (PySem.W.dataLe false stateD)
theorem lt_sortedS {K : PySem.W.Frag} {σ : L2.St} {H : Hp} {ta : TE} {l : Addr} {ss : List State} (ha : Ev ta σ H (.ref l)) (hl : LstT H l (ss.map stateD)) (hz : ss.length ≤ 100000) : EvLT (tCB (rSortedG K stateD) (tCons ta tNil)) σ H ((sortS ss).map stateD) := fun H1 e Q q => ha H1 e _ fun H2 e2 => by
  obtain ⟨xs, hx, hd⟩ := hl.ex (e.trans e2)
  exact ⟨l, ss, xs, rfl, SqL.of hx, hd, sz_of hz, fun ys p hys np => q p _ (fresh_back e2 np) (e2.trans (Ex.new np)) ⟨ys, upd_same, hys.ex (Ex.new np)⟩⟩

section
variable {K : PySem.W.Frag} {σ : L2.St} {H H' H0 : Hp} {ta tb te tl : TE} {v z : V} {tr : TA} {ds : List PyData}
/-! ### calls within a suite; slices of lists; lists of ints -/
theorem ev_callS {sp : Sp} {vs : List V} {E : L2.St → XK} (h : EvA tr σ H vs) (hs : SpV sp vs H z) : Ev (tCallS sp E tr) σ H z := fun H1 e Q q => h H1 e _ fun H2 e2 => hs H2 (e.trans e2) Q (fun H3 e3 => q H3 (e2.trans e3)) (E σ)
theorem lt_slL {a : Addr} {lo hi : Option Int} {t1 t2 : TO} (h : Ev te σ H (.ref a)) (hl : LstT H a ds) (h1 : EvO t1 σ H lo) (h2 : EvO t2 σ H hi) : EvLT (tSl (rSlL K) te t1 t2) σ H (cutD ds lo hi) := fun H1 e Q q => h H1 e _ fun H2 e2 => h1 H2 (e.trans e2) _ fun H3 e3 => h2 H3 ((e.trans e2).trans e3) _ fun H4 e4 => by
  obtain ⟨xs, hx, hd⟩ := hl.ex (((e.trans e2).trans e3).trans e4)
  have e24 := (e2.trans e3).trans e4
  refine ⟨a, xs, rfl, SqL.of hx, fun p np => q p _ (fresh_back e24 np) (e24.trans (Ex.new np)) ⟨_, upd_same, ?_⟩⟩
  unfold cutD cutV
  rw [hd.len]
  have td_drop : ∀ {ds : List PyData} {vs : List V} (n : Nat), TdAll H4 vs ds → TdAll H4 (vs.drop n) (ds.drop n) := by
    intro ds vs n h
    induction n generalizing ds vs with
    | zero => exact h
    | succ n ih => cases h with
      | nil => exact .nil
      | cons a b => exact ih b
  have td_take : ∀ {ds : List PyData} {vs : List V} (n : Nat), TdAll H4 vs ds → TdAll H4 (vs.take n) (ds.take n) := by
    intro ds vs n h
    induction n generalizing ds vs with
    | zero => simp only [List.take_zero]; exact .nil
    | succ n ih => cases h with
      | nil => exact .nil
      | cons a b => exact .cons a (ih b)
  exact (td_take _ (td_drop _ hd)).ex (Ex.new np)
theorem cutD_take (ds : List PyData) (k : Nat) : cutD ds none (some (k : Int)) = ds.take k := by
  unfold cutD
  rw [HT.sIx_none, HT.sIx_nat, List.drop_zero, Nat.sub_zero]
  by_cases h : k ≤ ds.length
  · rw [Nat.min_eq_left h]
  · rw [Nat.min_eq_right (by omega), List.take_length, List.take_of_length_le (by omega)]
end
def intlD (ns : List Int) : PyData := .list (ns.map PyData.int)
theorem nb_intl (ns : List Int) : nb (intlD ns) = true := by simp only [intlD, nb]; exact nbAll_map nb_intD ns
theorem sh_intl (ns : List Int) : SeqAt.shaped (intlD ns) = true := shaped_of (nb_intl ns) (by
  have := depth_list (n := 0) (depth_map (f := PyData.int) (fun i => by simp [PyData.depth]) ns)
  simp only [intlD]
  omega)
theorem intlD_inj {a b : List Int} : intlD a = intlD b ↔ a = b := by
  refine ⟨fun e => ?_, fun e => by rw [e]⟩
  simp only [intlD, PyData.list.injEq] at e
  exact map_inj (fun a b z => by simpa using z) e
theorem eqv_intl (a b : List Int) : PyData.eqv (intlD a) (intlD b) = decide (a = b) := eqv_dec (nb_intl a) (nb_intl b) intlD_inj

/-! ### states, in plain -/
def newOf : List State → List State → List State
  | _, [] => []
  | S, o :: r => if o ∈ S then newOf S r else o :: newOf (S ++ [o]) r
theorem newOf_append : ∀ (A B S : List State), newOf S (A ++ B) = newOf S A ++ newOf (S ++ newOf S A) B
  | [], B, S => by simp [newOf]
  | a :: A, B, S => by
    rw [List.cons_append, newOf, newOf]
    by_cases c : a ∈ S
    · rw [if_pos c, if_pos c, newOf_append A B S]
    · rw [if_neg c, if_neg c, newOf_append A B (S ++ [a])]
      simp
theorem newOf_one (S : List State) (a : State) : newOf S [a] = if a ∈ S then [] else [a] := by
  rw [newOf]
  split <;> rfl
theorem mem_newOf {x : State} : ∀ {A S : List State}, x ∈ newOf S A ↔ x ∈ A ∧ x ∉ S
  | [], S => by simp [newOf]
  | a :: A, S => by
    rw [newOf]
    by_cases c : a ∈ S
    · rw [if_pos c, mem_newOf, List.mem_cons]
      constructor
      · rintro ⟨h1, h2⟩
        exact ⟨.inr h1, h2⟩
      · rintro ⟨h1 | h1, h2⟩
        · subst h1
          exact absurd c h2
        · exact ⟨h1, h2⟩
    · rw [if_neg c, List.mem_cons, mem_newOf, List.mem_cons]
      constructor
      · rintro (h | ⟨h1, h2⟩)
        · subst h
          exact ⟨.inl rfl, c⟩
        · exact ⟨.inr h1, fun z => h2 (List.mem_append_left _ z)⟩
      · rintro ⟨h1 | h1, h2⟩
        · exact .inl h1
        · by_cases e : x = a
          · exact .inl e
          · exact .inr ⟨h1, fun z => by
              rcases List.mem_append.mp z with z | z
              · exact h2 z
              · simp at z
                exact e z⟩
theorem nodup_newOf : ∀ {A S : List State}, S.Nodup → (S ++ newOf S A).Nodup
  | [], S, h => by simpa [newOf] using h
  | a :: A, S, h => by
    rw [newOf]
    by_cases c : a ∈ S
    · rw [if_pos c]
      exact nodup_newOf h
    · rw [if_neg c]
      have h2 : (S ++ [a]).Nodup := by
        rw [List.nodup_append]
        refine ⟨h, by simp, fun x hx y hy z => ?_⟩
        simp at hy
        subst hy
        subst z
        exact c hx
      have := nodup_newOf (A := A) h2
      simpa using this
/-- the states that a maze may have -/
def VS (n : Int) (s : State) : Prop := Here n s.1 ∧ ∃ p, s.2 = kindsOf p
def bools5 : List (List Bool) := ([true, false].flatMap fun a => [true, false].flatMap fun b => [true, false].flatMap fun c => [true, false].flatMap fun d => [true, false].map fun e => [a, b, c, d, e])
def allS (n : Int) : List State := (upTo n).flatMap fun r => bools5.map fun bs => (r, kindsOf fun i => bs.getD i false)
theorem mem_bools5 (a b c d e : Bool) : [a, b, c, d, e] ∈ bools5 := by cases a <;> cases b <;> cases c <;> cases d <;> cases e <;> decide
theorem mem_allS {n : Int} {s : State} (h : VS n s) : s ∈ allS n := by
  obtain ⟨r, hs⟩ := s
  obtain ⟨h1, p, h2⟩ := h
  refine List.mem_flatMap.mpr ⟨r, mem_upTo.mpr h1, List.mem_map.mpr ⟨[p 0, p 1, p 2, p 3, p 4], mem_bools5 _ _ _ _ _, ?_⟩⟩
  have : (kindsOf fun i => [p 0, p 1, p 2, p 3, p 4].getD i false) = kindsOf p := kindsOf_congr fun i hi => by
    rcases (show i = 0 ∨ i = 1 ∨ i = 2 ∨ i = 3 ∨ i = 4 by omega) with h | h | h | h | h <;> subst h <;> rfl
  rw [this]
  exact Prod.ext rfl h2.symm
theorem flat_len {α β : Type} (g : α → List β) (c : Nat) (h : ∀ a, (g a).length = c) : ∀ l : List α, (l.flatMap g).length = l.length * c
  | [] => by simp
  | a :: r => by
    rw [List.flatMap_cons, List.length_append, flat_len g c h r, h a, List.length_cons, Nat.succ_mul]
    omega
theorem allS_len (n : Int) : (allS n).length = n.toNat * 32 := by
  unfold allS
  rw [flat_len _ 32 (fun a => by rw [List.length_map]; rfl), upTo_len]
theorem vs_len {n : Int} {S : List State} (hd : S.Nodup) (h : ∀ s ∈ S, VS n s) : S.length ≤ n.toNat * 32 := by
  have := nodup_sub_len (m := allS n) hd fun x hx => mem_allS (h x hx)
  rw [allS_len] at this
  exact this
theorem vs_taken {n r : Int} (h : Here n r) (ks : List Key2) (held : List Int) : VS n (r, takenF ks r held) := ⟨h, _, rfl⟩
theorem vs_steps {n : Int} {ds : List Door} {ks : List Key2} (hw : ∀ d ∈ ds, WfD n d) {room : Int} {held : List Int} : ∀ s ∈ stepsF ds ks room held, VS n s := by
  intro s hs
  obtain ⟨d, hd, hs⟩ := List.mem_flatMap.mp hs
  have hwd := hw d hd
  unfold stepF at hs
  split at hs
  · split at hs
    · simp at hs
      subst hs
      exact vs_taken hwd.2.1 _ _
    · split at hs
      · simp at hs
        subst hs
        exact vs_taken hwd.1 _ _
      · simp at hs
  · simp at hs
abbrev nextS (ds : List Door) (ks : List Key2) (s : State) : List State := stepsF ds ks s.1 s.2
/-- the states behind a layer, those that are new -/
def freshF (ds : List Door) (ks : List Key2) (S layer : List State) : List State := newOf S (layer.flatMap (nextS ds ks))
theorem fresh_vs {n : Int} {ds : List Door} {ks : List Key2} (hw : ∀ d ∈ ds, WfD n d) {S A : List State} (hS : ∀ s ∈ S, VS n s) (hA : ∀ s ∈ A, VS n s) : ∀ s ∈ S ++ newOf S A, VS n s := fun s hs => by
  rcases List.mem_append.mp hs with h | h
  · exact hS s h
  · exact hA s (mem_newOf.mp h).1
theorem next_vs {n : Int} {ds : List Door} {ks : List Key2} (hw : ∀ d ∈ ds, WfD n d) (layer : List State) : ∀ s ∈ layer.flatMap (nextS ds ks), VS n s := fun s hs => by
  obtain ⟨a, _, h⟩ := List.mem_flatMap.mp hs
  exact vs_steps hw s h
/-- the layers -/
def layGo (ds : List Door) (ks : List Key2) : Nat → List State → List State → List (List State)
  | 0, _, _ => []
  | f + 1, layer, S => if layer = [] then [] else layer :: layGo ds ks f (sortS (freshF ds ks S layer)) (S ++ freshF ds ks S layer)
def firstS (ks : List Key2) (start : Int) : State := (start, takenF ks start [])
def layersF (ds : List Door) (ks : List Key2) (start : Int) : List (List State) := layGo ds ks 2000 [firstS ks start] [firstS ks start]
theorem sortS_perm (ss : List State) : (sortS ss).Perm ss := List.mergeSort_perm ss _
theorem mem_sortS {ss : List State} {x : State} : x ∈ sortS ss ↔ x ∈ ss := (sortS_perm ss).mem_iff

/-! ### dicts of states, evaluated -/
theorem upd_tupsE {H : Hp} {d : Addr} {φ : Heap → Prop} {o : HO} (h : H d = some (.ext φ)) : ∀ b ys, H b = some (.tup ys) → upd H d o b = some (.tup ys) := fun b ys q => by
  rw [upd_ne (ne_of q h (fun z => by cases z))]
  exact q
/-- the heap without one thing -/
def del (H : Hp) (d : Addr) : Hp := fun b => if b = d then none else H b
theorem del_none {H : Hp} {d : Addr} : del H d d = none := by unfold del; rw [if_pos rfl]
theorem del_ne {H : Hp} {d b : Addr} (h : b ≠ d) : del H d b = H b := by unfold del; rw [if_neg h]
theorem del_ex {H : Hp} {d : Addr} : Ex (del H d) H := fun b o e => by
  unfold del at e
  split at e
  · cases e
  · exact e
theorem del_up {H H' : Hp} {d : Addr} (e : Ex H H') : Ex (del H d) (del H' d) := fun b o h => by
  by_cases c : b = d
  · subst c
    rw [del_none] at h
    cases h
  · rw [del_ne c] at h ⊢
    exact e _ _ h
def Tk (H H' : Hp) : Prop := ∀ b ys, H b = some (.tup ys) → H' b = some (.tup ys)
theorem Tk.refl (H : Hp) : Tk H H := fun _ _ h => h
theorem Tk.trans {H H' H2 : Hp} (a : Tk H H') (b : Tk H' H2) : Tk H H2 := fun c ys h => b c ys (a c ys h)
theorem Tk.ex {H H' : Hp} (e : Ex H H') : Tk H H' := fun b ys h => e b _ h
theorem Tk.lst {H : Hp} {l : Addr} {xs : List V} {o : HO} (h : H l = some (.lst xs)) : Tk H (upd H l o) := upd_tups h
theorem Tk.ext {H : Hp} {d : Addr} {φ : Heap → Prop} {o : HO} (h : H d = some (.ext φ)) : Tk H (upd H d o) := upd_tupsE h
theorem Td.tk {H H' : Hp} (k : Tk H H') {d : PyData} {v : V} (h : Td H v d) : Td H' v d := Td.keep k h
theorem TdAll.tk {H H' : Hp} (k : Tk H H') {ds : List PyData} {vs : List V} (h : TdAll H vs ds) : TdAll H' vs ds := TdAll.keep k h
section
variable {K : PySem.W.Frag} {H H' : Hp} {d : Addr} {φ : Heap → Prop}
theorem tk_del (hd : H d = some (.ext φ)) : Tk H (del H d) := fun b ys h => by rw [del_ne (ne_of h hd (fun z => by cases z))]; exact h
theorem sqT_del {a : Addr} {xs : List V} (hd : H d = some (.ext φ)) (h : SqT K H a xs) : SqT K (del H d) a xs := by
  rcases h with (h | ⟨o, h⟩) | h
  · exact .inl (.inl (by rw [del_ne (ne_of h hd (fun z => by cases z))]; exact h))
  · exact .inl (.inr ⟨o, by rw [del_ne (ne_of h hd (fun z => by cases z))]; exact h⟩)
  · exact .inr h
theorem sqL_del {a : Addr} {xs : List V} (hd : H d = some (.ext φ)) (h : SqL K H a xs) : SqL K (del H d) a xs := by
  rcases h with (h | ⟨o, h⟩) | h
  · exact .inl (.inl (by rw [del_ne (ne_of h hd (fun z => by cases z))]; exact h))
  · exact .inl (.inr ⟨o, by rw [del_ne (ne_of h hd (fun z => by cases z))]; exact h⟩)
  · exact .inr h
mutual
theorem dp_del (hd : H d = some (.ext φ)) : ∀ {x : PyData} {v : V}, Dp K H v x → Dp K (del H d) v x
  | .none, _, .non => .non
  | .bool _, _, .bl b => .bl b
  | .int _, _, .int i => .int i
  | .str _, _, .str x => .str x
  | .list ds, _, .lst h r => .lst (sqL_del hd h) (dpAll_del hd r)
  | .tuple ds, _, .tup h r => .tup (sqT_del hd h) (dpAll_del hd r)
theorem dpAll_del (hd : H d = some (.ext φ)) : ∀ {ds : List PyData} {vs : List V}, DpAll K H vs ds → DpAll K (del H d) vs ds
  | [], _, .nil => .nil
  | _ :: _, _, .cons h r => .cons (dp_del hd h) (dpAll_del hd r)
end
theorem LstT.del {l : Addr} {ds : List PyData} (hd : H d = some (.ext φ)) (h : LstT H l ds) : LstT (Mz.del H d) l ds := by
  obtain ⟨xs, a, b⟩ := h
  exact ⟨xs, by rw [del_ne (ne_of a hd (fun z => by cases z))]; exact a, b.tk (tk_del hd)⟩
end
section
variable {P : Program} {w : World} {K : PySem.W.Frag} {H H' : Hp} {d : Addr} {L : List Ent} {S : List State} {σ : L2.St} {ta tb te td ti tl : TE} {k : State} {b : Addr} {v : V} {D : Ends} {tu tz : TS} {g : TG} {ds : List PyData}
def SD (P : Program) (w : World) (H : Hp) (d : Addr) (L : List Ent) : Prop := H d = some (DN P w d L) ∧ KeysT H L
theorem KeysT.tk (t : Tk H H') (h : KeysT H L) : KeysT H' L := fun p hp => (h p hp).tk t
theorem SD.ex (e : Ex H H') (h : SD P w H d L) : SD P w H' d L := ⟨e _ _ h.1, h.2.tk (Tk.ex e)⟩
theorem SD.lst {l : Addr} {xs : List V} {o : HO} (hl : H l = some (.lst xs)) (h : SD P w H d L) : SD P w (upd H l o) d L := ⟨by rw [upd_ne (ne_of h.1 hl (fun z => by cases z))]; exact h.1, h.2.tk (Tk.lst hl)⟩
theorem keys_put {L : List Ent} (h : KeysT H L) (t : Td H (.ref b) (stateD k)) : KeysT H (putN L k b v) := by
  unfold putN
  split
  · intro p hp
    obtain ⟨q, hq, rfl⟩ := List.mem_map.mp hp
    have := h q hq
    split
    · exact this
    · exact this
  · intro p hp
    rcases List.mem_append.mp hp with h1 | h1
    · exact h p h1
    · simp at h1
      subst h1
      exact t
theorem SD.put (h : SD P w H d L) (t : Td H (.ref b) (stateD k)) : SD P w (upd H d (DN P w d (putN L k b v))) d (putN L k b v) := ⟨upd_same, (keys_put h.2 t).tk (Tk.ext h.1)⟩
theorem ev_inN (ha : Ev ta σ H (.ref b)) (hb : Ev tb σ H (.ref d)) (t : Td H (.ref b) (stateD k)) (h : SD P w H d L) : Ev (tOp (rInN P w false) ta tb) σ H (.bl (hasN L k)) := fun H1 e Q q => ha H1 e _ fun H2 e2 => hb H2 (e.trans e2) _ fun H3 e3 => by
  have e03 := (e.trans e2).trans e3
  have h3 := h.ex e03
  exact ⟨b, d, k, L, rfl, rfl, t.ex e03, Rd.of h3.1, h3.2, q H3 (e2.trans e3)⟩
theorem ev_niN (ha : Ev ta σ H (.ref b)) (hb : Ev tb σ H (.ref d)) (t : Td H (.ref b) (stateD k)) (h : SD P w H d L) : Ev (tOp (rInN P w true) ta tb) σ H (.bl (!hasN L k)) := fun H1 e Q q => ha H1 e _ fun H2 e2 => hb H2 (e.trans e2) _ fun H3 e3 => by
  have e03 := (e.trans e2).trans e3
  have h3 := h.ex e03
  exact ⟨b, d, k, L, rfl, rfl, t.ex e03, Rd.of h3.1, h3.2, q H3 (e2.trans e3)⟩
theorem ev_getN (ha : Ev ta σ H (.ref d)) (hb : Ev tb σ H (.ref b)) (t : Td H (.ref b) (stateD k)) (h : SD P w H d L) (hg : getN L k = some v) : Ev (tOp (rGetN P w) ta tb) σ H v := fun H1 e Q q => ha H1 e _ fun H2 e2 => hb H2 (e.trans e2) _ fun H3 e3 => by
  have e03 := (e.trans e2).trans e3
  have h3 := h.ex e03
  exact ⟨b, d, k, L, v, rfl, rfl, t.ex e03, Rd.of h3.1, h3.2, hg, q H3 (e2.trans e3)⟩
theorem s_setN (h : SD P w H d L) (hv : Ev te σ H v) (ho : Ev td σ H (.ref d)) (hi : Ev ti σ H (.ref b)) (t : Td H (.ref b) (stateD k)) (hz : L.length < 100000) (kk : ∀ H1, Ex H H1 → H1 d = some (DN P w d L) → SD P w (upd H1 d (DN P w d (putN L k b v))) d (putN L k b v) → D.nx σ (upd H1 d (DN P w d (putN L k b v)))) :
    tAsg te (gSub td ti (rSetN P w)) D σ H := hv H (Ex.refl H) _ fun H1 e1 => ho H1 e1 _ fun H2 e2 => hi H2 (e1.trans e2) _ fun H3 e3 => by
  have e03 := (e1.trans e2).trans e3
  have h3 := h.ex e03
  exact ⟨b, d, k, L, rfl, rfl, t.ex e03, h3.1, h3.2, sz_lt hz, kk H3 e03 h3.1 (h3.put (t.ex e03))⟩
theorem q_setN (h : SD P w H d L) (hv : Ev te σ H v) (ho : Ev td σ H (.ref d)) (hi : Ev ti σ H (.ref b)) (t : Td H (.ref b) (stateD k)) (hz : L.length < 100000) (kk : ∀ H1, Ex H H1 → H1 d = some (DN P w d L) → SD P w (upd H1 d (DN P w d (putN L k b v))) d (putN L k b v) → tz D σ (upd H1 d (DN P w d (putN L k b v)))) :
    tSeq (tAsg te (gSub td ti (rSetN P w))) tz D σ H := s_setN (D := { D with nx := tz D }) h hv ho hi t hz kk
/-- what keys there are -/
def SeenK (P : Program) (w : World) (H : Hp) (d : Addr) (S : List State) : Prop := ∃ L, SD P w H d L ∧ L.map (·.1) = S
theorem hasN_mem (L : List Ent) (k : State) : hasN L k = decide (k ∈ L.map (·.1)) := by
  rw [Bool.eq_iff_iff]
  unfold hasN
  simp only [List.any_eq_true, decide_eq_true_eq, List.mem_map]
theorem putN_keys (L : List Ent) (k : State) (b : Addr) (v : V) : (putN L k b v).map (·.1) = if k ∈ L.map (·.1) then L.map (·.1) else L.map (·.1) ++ [k] := by
  unfold putN
  rw [hasN_mem]
  by_cases c : k ∈ L.map (·.1)
  · rw [if_pos (decide_eq_true c), if_pos c, List.map_map]
    refine List.map_congr_left fun p hp => ?_
    show (if p.1 = k then (p.1, p.2.1, v) else p).1 = p.1
    split <;> rfl
  · rw [if_neg (by simpa using c), if_neg c, List.map_append]
    rfl
theorem SeenK.ex (e : Ex H H') (h : SeenK P w H d S) : SeenK P w H' d S := let ⟨L, a, b⟩ := h; ⟨L, a.ex e, b⟩
theorem SeenK.lst {l : Addr} {xs : List V} {o : HO} (hl : H l = some (.lst xs)) (h : SeenK P w H d S) : SeenK P w (upd H l o) d S := let ⟨L, a, b⟩ := h; ⟨L, a.lst hl, b⟩
theorem ev_inS (ha : Ev ta σ H (.ref b)) (hb : Ev tb σ H (.ref d)) (t : Td H (.ref b) (stateD k)) (h : SeenK P w H d S) : Ev (tOp (rInN P w false) ta tb) σ H (.bl (decide (k ∈ S))) := by
  obtain ⟨L, h, rfl⟩ := h
  rw [← hasN_mem]
  exact ev_inN ha hb t h
theorem ev_niS (ha : Ev ta σ H (.ref b)) (hb : Ev tb σ H (.ref d)) (t : Td H (.ref b) (stateD k)) (h : SeenK P w H d S) : Ev (tOp (rInN P w true) ta tb) σ H (.bl (!decide (k ∈ S))) := by
  obtain ⟨L, h, rfl⟩ := h
  rw [← hasN_mem]
  exact ev_niN ha hb t h
theorem q_setS (h : SeenK P w H d S) (hv : Ev te σ H v) (ho : Ev td σ H (.ref d)) (hi : Ev ti σ H (.ref b)) (t : Td H (.ref b) (stateD k)) (hz : S.length < 100000) (kk : ∀ H1 φ o, Ex H H1 → H1 d = some (.ext φ) → SeenK P w (upd H1 d o) d (if k ∈ S then S else S ++ [k]) → tz D σ (upd H1 d o)) :
    tSeq (tAsg te (gSub td ti (rSetN P w))) tz D σ H := by
  obtain ⟨L, h, rfl⟩ := h
  exact q_setN h hv ho hi t (by simpa using hz) fun H1 e1 h1 h2 => kk H1 _ _ e1 h1 ⟨_, h2, putN_keys L k b v⟩
theorem s_setS (h : SeenK P w H d S) (hv : Ev te σ H v) (ho : Ev td σ H (.ref d)) (hi : Ev ti σ H (.ref b)) (t : Td H (.ref b) (stateD k)) (hz : S.length < 100000) (kk : ∀ H1 φ o, Ex H H1 → H1 d = some (.ext φ) → SeenK P w (upd H1 d o) d (if k ∈ S then S else S ++ [k]) → D.nx σ (upd H1 d o)) :
    tAsg te (gSub td ti (rSetN P w)) D σ H := by
  obtain ⟨L, h, rfl⟩ := h
  exact s_setN h hv ho hi t (by simpa using hz) fun H1 e1 h1 h2 => kk H1 _ _ e1 h1 ⟨_, h2, putN_keys L k b v⟩
theorem SeenK.del_ext (h : SeenK P w H d S) : ∃ φ, H d = some (.ext φ) := let ⟨L, a, _⟩ := h; ⟨_, a.1⟩
/-- {k: v} -/
theorem q_dispS {i : Nat} (hk : ∀ H1, Ex H H1 → Ev ta σ H1 (.ref b)) (t : Td H (.ref b) (stateD k)) (hv : ∀ H1, Ex H H1 → Ev tb σ H1 v) (kk : ∀ p H1, H p = none → Ex H H1 → SD P w H1 p [(k, b, v)] → tz D (σ.set i (some (.ref p))) H1) : tSeq (tAsg (tDispN P w ta tb) (gName i)) tz D σ H := fun p np => by
  have e1 := Ex.new (o := DN P w p []) np
  refine hk _ e1 _ (Ex.refl _) _ fun H1 e2 => hv H1 (e1.trans e2) H1 (Ex.refl H1) _ fun H2 e3 => ⟨b, k, rfl, t.ex ((e1.trans e2).trans e3), (e2.trans e3) _ _ upd_same, ?_⟩
  have hp : H2 p = some (DN P w p []) := (e2.trans e3) _ _ upd_same
  refine kk p _ np (Ex.mut ((e1.trans e2).trans e3) np) ⟨upd_same, fun q hq => ?_⟩
  simp at hq
  subst hq
  exact (t.ex ((e1.trans e2).trans e3)).tk (Tk.ext hp)
/-- a loop over a new list of data -/
theorem s_forEL (h : EvLT tl σ H ds) (k : ∀ p xs H1, H p = none → Ex H H1 → H1 p = some (.lst xs) → TdAll H1 xs ds → ∃ Pv : Nat → L2.St → Hp → Prop, Pv 0 σ H1 ∧ (∀ i σ' H', Pv i σ' H' → H' p = some (.lst xs) ∧ Tk H1 H') ∧
    (∀ i d x σ' H', ds[i]? = some d → Td H' x d → Pv i σ' H' → g x σ' H' fun σ2 H2 => tu { D with nx := Pv (i + 1), ct := Pv (i + 1), bk := D.nx } σ2 H2) ∧ ∀ σ' H', Pv ds.length σ' H' → D.nx σ' H') : tFor (iList K tl) g tu D σ H := h H (Ex.refl H) _ fun p H1 np e1 hp => by
  obtain ⟨xs, hx, hd⟩ := hp
  obtain ⟨Pv, p0, pk, ps, pd⟩ := k p xs H1 np e1 hx hd
  refine ⟨p, rfl, ⟨xs, SqL.of hx⟩, for_list (K := K) (a := p) (xs := xs) Pv p0 (fun i σ' H' _ q => SqL.of (pk i σ' H' q).1) (fun i x σ' H' hxi q => ?_) (fun σ' H' q => pd σ' H' (by rw [← hd.len]; exact q))⟩
  obtain ⟨d, hd1, hd2⟩ := hd.getV hxi
  exact ps i d x σ' H' hd1 (hd2.tk (pk i σ' H' q).2) q
/-- a loop over a list of data that stands below -/
theorem s_forLT {l : Addr} {H0 : Hp} (h : Ev tl σ H (.ref l)) (hl : LstT H0 l ds) (e0 : Ex H0 H) (Pv : Nat → L2.St → Hp → Prop) (h0 : ∀ H1, Ex H H1 → Pv 0 σ H1) (hx : ∀ i σ' H', Pv i σ' H' → Ex H0 H')
    (hs : ∀ i d x σ' H', ds[i]? = some d → Td H0 x d → Pv i σ' H' → g x σ' H' fun σ2 H2 => tu { D with nx := Pv (i + 1), ct := Pv (i + 1), bk := D.nx } σ2 H2)
    (hd : ∀ σ' H', Pv ds.length σ' H' → D.nx σ' H') : tFor (iList K tl) g tu D σ H := by
  obtain ⟨xs, ho, hda⟩ := hl
  have hlen := hda.len
  refine s_forL h (SqL.of (e0 _ _ ho)) Pv h0 (fun i σ' H' _ p => SqL.of (hx i σ' H' p _ _ ho)) (fun i x σ' H' hx' p => ?_) (fun σ' H' p => hd σ' H' (by rw [← hlen]; exact p))
  obtain ⟨d, hd1, hd2⟩ := hda.getV hx'
  exact hs i d x σ' H' hd1 hd2 p
theorem q_forLT {l : Addr} {H0 : Hp} (h : Ev tl σ H (.ref l)) (hl : LstT H0 l ds) (e0 : Ex H0 H) (Pv : Nat → L2.St → Hp → Prop) (h0 : ∀ H1, Ex H H1 → Pv 0 σ H1) (hx : ∀ i σ' H', Pv i σ' H' → Ex H0 H')
    (hs : ∀ i d x σ' H', ds[i]? = some d → Td H0 x d → Pv i σ' H' → g x σ' H' fun σ2 H2 => tu { D with nx := Pv (i + 1), ct := Pv (i + 1), bk := tz D } σ2 H2)
    (hd : ∀ σ' H', Pv ds.length σ' H' → tz D σ' H') : tSeq (tFor (iList K tl) g tu) tz D σ H := s_forLT (D := { D with nx := tz D }) h hl e0 Pv h0 hx hs hd
end

/-! ### loops over dicts of states -/
section
variable {P : Program} {w : World} {K : PySem.W.Frag} {H H' : Hp} {d : Addr} {L : List Ent} {σ : L2.St} {ta tb te td tl : TE} {t : TT} {k : State} {b : Addr} {v : V} {D : Ends} {tu tz : TS} {g : TG}
/-- the dict, it may be locked -/
def SDr (P : Program) (w : World) (H : Hp) (d : Addr) (L : List Ent) : Prop := Rd H d (DN P w d L) ∧ KeysT H L
theorem SD.r (h : SD P w H d L) : SDr P w H d L := ⟨Rd.of h.1, h.2⟩
theorem Rd.exr {u : HO} (e : Ex H H') (h : Rd H d u) : Rd H' d u := by
  rcases h with h | ⟨o, h⟩
  · exact .inl (e _ _ h)
  · exact .inr ⟨o, e _ _ h⟩
theorem SDr.ex (e : Ex H H') (h : SDr P w H d L) : SDr P w H' d L := ⟨Rd.exr e h.1, h.2.tk (Tk.ex e)⟩
theorem SD.rex (e : Ex H H') (h : SD P w H d L) : SDr P w H' d L := (h.ex e).r
theorem ev_inR (ha : Ev ta σ H (.ref b)) (hb : Ev tb σ H (.ref d)) (t : Td H (.ref b) (stateD k)) (h : SDr P w H d L) : Ev (tOp (rInN P w false) ta tb) σ H (.bl (hasN L k)) := fun H1 e Q q => ha H1 e _ fun H2 e2 => hb H2 (e.trans e2) _ fun H3 e3 => by
  have e03 := (e.trans e2).trans e3
  have h3 := h.ex e03
  exact ⟨b, d, k, L, rfl, rfl, t.ex e03, h3.1, h3.2, q H3 (e2.trans e3)⟩
theorem ev_niR (ha : Ev ta σ H (.ref b)) (hb : Ev tb σ H (.ref d)) (t : Td H (.ref b) (stateD k)) (h : SDr P w H d L) : Ev (tOp (rInN P w true) ta tb) σ H (.bl (!hasN L k)) := fun H1 e Q q => ha H1 e _ fun H2 e2 => hb H2 (e.trans e2) _ fun H3 e3 => by
  have e03 := (e.trans e2).trans e3
  have h3 := h.ex e03
  exact ⟨b, d, k, L, rfl, rfl, t.ex e03, h3.1, h3.2, q H3 (e2.trans e3)⟩
theorem ev_getR (ha : Ev ta σ H (.ref d)) (hb : Ev tb σ H (.ref b)) (t : Td H (.ref b) (stateD k)) (h : SDr P w H d L) (hg : getN L k = some v) : Ev (tOp (rGetN P w) ta tb) σ H v := fun H1 e Q q => ha H1 e _ fun H2 e2 => hb H2 (e.trans e2) _ fun H3 e3 => by
  have e03 := (e.trans e2).trans e3
  have h3 := h.ex e03
  exact ⟨b, d, k, L, v, rfl, rfl, t.ex e03, h3.1, h3.2, hg, q H3 (e2.trans e3)⟩
theorem ev_lenN (ha : Ev ta σ H (.ref d)) (h : SDr P w H d L) : Ev (tCB (fun xs H Q => ∃ d L, xs = [.ref d] ∧ Rd H d (DN P w d L) ∧ KeysT H L ∧ Q (.int (L.length : Int)) H) (tCons ta tNil)) σ H (.int (L.length : Int)) := fun H1 e Q q => ha H1 e _ fun H2 e2 => by
  have h3 := h.ex (e.trans e2)
  exact ⟨d, L, rfl, h3.1, h3.2, q H2 e2⟩
theorem getN_at {L : List Ent} (hn : (L.map (·.1)).Nodup) {i : Nat} {e : Ent} (h : L[i]? = some e) : getN L e.1 = some e.2.2 := by
  unfold getN
  induction L generalizing i with
  | nil => simp at h
  | cons a r ih =>
    rw [List.map_cons, List.nodup_cons] at hn
    cases i with
    | zero =>
      simp at h
      subst h
      simp [List.find?_cons]
    | succ i =>
      simp at h
      have hne : ¬ a.1 = e.1 := fun z => hn.1 (by rw [z]; exact List.mem_map.mpr ⟨e, List.mem_of_getElem? h, rfl⟩)
      rw [List.find?_cons]
      simp only [hne, decide_false]
      exact ih hn.2 h
theorem walkN {od : Obj} : Walk (ItN P w d od L) L.length (fun H => H d = some (.frz od (DN P w d L))) (fun i H x H' => H' = H ∧ ∃ e : Ent, L[i]? = some e ∧ x = .ref e.2.1) := ⟨fun _ _ hi q => ⟨q, hi⟩, fun _ q => ⟨q, Nat.le_refl _⟩, fun _ _ _ _ _ _ y => y⟩
/-- for k in d: the dict stands locked while the loop runs -/
theorem s_forN {j : Nat} (hv : σ[j]? = some (some (.ref d))) (hD : SD P w H d L) (k : ∀ od, ∃ Pv : Nat → L2.St → Hp → Prop, Pv 0 σ (upd H d (.frz od (DN P w d L))) ∧ (∀ i σ' H', Pv i σ' H' → H' d = some (.frz od (DN P w d L))) ∧
    (∀ i e σ' H', L[i]? = some e → Pv i σ' H' → g (.ref e.2.1) σ' H' fun σ2 H2 => tu ⟨Pv (i + 1), fun v H' => H' d = some (.frz od (DN P w d L)) ∧ D.rt v (upd H' d (DN P w d L)), fun σ' H' => H' d = some (.frz od (DN P w d L)) ∧ D.nx σ' (upd H' d (DN P w d L)), Pv (i + 1)⟩ σ2 H2) ∧
    (∀ σ' H', Pv L.length σ' H' → D.nx σ' (upd H' d (DN P w d L)))) : tLock (tFor (iKeysN P w (tVar j)) g tu) D σ H := ⟨d, DN P w d L, hD.1, True.intro, fun od => by
  obtain ⟨Pv, p0, pk, ps, pd⟩ := k od
  refine ⟨_, hv, d, od, L, rfl, upd_same, for_it walkN Pv p0 (fun i σ' H' _ p => pk i σ' H' p) (fun i x σ' H1 H2 hi p y => ?_) (fun σ' H' p => ⟨pk _ _ _ p, pd σ' H' p⟩)⟩
  obtain ⟨rfl, e, he, rfl⟩ := y
  exact ps i e σ' _ he p⟩
theorem q_forN {j : Nat} (hv : σ[j]? = some (some (.ref d))) (hD : SD P w H d L) (k : ∀ od, ∃ Pv : Nat → L2.St → Hp → Prop, Pv 0 σ (upd H d (.frz od (DN P w d L))) ∧ (∀ i σ' H', Pv i σ' H' → H' d = some (.frz od (DN P w d L))) ∧
    (∀ i e σ' H', L[i]? = some e → Pv i σ' H' → g (.ref e.2.1) σ' H' fun σ2 H2 => tu ⟨Pv (i + 1), fun v H' => H' d = some (.frz od (DN P w d L)) ∧ D.rt v (upd H' d (DN P w d L)), fun σ' H' => H' d = some (.frz od (DN P w d L)) ∧ tz D σ' (upd H' d (DN P w d L)), Pv (i + 1)⟩ σ2 H2) ∧
    (∀ σ' H', Pv L.length σ' H' → tz D σ' (upd H' d (DN P w d L)))) : tSeq (tLock (tFor (iKeysN P w (tVar j)) g tu)) tz D σ H := s_forN (D := { D with nx := tz D }) hv hD k
end

/-! ### a < b, of data that are alike -/
section
variable {P : Program} {w : World} {K : PySem.W.Frag} {H H' : Hp} {h : Heap}
def Tl (H : Hp) (v : V) (d : PyData) : Prop := Td H v d ∨ ∃ (l : Addr) (ds : List PyData), v = .ref l ∧ d = .list ds ∧ LstT H l ds
theorem Tl.ex {v : V} {d : PyData} (e : Ex H H') (t : Tl H v d) : Tl H' v d := by
  rcases t with t | ⟨l, ds, a, b, c⟩
  · exact .inl (t.ex e)
  · exact .inr ⟨l, ds, a, b, c.ex e⟩
theorem reads_tl (ok : HOk P w H h) {d : PyData} {v : V} {u : Value} (t : Tl H v d) (r : RelV v u) : ∃ as, Reads h u d as := by
  rcases t with t | ⟨l, ds, rfl, rfl, xs, hx, hd⟩
  · exact reads_td ok t r
  · cases r
    obtain ⟨_, its, n, rv, e⟩ := (show ObjOk P w H h l (.lst xs) from ok l _ hx)
    obtain ⟨as, ra⟩ := reads_tdAll ok hd rv
    exact ⟨_, .list e rfl rfl (by simpa using ra)⟩
end
def rLtD : R2 := fun x y H Q => ∃ d e : PyData, Tl H x d ∧ Tl H y e ∧ PySem.W.alike d e = true ∧ d ≠ .none ∧ d.depth ≤ 30 ∧ Q (.bl (PySem.W.dataLt d e)) H
theorem op_ltD {X : Cx} (hu : X.A.units + 64 < cLine) : OpR X (compareOp .Lt) rLtD := by
  intro pins s σ H x y v u Q I rx ry h
  obtain ⟨d, e, td, te, ha, hn, hd, q⟩ := h
  obtain ⟨as, ra⟩ := reads_tl I.hok td rx
  obtain ⟨bs, rb⟩ := reads_tl I.hok te ry
  exact PySem.W.rcLt_alike d e X.A s v u as bs ra rb ha hn (by have : min d.depth e.depth ≤ d.depth := Nat.min_le_left _ _; omega) X.prog X.w X.xe (EP X pins σ Q) ⟨.bl (PySem.W.dataLt d e), H, I, rfl, q⟩
theorem ev_ltD {σ : L2.St} {H : Hp} {ta tb : TE} {d e : PyData} (ha : EvP ta σ H (fun v H' => Tl H' v d)) (hb : EvP tb σ H (fun v H' => Tl H' v e)) (h : PySem.W.alike d e = true) (hn : d ≠ .none) (hd : d.depth ≤ 30) : Ev (tOp rLtD ta tb) σ H (.bl (PySem.W.dataLt d e)) := fun H1 x Q q => ha H1 x _ fun v H2 x2 p => hb H2 (x.trans x2) _ fun w H3 x3 p2 => ⟨d, e, p.ex x3, p2, h, hn, hd, q H3 (x2.trans x3)⟩
theorem lt_ints (a b : List Int) : PySem.W.dataLt (intsD a) (intsD b) = decide (a < b) := by
  rw [intsD, intsD, PySem.W.dataLt_tuple]
  exact PySem.W.dataLt_ints a b
theorem alike_intsD (a b : List Int) : PySem.W.alike (intsD a) (intsD b) = true := by simp [intsD, PySem.W.alike, PySem.W.alike_ints]
/-- the order of states -/
def LtS (a b : State) : Prop := a.1 < b.1 ∨ (a.1 = b.1 ∧ a.2 < b.2)
theorem lt_state (a b : State) : (PySem.W.dataLt (stateD a) (stateD b) = true) ↔ LtS a b := by
  unfold stateD LtS
  rw [PySem.W.dataLt_pair (by simp [PySem.W.alike]) (alike_intsD _ _), PySem.W.dataLt_int, lt_ints, eqv_ints]
  have e : PyData.eqv (.int a.1) (.int b.1) = decide (a.1 = b.1) := eqv_dec (nb_intD _) (nb_intD _) (by simp)
  rw [e]
  by_cases c : a.1 = b.1
  · rw [if_pos (decide_eq_true c)]
    by_cases c2 : a.2 = b.2
    · rw [if_pos (decide_eq_true c2), c2, c]
      simp [List.lt_irrefl]
    · rw [if_neg (by simpa using c2)]
      simp [c]
  · rw [if_neg (by simpa using c)]
    simp [c]
theorem LtS.total {a b : State} (h : ¬ LtS b a) (hne : a ≠ b) : LtS a b := by
  obtain ⟨a1, a2⟩ := a
  obtain ⟨b1, b2⟩ := b
  unfold LtS at *
  simp only at *
  by_cases c : a1 = b1
  · subst c
    have h2 : ¬ b2 < a2 := fun z => h (.inr ⟨rfl, z⟩)
    have h3 : a2 ≠ b2 := fun z => hne (by rw [z])
    have h4 : a2 ≤ b2 := List.not_lt.mp h2
    rcases List.le_iff_lt_or_eq.mp h4 with h5 | h5
    · exact .inr ⟨rfl, h5⟩
    · exact absurd h5 h3
  · left
    omega
theorem sortS_lt {ss : List State} (h : ss.Nodup) : (sortS ss).Pairwise LtS := by
  have hn : (sortS ss).Nodup := (sortS_perm ss).nodup_iff.mpr h
  have hs : (sortS ss).Pairwise (fun a b => PySem.W.dataLe false stateD a b = true) := PySem.W.sort_pairwise (PySem.W.sortLe_total _ false _) ss
  exact (List.Pairwise.and hs hn).imp fun {a b} ⟨h1, h2⟩ => by
    rw [PySem.W.dataLe_eq] at h1
    have h3 : ¬ LtS b a := fun z => by
      have := (lt_state b a).mpr z
      simp [this] at h1
    exact LtS.total h3 h2

section
variable {P : Program} {w : World} {K : PySem.W.Frag} {mg : Str → Option Value} {base : Heap}
theorem td_item {H0 : Hp} {v : V} {ds : List PyData} {d : PyData} {j : Nat} (h : Td H0 v (.tuple ds)) (hi : ds[j]? = some d) : ∃ u, Td H0 u d ∧ ∀ {ta tb : TE} {σ : L2.St} {H : Hp}, Ex H0 H → Ev ta σ H v → Ev tb σ H (.int (j : Int)) → Ev (tOp (rIxT K) ta tb) σ H u := by
  cases h with
  | tup ho hd =>
    rename_i a xs
    obtain ⟨u, h4, h5⟩ := hd.get hi
    exact ⟨u, h5, fun e h1 h2 => ev_op h1 h2 (rv_ixT (SqT.of (e _ _ ho)) (atI_nat h4))⟩
theorem lt_stepsC {σ : L2.St} {H : Hp} {tr : TA} {E : XK} {v hv : V} {n room : Int} {ds : List Door} {ks : List Key2} {held : List Int} (h : EvA tr σ H [v, .int room, hv]) (hm : Dp K H v (mazeF n ds ks)) (hh : Dp K H hv (intsD held)) (hok : DoorsOk n ds) (hr : Here n room) : EvLT (tCall (sp_steps K) [] E tr) σ H ((stepsF ds ks room held).map stateD) := fun H1 e Q q => h H1 e _ fun H2 e2 => ⟨v, hv, n, room, ds, ks, held, rfl, dp_ex (e.trans e2) hm, dp_ex (e.trans e2) hh, hok, fun _ p H3 np e3 hp => q p H3 (fresh_back e2 np) (e2.trans e3) hp, fun z => absurd hr z⟩
theorem LstT.updE {H : Hp} {l d : Addr} {φ : Heap → Prop} {o : HO} {ds : List PyData} (hd : H d = some (.ext φ)) (h : LstT H l ds) : LstT (upd H d o) l ds := by
  obtain ⟨xs, a, b⟩ := h
  exact ⟨xs, by rw [L2.upd_ne (ne_of a hd (fun z => by cases z))]; exact a, b.tk (Tk.ext hd)⟩
theorem LstT.at {H : Hp} {l : Addr} {ds : List PyData} (h : LstT H l ds) : ∃ xs, H l = some (.lst xs) := let ⟨xs, a, _⟩ := h; ⟨xs, a⟩
theorem SeenK.at {H : Hp} {d : Addr} {S : List State} (h : SeenK P w H d S) : ∃ o, H d = some o := let ⟨_, a, _⟩ := h; ⟨_, a.1⟩
theorem del_fresh {H : Hp} {d l : Addr} (h : H l = none) : del H d l = none := by
  unfold del
  split
  · rfl
  · exact h
end

section
variable {P : Program} {w : World} {K : PySem.W.Frag} {mg : Str → Option Value} {base : Heap}
theorem s_dropA {σ : L2.St} {H : Hp} {D : Ends} {tr : TA} {sp : Sp} {E : XK} {vs : List V} (h : EvA tr σ H vs) (k : ∀ H1, Ex H H1 → sp vs H1 (fun _ H2 => D.nx σ H2) E) : tDrop (tCall sp [] E tr) D σ H := h H (Ex.refl H) _ fun H1 e1 => by
  show sp (vs ++ []) H1 _ E
  rw [List.append_nil]
  exact k H1 e1
theorem s_asgA {σ : L2.St} {H : Hp} {D : Ends} {tr : TA} {sp : Sp} {E : XK} {vs : List V} {i : Nat} (h : EvA tr σ H vs) (k : ∀ H1, Ex H H1 → sp vs H1 (fun v H2 => D.nx (σ.set i (some v)) H2) E) : tAsg (tCall sp [] E tr) (gName i) D σ H := h H (Ex.refl H) _ fun H1 e1 => by
  show sp (vs ++ []) H1 _ E
  rw [List.append_nil]
  exact k H1 e1
end

section
variable {P : Program} {w : World} {K : PySem.W.Frag} {mg : Str → Option Value} {base : Heap}
/-! ### keys in hand, compared -/
def sp_l_hand (K : PySem.W.Frag) : Sp := fun vs H Q _ => ∃ (v u : V) (ns ms : List Int), vs = [v, u] ∧ Dp K H v (intsD ns) ∧ Dp K H u (intsD ms) ∧ ∀ H2, Ex H H2 → Q (.bl (decide (ns = ms))) H2
theorem ok_l_hand (T : Txt K mg) : Kept P w K mg base 2 "_law_hand" ["_law_found", "_law_due_here"] (sp_l_hand K) := by
  refine T.d_l_hand.kept sc_l_hand (fun vs H Q E h => ?_) (fun cdv A outer s H vs Q E hr h => ?_)
  · obtain ⟨v, u, ns, ms, rfl, _⟩ := h
    rfl
  · obtain ⟨v, u, ns, ms, rfl, hv, hu, q⟩ := h
    refine ⟨_, (pss_cons (ps_if (PW.pt (pw_or (pt_not (pt_val (pe_callB (call_isi_K (K := K) rfl) (by rfl) T.n_isinstance (by decide +kernel) (pa_cons (pv 0) (pa_cons (pe_bltn (v := .ty "tuple") (u := .type "tuple") (by rfl) T.n_tuple (by decide +kernel) rfl) pa_nil))))) (pw_or1 (pt_cmpR op_ne (pe_callB (call_len_seq_K (K := K) rfl) (by rfl) T.n_len (by decide +kernel) (pa_cons (pv 0) pa_nil)) (pe_callB (call_len_seq_K (K := K) rfl) (by rfl) T.n_len (by decide +kernel) (pa_cons (pv 1) pa_nil)) (nomark _)))))
        (pss_one (ps_ret pe_bl))
        pss_nil)
      (pss_cons (ps_for (passes_of rfl) rfl (pi_tup_K (K := K) rfl (pv 0)) (pg_name (i := 2) sc_l_hand.nd rfl (Or.inl rfl))
        (pss_one (ps_if (pt_not (pt_val (pe_fn (ok_l_whole (K := K) T) (hr.mono (by decide)) passL (by rfl) (pa_cons (pv 2) pa_nil))))
        (pss_one (ps_ret pe_bl))
        pss_nil)))
      (pss_one (ps_ret (pe_cmpR (op_eqD_K (K := K) rfl hr.units) (pv 0) (pv 1) (nomark _)))))), ?_⟩
    refine q_when (b := (!true) || !decide (ns.length = ms.length)) (et_or (et_not (et_B (ev_isiD (n := "tuple") (ed_any (ev_var rfl) hv) (fun v H1 _ h => ty_tup h) (by decide +kernel)))) fun _ =>
      et_test (ev_is (ev_op (ev_lenD (ed_any (ev_var rfl) hv) (.inr rfl)) (ev_lenD (ed_any (ev_var rfl) hu) (.inr rfl)) rv_neI) (by simp; omega))) (fun hb H1 e1 => ?_) (fun hb H1 e1 => ?_)
    · refine s_ret (v := .bl false) ev_c fun H2 e2 => ?_
      have hn : ¬ ns = ms := fun z => by subst z; simp at hb
      have := q _ (e1.trans e2)
      rw [decide_eq_false hn] at this
      exact this
    · have hv1 := dp_ex e1 hv
      cases hv1 with
      | tup hs hd =>
        rename_i a xs
        have hx := dpAll_ints hd
        subst hx
        refine q_forT (σ := [some (.ref a), some u, none]) (g := gName 2) (ev_var rfl) hs (fun i σ' H' => Ex H1 H' ∧ ∃ y, σ' = [some (.ref a), some u, y]) (fun H2 e2 => ⟨e2, none, rfl⟩) (fun i σ' H' _ h => ex_t h.1 hs) (fun i x σ' H' hi hP => ?_) (fun σ' H' hP => ?_)
        · obtain ⟨e2, y, rfl⟩ := hP
          rw [List.getElem?_map] at hi
          obtain ⟨n, _, rfl⟩ := Option.map_eq_some_iff.mp hi
          refine s_when (b := !true) (et_not (et_B (ev_call (ea_cons (ev_var rfl) ea_nil) sv_l_whole))) (fun z => by cases z) fun _ H2 e3 => ⟨e2.trans e3, _, rfl⟩
        · obtain ⟨e2, y, rfl⟩ := hP
          have e12 := e1.trans e2
          refine s_ret (ev_is (ev_eqD (ed_any (ev_var rfl) (dp_ex e12 hv)) (ed_any (ev_var rfl) (dp_ex e12 hu)) (sh_ints ns) (sh_ints ms)) (by rw [eqv_ints])) fun H2 e3 => q _ (e12.trans e3)
theorem sv_l_hand {H : Hp} {v u : V} {ns ms : List Int} (h1 : Dp K H v (intsD ns)) (h2 : Dp K H u (intsD ms)) : SpV (sp_l_hand K) [v, u] H (.bl (decide (ns = ms))) := fun H1 e Q q E => ⟨v, u, ns, ms, rfl, dp_ex e h1, dp_ex e h2, q⟩
end

section
variable {P : Program} {w : World} {K : PySem.W.Frag} {mg : Str → Option Value} {base : Heap}
theorem td_unit0 {σ : L2.St} {H : Hp} : EvTd (tTup tNil) σ H (intsD []) := td_tup (ds := []) ea_tn (by simp)
theorem td_takenU {σ : L2.St} {H : Hp} {t1 t2 : TE} {E : XK} {v : V} {n room : Int} {dd : List PyData} {ks : List Key2} (h1 : Ev t1 σ H v) (h2 : Ev t2 σ H (.int room)) (hm : Dp K H v (mazeD n dd ks)) (hr : Here n room) : EvTd (tCall (sp_taken K) [] E (tCons t1 (tCons t2 (tCons (tTup tNil) tNil)))) σ H (intsD (takenF ks room [])) := by
  intro H3 e3 Q' q'
  refine ea_pv (R := fun vs H' => ∃ hv, vs = [v, .int room, hv] ∧ Td H' hv (intsD [])) h1 (fun H4 e4 => ea_pv (h2.mono e4) fun H5 e5 => ea_pc td_unit0 fun u H6 e6 hu => ea_pn fun H7 e7 => ⟨u, rfl, hu.ex e7⟩) H3 e3 _ fun vs H4 e4 hvs => ?_
  obtain ⟨hv, rfl, hhv⟩ := hvs
  exact ⟨v, hv, n, room, _, ks, [], rfl, dp_ex (e3.trans e4) hm, hhv.dp, fun _ v H5 e5 p => q' v H5 (e4.trans e5) p, fun z => absurd hr z⟩
theorem stateD_inj {a b : State} : stateD a = stateD b → a = b := by
  obtain ⟨a1, a2⟩ := a
  obtain ⟨b1, b2⟩ := b
  intro z
  simp only [stateD, PyData.tuple.injEq, List.cons.injEq, PyData.int.injEq, and_true] at z
  rw [z.1, intsD_inj.mp z.2]
theorem eqv_states (a b : List State) : PyData.eqv (.list (a.map stateD)) (.list (b.map stateD)) = decide (a = b) := eqv_dec (nb_states a) (nb_states b) ⟨fun e => map_inj (f := stateD) (fun a b z => stateD_inj z) (by simpa using e), fun e => by rw [e]⟩
theorem ex_del {H H1 : Hp} {d : Addr} (e : Ex H H1) (hd : H d = none) : Ex H (del H1 d) := fun b o h => by
  rw [del_ne (fun z => by subst z; rw [hd] at h; cases h)]
  exact e _ _ h
/-- a list of lists of states -/
def RowsP (H : Hp) (ps : List Addr) (rows : List (List State)) : Prop := Paired (fun p r => LstT H p (List.map stateD r)) ps rows
def RowsT (H : Hp) (l : Addr) (rows : List (List State)) : Prop := ∃ ps : List Addr, H l = some (.lst (ps.map V.ref)) ∧ (∀ p ∈ ps, p ≠ l) ∧ RowsP H ps rows
theorem RowsP.imp {H H' : Hp} {ps : List Addr} {rows : List (List State)} (h : RowsP H ps rows) (k : ∀ p ∈ ps, ∀ ds, LstT H p ds → LstT H' p ds) : RowsP H' ps rows := by
  unfold RowsP at *
  induction h with
  | nil => exact .nil
  | cons a b ih => exact .cons (k _ (by simp) _ a) (ih fun p hp ds => k p (by simp [hp]) ds)
theorem RowsP.ex {H H' : Hp} {ps : List Addr} {rows : List (List State)} (e : Ex H H') (h : RowsP H ps rows) : RowsP H' ps rows := h.imp fun p _ ds hp => hp.ex e
theorem RowsT.ex {H H' : Hp} {l : Addr} {rows : List (List State)} (e : Ex H H') (h : RowsT H l rows) : RowsT H' l rows := let ⟨ps, a, b, c⟩ := h; ⟨ps, e _ _ a, b, c.ex e⟩
theorem RowsP.dp {H : Hp} {ps : List Addr} {rows : List (List State)} (h : RowsP H ps rows) : DpAll K H (ps.map V.ref) (rows.map fun r => .list (r.map stateD)) := by
  unfold RowsP at h
  induction h with
  | nil => exact .nil
  | cons a b ih => exact .cons a.dp ih
theorem RowsT.dp {H : Hp} {l : Addr} {rows : List (List State)} (h : RowsT H l rows) : Dp K H (.ref l) (.list (rows.map fun r => .list (r.map stateD))) := let ⟨ps, a, _, c⟩ := h; .lst (SqL.of a) c.dp
theorem RowsP.len {H : Hp} {ps : List Addr} {rows : List (List State)} (h : RowsP H ps rows) : ps.length = rows.length := by
  unfold RowsP at h
  induction h with
  | nil => rfl
  | cons a b ih => simp [ih]
theorem RowsP.get {H : Hp} {ps : List Addr} {rows : List (List State)} (h : RowsP H ps rows) : ∀ {i : Nat} {r : List State}, rows[i]? = some r → ∃ p, ps[i]? = some p ∧ LstT H p (r.map stateD) := by
  unfold RowsP at h
  induction h with
  | nil => intro i r e; simp at e
  | cons a b ih =>
    intro i r e
    cases i with
    | zero => simp at e; subst e; exact ⟨_, rfl, a⟩
    | succ i => simp at e; obtain ⟨p, h1, h2⟩ := ih e; exact ⟨p, by simpa using h1, h2⟩
end

/-! ### the least ways, in plain -/
abbrev Way := List Int
abbrev Ways := List (State × Way)
abbrev keysW (W : Ways) : List State := W.map (·.1)
def getW (W : Ways) (s : State) : Option Way := (W.find? fun p => decide (p.1 = s)).map (·.2)
def putW (W : Ways) (s : State) (w : Way) : Ways := if s ∈ keysW W then W.map (fun p => if p.1 = s then (p.1, w) else p) else W ++ [(s, w)]
def addW (S : List State) (w : Way) (F : Ways) (o : State) : Ways :=
  if o ∈ S then F else match getW F o with
    | none => putW F o (w ++ [o.1])
    | some v => if w ++ [o.1] < v then putW F o (w ++ [o.1]) else F
def stepW (ds : List Door) (ks : List Key2) (S : List State) (F : Ways) (p : State × Way) : Ways := (nextS ds ks p.1).foldl (addW S p.2) F
def onwardF (ds : List Door) (ks : List Key2) (W : Ways) (S : List State) : Ways := W.foldl (stepW ds ks S) []
def wayAt (ds : List Door) (ks : List Key2) (start : Int) : Nat → Ways × List State
  | 0 => ([(firstS ks start, [start])], [firstS ks start])
  | t + 1 => (onwardF ds ks (wayAt ds ks start t).1 (wayAt ds ks start t).2, (wayAt ds ks start t).2 ++ keysW (onwardF ds ks (wayAt ds ks start t).1 (wayAt ds ks start t).2))
def minL (a : Way) (r : List Way) : Way := r.foldl (fun a y => if y < a then y else a) a
def minW : List Way → Option Way
  | [] => none
  | a :: r => some (minL a r)
def endsF (goal : Int) (W : Ways) : List Way := (W.filter fun p => decide (p.1.1 = goal)).map (·.2)
def bestF (goal : Int) (W : Ways) : Option Way := minW (endsF goal W)
theorem fold_take {α β : Type} (f : β → α → β) (b : β) {l : List α} {i : Nat} {a : α} (h : l[i]? = some a) : (l.take (i + 1)).foldl f b = f ((l.take i).foldl f b) a := by
  have e : l.take (i + 1) = l.take i ++ [a] := by rw [List.take_succ, h]; rfl
  rw [e, List.foldl_append]
  rfl
theorem fold_inv {α β : Type} {Pr : β → Prop} {f : β → α → β} : ∀ {l : List α} {b : β}, Pr b → (∀ b a, a ∈ l → Pr b → Pr (f b a)) → Pr (l.foldl f b)
  | [], _, h, _ => h
  | a :: r, b, h, hs => by
    rw [List.foldl_cons]
    exact fold_inv (hs b a (by simp) h) fun b c hc => hs b c (by simp [hc])
theorem getW_none {W : Ways} {s : State} : getW W s = none ↔ s ∉ keysW W := by
  unfold getW
  rw [Option.map_eq_none_iff, List.find?_eq_none]
  constructor
  · intro h z
    obtain ⟨p, hp, e⟩ := List.mem_map.mp z
    exact h p hp (by simpa using e)
  · intro h p hp z
    exact h (List.mem_map.mpr ⟨p, hp, by simpa using z⟩)
theorem getW_mem {W : Ways} {s : State} {w : Way} (h : getW W s = some w) : (s, w) ∈ W := by
  unfold getW at h
  obtain ⟨p, hp, rfl⟩ := Option.map_eq_some_iff.mp h
  have h1 := List.mem_of_find?_eq_some hp
  have h2 : p.1 = s := by simpa using List.find?_some hp
  rw [← h2]
  exact h1
theorem getW_of {W : Ways} (hn : (keysW W).Nodup) {s : State} {w : Way} (h : (s, w) ∈ W) : getW W s = some w := by
  induction W with
  | nil => cases h
  | cons a r ih =>
    rw [keysW, List.map_cons, List.nodup_cons] at hn
    unfold getW
    rw [List.find?_cons]
    rcases List.mem_cons.mp h with h1 | h1
    · rw [← h1]
      simp
    · have hne : ¬ a.1 = s := fun z => hn.1 (List.mem_map.mpr ⟨(s, w), h1, z.symm⟩)
      simp only [hne, decide_false]
      exact ih hn.2 h1
theorem keys_putW (W : Ways) (s : State) (w : Way) : keysW (putW W s w) = if s ∈ keysW W then keysW W else keysW W ++ [s] := by
  unfold putW
  by_cases c : s ∈ keysW W
  · rw [if_pos c, if_pos c]
    show (W.map _).map _ = _
    rw [List.map_map]
    refine List.map_congr_left fun p _ => ?_
    show (if p.1 = s then (p.1, w) else p).1 = p.1
    split <;> rfl
  · rw [if_neg c, if_neg c]
    show (W ++ [(s, w)]).map _ = _
    rw [List.map_append]
    rfl
theorem mem_putW {W : Ways} {s : State} {w : Way} {p : State × Way} (h : p ∈ putW W s w) : p ∈ W ∨ p = (s, w) := by
  unfold putW at h
  split at h
  · obtain ⟨q, hq, rfl⟩ := List.mem_map.mp h
    split
    · rename_i e
      right
      rw [e]
    · exact .inl hq
  · rcases List.mem_append.mp h with h1 | h1
    · exact .inl h1
    · simp at h1
      exact .inr h1
/-- putting what is there changes nothing -/
theorem putW_same {W : Ways} (hn : (keysW W).Nodup) {s : State} {w : Way} (h : getW W s = some w) : putW W s w = W := by
  have hm := getW_mem h
  have hk : s ∈ keysW W := List.mem_map.mpr ⟨_, hm, rfl⟩
  unfold putW
  rw [if_pos hk]
  have e : W.map (fun p => if p.1 = s then (p.1, w) else p) = W.map id := List.map_congr_left fun p hp => by
    split
    · rename_i e
      have := getW_of hn (s := p.1) (w := p.2) hp
      rw [e, h] at this
      cases this
      rfl
    · rfl
  rw [e, List.map_id]
theorem keys_addW (S : List State) (w : Way) (F : Ways) (o : State) : keysW (addW S w F o) = if o ∈ S then keysW F else if o ∈ keysW F then keysW F else keysW F ++ [o] := by
  unfold addW
  by_cases c : o ∈ S
  · rw [if_pos c, if_pos c]
  · rw [if_neg c, if_neg c]
    cases h : getW F o with
    | none => simp only [keys_putW]
    | some v =>
      have hk : o ∈ keysW F := List.mem_map.mpr ⟨_, getW_mem h, rfl⟩
      simp only
      rw [if_pos hk]
      split
      · rw [keys_putW, if_pos hk]
      · rfl
theorem mem_addW {S : List State} {w : Way} {F : Ways} {o : State} {p : State × Way} (h : p ∈ addW S w F o) : p ∈ F ∨ (p = (o, w ++ [o.1]) ∧ o ∉ S) := by
  unfold addW at h
  split at h
  · exact .inl h
  · rename_i c
    split at h
    · rcases mem_putW h with h | h
      · exact .inl h
      · exact .inr ⟨h, c⟩
    · split at h
      · rcases mem_putW h with h | h
        · exact .inl h
        · exact .inr ⟨h, c⟩
      · exact .inl h
theorem addW_nodup {S : List State} {w : Way} {F : Ways} {o : State} (h : (keysW F).Nodup) : (keysW (addW S w F o)).Nodup := by
  rw [keys_addW]
  split
  · exact h
  · split
    · exact h
    · rename_i c
      rw [List.nodup_append]
      refine ⟨h, by simp, fun x hx y hy z => ?_⟩
      simp at hy
      subst hy
      subst z
      exact c hx
theorem stepW_nodup {ds : List Door} {ks : List Key2} {S : List State} {F : Ways} {p : State × Way} (h : (keysW F).Nodup) : (keysW (stepW ds ks S F p)).Nodup := fold_inv (Pr := fun (F : Ways) => (keysW F).Nodup) h fun _ _ _ => addW_nodup
theorem onward_nodup (ds : List Door) (ks : List Key2) (W : Ways) (S : List State) : (keysW (onwardF ds ks W S)).Nodup := fold_inv (Pr := fun (F : Ways) => (keysW F).Nodup) (by simp) fun _ _ _ => stepW_nodup
/-- what comes of a step -/
theorem onward_mem {ds : List Door} {ks : List Key2} {W : Ways} {S : List State} {q : State × Way} (h : q ∈ onwardF ds ks W S) : q.1 ∉ S ∧ ∃ p ∈ W, q.1 ∈ nextS ds ks p.1 ∧ q.2 = p.2 ++ [q.1.1] := by
  have key : ∀ q : State × Way, q ∈ onwardF ds ks W S → q.1 ∉ S ∧ ∃ p ∈ W, q.1 ∈ nextS ds ks p.1 ∧ q.2 = p.2 ++ [q.1.1] := by
    unfold onwardF
    refine fold_inv (Pr := fun (F : Ways) => ∀ q : State × Way, q ∈ F → q.1 ∉ S ∧ ∃ p ∈ W, q.1 ∈ nextS ds ks p.1 ∧ q.2 = p.2 ++ [q.1.1]) (by simp) fun F p hp hF => ?_
    unfold stepW
    refine fold_inv (Pr := fun (F : Ways) => ∀ q : State × Way, q ∈ F → q.1 ∉ S ∧ ∃ p ∈ W, q.1 ∈ nextS ds ks p.1 ∧ q.2 = p.2 ++ [q.1.1]) hF fun F o ho hF q hq => ?_
    rcases mem_addW hq with h1 | ⟨h1, h2⟩
    · exact hF q h1
    · subst h1
      exact ⟨h2, p, hp, ho, rfl⟩
  exact key q h
theorem addW_keeps {S : List State} {w : Way} {F : Ways} {o x : State} (h : x ∈ keysW F) : x ∈ keysW (addW S w F o) := by
  rw [keys_addW]
  split
  · exact h
  · split
    · exact h
    · exact List.mem_append_left _ h
theorem addW_has {S : List State} {w : Way} {F : Ways} {o : State} (h : o ∉ S) : o ∈ keysW (addW S w F o) := by
  rw [keys_addW, if_neg h]
  split
  · assumption
  · simp
theorem fold_has {α β : Type} {Pr : β → Prop} {f : β → α → β} {a : α} : ∀ {l : List α} {b : β}, a ∈ l → (∀ b, Pr (f b a)) → (∀ b c, Pr b → Pr (f b c)) → Pr (l.foldl f b)
  | [], _, h, _, _ => by cases h
  | c :: r, b, h, h1, h2 => by
    rw [List.foldl_cons]
    rcases List.mem_cons.mp h with e | e
    · subst e
      exact fold_inv (h1 b) fun b c _ => h2 b c
    · exact fold_has e h1 h2
theorem onward_keys {ds : List Door} {ks : List Key2} {W : Ways} {S : List State} {x : State} : x ∈ keysW (onwardF ds ks W S) ↔ x ∉ S ∧ ∃ p ∈ W, x ∈ nextS ds ks p.1 := by
  constructor
  · intro h
    obtain ⟨q, hq, rfl⟩ := List.mem_map.mp h
    obtain ⟨h1, p, hp, h2, _⟩ := onward_mem hq
    exact ⟨h1, p, hp, h2⟩
  · rintro ⟨h1, p, hp, h2⟩
    unfold onwardF
    refine fold_has (Pr := fun (F : Ways) => x ∈ keysW F) hp (fun F => ?_) fun F q hF => ?_
    · exact fold_has (Pr := fun (F : Ways) => x ∈ keysW F) h2 (fun F => addW_has h1) fun F o hF => addW_keeps hF
    · exact fold_inv (Pr := fun (F : Ways) => x ∈ keysW F) hF fun F o _ => addW_keeps
/-- what holds behind t steps -/
structure WI (n : Int) (ds : List Door) (ks : List Key2) (start : Int) (t : Nat) (W : Ways) (S : List State) : Prop where
  nd : (keysW W).Nodup
  ns : S.Nodup
  vs : ∀ s ∈ S, VS n s
  sub : ∀ p ∈ W, p.1 ∈ S
  len : W ≠ [] → t + 1 ≤ S.length
  low : ∀ p ∈ W, p.2.length = t + 1 ∧ p.2[0]? = some start
theorem wi_at {n : Int} {ds : List Door} {ks : List Key2} {start : Int} (hw : ∀ d ∈ ds, WfD n d) (hs : Here n start) : ∀ t, WI n ds ks start t (wayAt ds ks start t).1 (wayAt ds ks start t).2
  | 0 => ⟨by simp [wayAt], by simp [wayAt], fun s h => by simp [wayAt] at h; subst h; exact vs_taken hs ks [], by simp [wayAt], by simp [wayAt], by simp [wayAt]⟩
  | t + 1 => by
    obtain ⟨nd, ns, vs, sub, len, low⟩ := wi_at (ks := ks) hw hs t
    obtain ⟨W, eW⟩ : ∃ W, (wayAt ds ks start t).1 = W := ⟨_, rfl⟩
    obtain ⟨S, eS⟩ : ∃ S, (wayAt ds ks start t).2 = S := ⟨_, rfl⟩
    have e : wayAt ds ks start (t + 1) = (onwardF ds ks W S, S ++ keysW (onwardF ds ks W S)) := by rw [← eW, ← eS]; rfl
    rw [e]
    rw [eW] at nd sub len low
    rw [eS] at ns vs sub len
    refine ⟨onward_nodup ds ks W S, ?_, fun s h => ?_, fun p hp => List.mem_append_right _ (List.mem_map.mpr ⟨p, hp, rfl⟩), fun hne => ?_, fun p hp => ?_⟩
    · rw [List.nodup_append]
      refine ⟨ns, onward_nodup ds ks W S, fun x hx y hy z => ?_⟩
      subst z
      exact (onward_keys.mp hy).1 hx
    · rcases List.mem_append.mp h with h1 | h1
      · exact vs s h1
      · obtain ⟨_, p, _, h2⟩ := onward_keys.mp h1
        exact vs_steps hw s h2
    · simp only at hne
      have hW : W ≠ [] := fun z => hne (by rw [z]; rfl)
      have h1 := len hW
      have h2 : 0 < (keysW (onwardF ds ks W S)).length := by rw [List.length_map]; exact List.length_pos_iff.mpr hne
      simp only [List.length_append]
      omega
    · obtain ⟨_, q, hq, _, h3⟩ := onward_mem hp
      obtain ⟨h4, h5⟩ := low q hq
      rw [h3]
      exact ⟨by rw [List.length_append, h4]; rfl, by rw [List.getElem?_append_left (by omega)]; exact h5⟩
theorem ways_len {n : Int} {ds : List Door} {ks : List Key2} {start : Int} (hw : ∀ d ∈ ds, WfD n d) (hs : Here n start) (t : Nat) : (wayAt ds ks start t).1.length ≤ n.toNat * 32 ∧ (wayAt ds ks start t).2.length ≤ n.toNat * 32 := by
  have h := wi_at (ks := ks) hw hs t
  have h1 := vs_len h.ns h.vs
  have h2 := nodup_sub_len h.nd (m := (wayAt ds ks start t).2) fun x hx => by
    obtain ⟨p, hp, rfl⟩ := List.mem_map.mp hx
    exact h.sub p hp
  rw [List.length_map] at h2
  omega
theorem ways_t {n : Int} {ds : List Door} {ks : List Key2} {start : Int} (hw : ∀ d ∈ ds, WfD n d) (hs : Here n start) {t : Nat} (h : (wayAt ds ks start t).1 ≠ []) : t < n.toNat * 32 := by
  have h1 := (wi_at (ks := ks) hw hs t).len h
  have h2 := (ways_len (ks := ks) hw hs t).2
  omega
theorem ways_nil {ds : List Door} {ks : List Key2} {start : Int} {t : Nat} (h : (wayAt ds ks start t).1 = []) : ∀ u, t ≤ u → (wayAt ds ks start u).1 = [] := by
  intro u hu
  induction u with
  | zero =>
    have : t = 0 := by omega
    subst this
    exact h
  | succ u ih =>
    by_cases c : t ≤ u
    · have e : (wayAt ds ks start (u + 1)).1 = onwardF ds ks (wayAt ds ks start u).1 (wayAt ds ks start u).2 := rfl
      rw [e, ih c]
      rfl
    · have : t = u + 1 := by omega
      subst this
      exact h
theorem minW_none {l : List Way} : minW l = none ↔ l = [] := by cases l <;> simp [minW]
theorem bestF_nil (goal : Int) : bestF goal [] = none := rfl
theorem bestF_none {goal : Int} {W : Ways} : bestF goal W = none ↔ ∀ p ∈ W, p.1.1 ≠ goal := by
  unfold bestF endsF
  rw [minW_none, List.map_eq_nil_iff, List.filter_eq_nil_iff]
  simp
theorem minL_mem : ∀ (r : List Way) (a : Way), minL a r = a ∨ minL a r ∈ r
  | [], a => .inl rfl
  | b :: r, a => by
    have e : minL a (b :: r) = minL (if b < a then b else a) r := rfl
    rw [e]
    rcases minL_mem r (if b < a then b else a) with h | h
    · rw [h]
      split
      · exact .inr (by simp)
      · exact .inl rfl
    · exact .inr (List.mem_cons_of_mem _ h)
theorem minW_mem {l : List Way} {w : Way} (h : minW l = some w) : w ∈ l := by
  cases l with
  | nil => cases h
  | cons a r =>
    cases h
    rcases minL_mem r a with h | h
    · rw [h]; simp
    · exact List.mem_cons_of_mem _ h
theorem le_of_not_lt_way {a b : Way} (h : ¬ a < b) : b ≤ a := List.not_lt.mp h
theorem minL_le : ∀ (r : List Way) (a x : Way), x = a ∨ x ∈ r → minL a r ≤ x
  | [], a, x, h => by
    rcases h with h | h
    · rw [h]
      exact List.le_refl a
    · cases h
  | b :: r, a, x, h => by
    have e : minL a (b :: r) = minL (if b < a then b else a) r := rfl
    rw [e]
    have h1 := minL_le r (if b < a then b else a) _ (.inl rfl)
    rcases h with h | h
    · subst h
      refine List.le_trans h1 ?_
      split
      · rename_i c
        exact List.le_of_lt c
      · exact List.le_refl _
    · rcases List.mem_cons.mp h with h | h
      · subst h
        refine List.le_trans h1 ?_
        split
        · exact List.le_refl _
        · rename_i c
          exact le_of_not_lt_way c
      · exact minL_le r _ x (.inr h)
theorem minW_le {l : List Way} {w x : Way} (h : minW l = some w) (hx : x ∈ l) : w ≤ x := by
  cases l with
  | nil => cases h
  | cons a r =>
    cases h
    exact minL_le r a x (List.mem_cons.mp hx)
theorem minW_of {l : List Way} {w : Way} (h : w ∈ l) (hl : ∀ x ∈ l, w ≤ x) : minW l = some w := by
  cases e : minW l with
  | none =>
    rw [minW_none.mp e] at h
    cases h
  | some v => rw [List.le_antisymm (hl v (minW_mem e)) (minW_le e h)]
theorem bestF_mem {goal : Int} {W : Ways} {w : Way} (h : bestF goal W = some w) : ∃ p ∈ W, p.1.1 = goal ∧ p.2 = w := by
  have h1 := minW_mem h
  obtain ⟨p, hp, e⟩ := List.mem_map.mp h1
  have h2 := List.mem_filter.mp hp
  exact ⟨p, h2.1, by simpa using h2.2, e⟩
/-- the first place at which there is one -/
def FirstAt (ds : List Door) (ks : List Key2) (start goal : Int) (t : Nat) (w : Way) : Prop := (∀ u, u < t → bestF goal (wayAt ds ks start u).1 = none) ∧ bestF goal (wayAt ds ks start t).1 = some w
def NoneAt (ds : List Door) (ks : List Key2) (start goal : Int) (t : Nat) : Prop := (∀ u, u < t → bestF goal (wayAt ds ks start u).1 = none) ∧ (wayAt ds ks start t).1 = []
theorem FirstAt.uniq {ds : List Door} {ks : List Key2} {start goal : Int} {t u : Nat} {w v : Way} (h : FirstAt ds ks start goal t w) (q : FirstAt ds ks start goal u v) : w = v := by
  have e : t = u := by
    rcases Nat.lt_trichotomy t u with c | c | c
    · have := q.1 t c
      rw [h.2] at this
      cases this
    · exact c
    · have := h.1 u c
      rw [q.2] at this
      cases this
  subst e
  have := h.2.symm.trans q.2
  cases this
  rfl
theorem FirstAt.no {ds : List Door} {ks : List Key2} {start goal : Int} {t u : Nat} {w : Way} (h : FirstAt ds ks start goal t w) (q : NoneAt ds ks start goal u) : False := by
  by_cases c : t < u
  · have := q.1 t c
    rw [h.2] at this
    cases this
  · have := ways_nil q.2 t (by omega)
    have h2 := h.2
    rw [this] at h2
    cases h2

/-! ### dicts from states to ways -/
def Lk (H H' : Hp) : Prop := (∀ b ys, H b = some (.tup ys) → H' b = some (.tup ys)) ∧ ∀ b xs, H b = some (.lst xs) → H' b = some (.lst xs)
theorem Lk.refl (H : Hp) : Lk H H := ⟨fun _ _ h => h, fun _ _ h => h⟩
theorem Lk.trans {H H' H2 : Hp} (a : Lk H H') (b : Lk H' H2) : Lk H H2 := ⟨fun c ys h => b.1 c ys (a.1 c ys h), fun c ys h => b.2 c ys (a.2 c ys h)⟩
theorem Lk.ex {H H' : Hp} (e : Ex H H') : Lk H H' := ⟨fun b ys h => e b _ h, fun b ys h => e b _ h⟩
theorem Lk.ext {H : Hp} {d : Addr} {φ : Heap → Prop} {o : HO} (h : H d = some (.ext φ)) : Lk H (upd H d o) := ⟨Tk.ext h, fun b xs q => by rw [L2.upd_ne (ne_of q h (fun z => by cases z))]; exact q⟩
theorem Lk.frz {H : Hp} {d : Addr} {od : Obj} {u o : HO} (h : H d = some (.frz od u)) : Lk H (upd H d o) := ⟨fun b xs q => by rw [L2.upd_ne (ne_of q h (fun z => by cases z))]; exact q, fun b xs q => by rw [L2.upd_ne (ne_of q h (fun z => by cases z))]; exact q⟩
theorem Lk.del {H : Hp} {d : Addr} {φ : Heap → Prop} (h : H d = some (.ext φ)) : Lk H (Mz.del H d) := ⟨tk_del h, fun b xs q => by rw [del_ne (ne_of q h (fun z => by cases z))]; exact q⟩
theorem LstT.lk {H H' : Hp} {l : Addr} {ds : List PyData} (k : Lk H H') (h : LstT H l ds) : LstT H' l ds := let ⟨xs, a, b⟩ := h; ⟨xs, k.2 _ _ a, b.tk k.1⟩
/-- unlocked again -/
theorem ex_lock {H H' : Hp} {d : Addr} {u : HO} (hd : H d = some u) (e : Ex (Mz.del H d) H') : Ex H (upd H' d u) := fun b o h => by
  by_cases c : b = d
  · subst c
    rw [hd] at h
    cases h
    exact upd_same
  · rw [L2.upd_ne c]
    exact e b o (by rw [del_ne c]; exact h)
/-- base without one, and one that is new -/
theorem ex_lock2 {H H' : Hp} {d : Addr} {u : HO} (hd : H d = none) (e : Ex H H') : Ex H (upd H' d u) := Ex.mut e hd
def EntW (H0 H : Hp) (e : Ent) (p : State × Way) : Prop := e.1 = p.1 ∧ ∃ l, e.2.2 = .ref l ∧ H0 l = none ∧ LstT H l (p.2.map PyData.int)
def EntsW (H0 H : Hp) (L : List Ent) (W : Ways) : Prop := Paired (EntW H0 H) L W
section
variable {P : Program} {w : World} {H0 H H' : Hp} {L : List Ent} {W : Ways}
theorem EntsW.lk (k : Lk H H') (h : EntsW H0 H L W) : EntsW H0 H' L W := Paired.mapP h fun a b ⟨e, l, h1, h2, h3⟩ => ⟨e, l, h1, h2, h3.lk k⟩
theorem EntsW.keys (h : EntsW H0 H L W) : L.map (·.1) = keysW W := by
  unfold EntsW at h
  induction h with
  | nil => rfl
  | cons a b ih =>
    simp only [List.map_cons]
    rw [a.1, ih]
theorem EntsW.len (h : EntsW H0 H L W) : L.length = W.length := Paired.length h
theorem EntsW.get (h : EntsW H0 H L W) {i : Nat} {e : Ent} (hi : L[i]? = some e) : ∃ p, W[i]? = some p ∧ EntW H0 H e p := L2.paired_get h hi
theorem EntsW.has (h : EntsW H0 H L W) (k : State) : hasN L k = decide (k ∈ keysW W) := by rw [hasN_mem, h.keys]
theorem EntsW.gotW (h : EntsW H0 H L W) {k : State} {v : Way} (g : getW W k = some v) : ∃ l, getN L k = some (.ref l) ∧ H0 l = none ∧ LstT H l (v.map PyData.int) := by
  unfold EntsW at h
  induction h with
  | nil => cases g
  | @cons a p ps qs ha b ih =>
    obtain ⟨e, l, h1, h2, h3⟩ := ha
    unfold getW getN at *
    by_cases c : p.1 = k
    · have c2 : a.1 = k := by rw [e, c]
      simp only [List.find?_cons, c, decide_true, Option.map_some, Option.some.injEq] at g
      simp only [List.find?_cons, c2, decide_true, Option.map_some]
      subst g
      exact ⟨l, by rw [h1], h2, h3⟩
    · have c2 : ¬ a.1 = k := by rw [e]; exact c
      simp only [List.find?_cons, c, decide_false] at g
      simp only [List.find?_cons, c2, decide_false]
      exact ih g
theorem EntsW.noW (h : EntsW H0 H L W) {k : State} (g : getW W k = none) : getN L k = none := by
  have h1 := h.has k
  rw [decide_eq_false (getW_none.mp g), hasN_get] at h1
  cases e : getN L k with
  | none => rfl
  | some v => rw [e] at h1; cases h1
theorem EntsW.put (h : EntsW H0 H L W) {k : State} {b l : Addr} {v : Way} (hl : H0 l = none) (t : LstT H l (v.map PyData.int)) : EntsW H0 H (putN L k b (.ref l)) (putW W k v) := by
  unfold putN putW
  rw [h.has k]
  by_cases c : k ∈ keysW W
  · rw [if_pos (decide_eq_true c), if_pos c]
    clear c
    unfold EntsW at *
    induction h with
    | nil => exact .nil
    | @cons a p ps qs ha b2 ih =>
      simp only [List.map_cons]
      refine .cons ?_ ih
      by_cases c : p.1 = k
      · have c2 : a.1 = k := by rw [ha.1, c]
        rw [if_pos c, if_pos c2]
        exact ⟨ha.1, l, rfl, hl, t⟩
      · have c2 : ¬ a.1 = k := by rw [ha.1]; exact c
        rw [if_neg c, if_neg c2]
        exact ha
  · rw [if_neg (by simpa using c), if_neg c]
    exact Paired.snoc h ⟨rfl, l, rfl, hl, t⟩
theorem SD.ent (h : SD P w H d L) {i : Nat} {e : Ent} (hi : L[i]? = some e) : Td H (.ref e.2.1) (stateD e.1) := h.2 e (List.mem_of_getElem? hi)
end
/-! {k: a new list} -/
section
variable {P : Program} {w : World} {K : PySem.W.Frag} {σ : L2.St} {H : Hp} {ta tb : TE} {tz : TS} {D : Ends} {k : State} {i : Nat}
theorem q_dispTL {ds : List PyData} (hk : EvTd ta σ H (stateD k)) (hv : ∀ H1, Ex H H1 → EvLT tb σ H1 ds) (kk : ∀ p b l H1, H p = none → H l = none → p ≠ l → Ex H H1 → SD P w H1 p [(k, b, .ref l)] → LstT H1 l ds → tz D (σ.set i (some (.ref p))) H1) : tSeq (tAsg (tDispN P w ta tb) (gName i)) tz D σ H := fun p np => by
  have e1 := Ex.new (o := DN P w p []) np
  refine (hk.mono e1) _ (Ex.refl _) _ fun x H1 e2 t => hv H1 (e1.trans e2) H1 (Ex.refl H1) _ fun l H2 nl e3 hl => ?_
  have hx : ∃ b, x = .ref b := by unfold stateD at t; cases t; exact ⟨_, rfl⟩
  obtain ⟨b, rfl⟩ := hx
  refine ⟨b, k, rfl, t.ex e3, (e2.trans e3) _ _ upd_same, ?_⟩
  have hp : H2 p = some (DN P w p []) := (e2.trans e3) _ _ upd_same
  have hpl : p ≠ l := fun z => by
    subst z
    rw [e2 _ _ upd_same] at nl
    cases nl
  refine kk p b l _ np (fresh_back (e1.trans e2) nl) hpl (Ex.mut ((e1.trans e2).trans e3) np) ⟨upd_same, fun q hq => ?_⟩ (hl.lk (Lk.ext hp))
  simp at hq
  subst hq
  exact (t.ex e3).tk (Tk.ext hp)
end
/-! ### a comprehension over a dict of states -/
section
variable {P : Program} {w : World} {K : PySem.W.Frag} {H : Hp} {d : Addr} {L : List Ent} {σ : L2.St} {te : TE} {t : TT} {v : V} {D : Ends} {tz : TS} {g : TG} {vs : List Nat} {od : Obj}
theorem lc_keysN {j : Nat} {Q : VK} (hv : σ[j]? = some (some (.ref d))) (hD : H d = some (.frz od (DN P w d L))) (k : ∀ Dl, H Dl = none → ∃ Pv : Nat → Hp → Prop, Pv 0 (upd H Dl (.lst [])) ∧ (∀ i H', Pv i H' → H' d = some (.frz od (DN P w d L))) ∧
    (∀ i e H', L[i]? = some e → Pv i H' → g (.ref e.2.1) (wipe σ vs) H' fun σ2 H2 => wipe σ2 vs = wipe σ vs ∧ t σ2 H2 fun b H3 => if b = true then te σ2 H3 fun y H4 => ∃ acc, H4 Dl = some (.lst acc) ∧ acc.length < sizeLine ∧ Pv (i + 1) (upd H4 Dl (.lst (acc ++ [y]))) else Pv (i + 1) H3) ∧
    (∀ H', Pv L.length H' → Q (.ref Dl) H')) : tLc (iKeysN P w (tVar j)) g t te vs σ H Q :=
  ⟨_, hv, d, od, L, rfl, hD, fun Dl hDl => by
    obtain ⟨Pv, p0, pk, ps, pd⟩ := k Dl hDl
    refine lc_it walkN Pv p0 (fun i H' _ p => pk i H' p) (fun i x H1 H2 hi p y => ?_) pd
    obtain ⟨rfl, e, he, rfl⟩ := y
    exact ps i e _ he p⟩
end
section
variable {P : Program} {w : World} {K : PySem.W.Frag} {H H' : Hp} {d e : Addr} {L : List Ent} {S : List State} {o : HO} {φ : Heap → Prop} {od : Obj} {u : HO}
theorem SD.updO (hd : H d = some (.ext φ)) (ne : e ≠ d) (h : SD P w H e L) : SD P w (upd H d o) e L := ⟨by rw [L2.upd_ne ne]; exact h.1, h.2.tk (Tk.ext hd)⟩
theorem SD.updF (hd : H d = some (.frz od u)) (ne : e ≠ d) (h : SD P w H e L) : SD P w (upd H d o) e L := ⟨by rw [L2.upd_ne ne]; exact h.1, h.2.tk (Lk.frz hd).1⟩
theorem SD.delO (hd : H d = some (.ext φ)) (ne : e ≠ d) (h : SD P w H e L) : SD P w (Mz.del H d) e L := ⟨by rw [del_ne ne]; exact h.1, h.2.tk (tk_del hd)⟩
theorem SeenK.updX (hd : H d = some (.ext φ)) (ne : e ≠ d) (h : SeenK P w H e S) : SeenK P w (upd H d o) e S := let ⟨L, a, b⟩ := h; ⟨L, a.updO hd ne, b⟩
theorem SeenK.updF (hd : H d = some (.frz od u)) (ne : e ≠ d) (h : SeenK P w H e S) : SeenK P w (upd H d o) e S := let ⟨L, a, b⟩ := h; ⟨L, a.updF hd ne, b⟩
theorem SeenK.delO (hd : H d = some (.ext φ)) (ne : e ≠ d) (h : SeenK P w H e S) : SeenK P w (Mz.del H d) e S := let ⟨L, a, b⟩ := h; ⟨L, a.delO hd ne, b⟩
theorem SD.ext (h : SD P w H d L) : H d = some (.ext fun h => RawN P w h d L) := h.1
theorem q_lockAsg {σ : L2.St} {te : TE} {tz : TS} {D : Ends} {i : Nat} (hD : SD P w H d L) (k : ∀ od, te σ (upd H d (.frz od (DN P w d L))) fun v H' => H' d = some (.frz od (DN P w d L)) ∧ tz D (σ.set i (some v)) (upd H' d (DN P w d L))) : tSeq (tLock (tAsg te (gName i))) tz D σ H := ⟨d, DN P w d L, hD.1, True.intro, k⟩
end

/-! ### min of ways -/
theorem dataLt_way (a b : Way) : PySem.W.dataLt (intlD a) (intlD b) = decide (a < b) := by
  rw [intlD, intlD, PySem.W.dataLt_list]
  exact PySem.W.dataLt_ints a b
theorem alike_way (a b : Way) : PySem.W.alike (intlD a) (intlD b) = true := by simp [intlD, PySem.W.alike, PySem.W.alike_ints]
theorem minD_way : ∀ (r : List Way) (a : Way), PySem.W.minD (intlD a) (r.map intlD) = intlD (minL a r)
  | [], a => rfl
  | b :: r, a => by
    have e1 : PySem.W.minD (intlD a) ((b :: r).map intlD) = PySem.W.minD (if PySem.W.dataLt (intlD b) (intlD a) then intlD b else intlD a) (r.map intlD) := rfl
    have e2 : minL a (b :: r) = minL (if b < a then b else a) r := rfl
    rw [e1, e2, dataLt_way, ← minD_way r (if b < a then b else a)]
    by_cases c : b < a
    · rw [if_pos (decide_eq_true c), if_pos c]
    · rw [if_neg (by simpa using c), if_neg c]
section
variable {prog : Program} {w : World} {A : Around} {E : Value → Shared → Prop} {s : Shared}
/-- min of two, their data alike -/
theorem min_two_data {a b : Value} {x y : PyData} {as bs : List Addr} {Q : Value → Shared → Prop} (hh : A.handled = none) (ra : Reads s.heap a x as) (rb : Reads s.heap b y bs) (h1 : PySem.W.alike x x = true) (h2 : PySem.W.alike x y = true) (h3 : PySem.W.alike y x = true) (h4 : PySem.W.alike y y = true)
    (hx : x ≠ .none) (hy : y ≠ .none) (hu : A.units + 1 + PyData.depthAll [x, y] < cLine)
    (h : ∀ h' tk, (∀ c o, s.heap.get? c = some o → h'.get? c = some o) → Q (if PySem.W.dataLt y x = true then b else a) { s with heap := h', toks := tk }) :
    wpAny (model prog w) A (call (.builtin "min") [a, b]) Q E s := by
  have hn : (toString "min" ++ toString ".loop" : String) = "min.loop" := by decide
  refine call_function_tree F.kind_min F.plain_min F.entry_min (F.args_min2 _ _) ?_
  refine wpAny_bind (wpAny_of_eq (show Builtin.Builtins.bindParams "min" ["key", "default"] 0 ⟨[], []⟩ = pure [none, none] from rfl) ?_)
  show wpAny _ A.in1 (newTuple [a, b] >>= _) _ _ s
  refine wpAny_bind (wpAny_newObj_type ?_)
  obtain ⟨h0, eh0⟩ : ∃ h0, s.heap.push { cls := .type "tuple", data := .seq #[a, b] } = h0 := ⟨_, rfl⟩
  have k0 : ∀ c o, s.heap.get? c = some o → h0.get? c = some o := fun c o e => by rw [← eh0]; exact Heap.get?_push_of_some _ e
  have hl : h0.IsTuple s.heap.objs.size #[a, b] := by rw [← eh0]; exact ⟨_, Heap.get?_push_size _ rfl, rfl, _, rfl⟩
  have hr : ReadsAll h0 (#[a, b] : Array Value).toList [x, y] (as ++ (bs ++ [])) := .cons (Reads.keeps k0 ra) (.cons (Reads.keeps k0 rb) .nil)
  have hal : PySem.W.AlikeAll [x, y] := ⟨fun p hp q hq => by
    rcases List.mem_cons.mp hp with rfl | hp
    · rcases List.mem_cons.mp hq with rfl | hq
      · exact h1
      · have : q = y := by simpa using hq
        subst this
        exact h2
    · have : p = y := by simpa using hp
      subst this
      rcases List.mem_cons.mp hq with rfl | hq
      · exact h3
      · have : q = p := by simpa using hq
        subst this
        exact h4, fun p hp => by
    rcases List.mem_cons.mp hp with rfl | hp
    · exact hx
    · have : p = y := by simpa using hp
      subst this
      exact hy⟩
  rw [eh0]
  refine wpAny_bind (PySem.W.iter_tupleW (A := A.in1) (s := { s with heap := h0 }) hh hl fun s2 e W st hfp hw hk => ?_)
  refine wpAny_bind (wpAny_newObj_type ?_)
  have hSf : s2.heap.objs.size ∉ [h0.objs.size, s.heap.objs.size] := fun hm => Nat.lt_irrefl _ (hfp _ hm)
  rw [hn]
  have st2 := W.frame 0 s2 (s2.heap.push { cls := .type "list", data := .seq #[] 0 }) s2.toks st (Nat.le_refl _) fun c _ o e => Heap.get?_push_of_some _ e
  refine wpAny_pure ⟨plainId_quiet F.plain_min_loop _, ?_⟩
  refine codeAny_min_loop_firstH W h0 hw (fun i j => PySem.W.dataLt ([x, y].getD i .none) ([x, y].getD j .none)) (PySem.W.cmpIn_lt (A := A.in1) (s := { s with heap := h0 }) hr hal (by show A.units + 1 + _ < _; exact hu)) s2.heap.objs.size hSf (fresh_in hk) _ (show (0 : Nat) < 2 by decide) (fun c o q => Heap.get?_push_of_some _ (hk c o q)) st2 (Heap.get?_push_size _ rfl) fun v s' hP hm => ?_
  obtain ⟨h', tk, rfl, hk'⟩ := PySem.W.moved_old (s := { s with heap := h0 }) e rfl (Moved.drop_new (tk := s2.toks) hm (Nat.le_refl _))
  have ev : v = if PySem.W.dataLt y x = true then b else a := by
    have e1 : argBest (fun i j => PySem.W.dataLt ([x, y].getD i .none) ([x, y].getD j .none)) ((#[a, b] : Array Value).size - 1) = if PySem.W.dataLt y x = true then 1 else 0 := rfl
    rw [e1] at hP
    by_cases c : PySem.W.dataLt y x = true
    · rw [if_pos c] at hP ⊢
      have : b = v := by simpa using hP
      exact this.symm
    · rw [if_neg c] at hP ⊢
      have : a = v := by simpa using hP
      exact this.symm
  rw [ev]
  exact h h' tk fun c o q => hk' c o (k0 c o q)
/-- min of a list, by the item's place -/
theorem min_list_at {l : Addr} {vs : Array Value} {xs : List PyData} {as : List Addr} {d : Value} {Q : Value → Shared → Prop} (hh : A.handled = none) (hl : s.heap.IsList l vs) (hr : ReadsAll s.heap vs.toList xs as) (ha : PySem.W.AlikeAll xs) (hu : A.units + 1 + PyData.depthAll xs < cLine)
    (h0 : xs = [] → ∀ h' tk, (∀ b o, s.heap.get? b = some o → h'.get? b = some o) → Q d { s with heap := h', toks := tk })
    (h : ∀ (y : PyData) (ys : List PyData) (i : Nat) v h' tk, xs = y :: ys → vs[i]? = some v → xs[i]? = some (PySem.W.minD y ys) → (∀ b o, s.heap.get? b = some o → h'.get? b = some o) → Q v { s with heap := h', toks := tk }) :
    wpAny (model prog w) A (call (.builtin "min") [.ref l] [(Str.ofString "default", d)]) Q E s := by
  have hn := PySem.W.readsAll_len hr
  refine call_min_walkD (PySem.W.iter_listW (A := A.in1) hh hl fun s2 e W st hfp hw hk => ?_)
  refine ⟨_, _, _, _, _, _, _, s.heap, (fun i j => PySem.W.dataLt (xs.getD i .none) (xs.getD j .none)), rfl, W, st, hfp, hw, hk, fun hz s' m => ?_, fun hp => ⟨PySem.W.cmpIn_lt (A := A.in1) hr ha hu, fun v s' hP m => ?_⟩⟩
  · obtain ⟨h', tk, rfl, q⟩ := PySem.W.moved_old e rfl m
    refine h0 (List.eq_nil_of_length_eq_zero ?_) h' tk q
    omega
  · obtain ⟨h', tk, rfl, q⟩ := PySem.W.moved_old e rfl m
    cases xs with
    | nil => exact absurd hp (by rw [hn]; exact Nat.lt_irrefl 0)
    | cons y ys =>
      have e1 : vs.size - 1 = ys.length := by rw [hn]; rfl
      obtain ⟨e2, e3⟩ := PySem.W.argBest_fold PySem.W.dataLt PyData.none y ys ys.length (Nat.le_refl _)
      rw [List.take_length] at e3
      rw [e1] at hP
      refine h y ys _ v h' tk rfl hP ?_ q
      have hlt : argBest (fun i j => PySem.W.dataLt ((y :: ys).getD i .none) ((y :: ys).getD j .none)) ys.length < (y :: ys).length := by rw [List.length_cons]; omega
      rw [List.getElem?_eq_getElem hlt]
      rw [List.getD_eq_getElem?_getD, List.getElem?_eq_getElem hlt] at e3
      exact congrArg some e3
end
section
variable {X : Cx} {K : PySem.W.Frag}
/-- a list of ways -/
def WaysAt (H : Hp) (xs : List V) (ws : List Way) : Prop := Paired (fun (x : V) (w : Way) => ∃ l, x = V.ref l ∧ LstT H l (w.map PyData.int)) xs ws
theorem reads_ways {P : Program} {w : World} {H : Hp} {h : Heap} (ok : HOk P w H h) : ∀ {xs : List V} {ws : List Way} {us : List Value}, WaysAt H xs ws → Vals xs us → ∃ as, ReadsAll h us (ws.map intlD) as
  | _, _, _, .nil, .nil => ⟨_, .nil⟩
  | _, _, _, .cons ⟨l, e, t⟩ r, .cons r1 r2 => by
    subst e
    obtain ⟨as, ra⟩ := reads_tl ok (.inr ⟨l, _, rfl, rfl, t⟩) r1
    obtain ⟨bs, rb⟩ := reads_ways ok r r2
    exact ⟨as ++ bs, .cons ra rb⟩
theorem alike_ways (ws : List Way) : PySem.W.AlikeAll (ws.map intlD) := ⟨fun x hx y hy => by
  obtain ⟨a, _, rfl⟩ := List.mem_map.mp hx
  obtain ⟨b, _, rfl⟩ := List.mem_map.mp hy
  exact alike_way a b, fun x hx z => by
  obtain ⟨a, _, rfl⟩ := List.mem_map.mp hx
  cases z⟩
theorem dep_way (a : Way) : (intlD a).depth ≤ 1 := depth_list (depth_map (fun i => by simp [PyData.depth]) a)
theorem dep_ways (ws : List Way) : PyData.depthAll (ws.map intlD) ≤ 1 := depthAll_le (depth_map dep_way ws)
/-- min(ws, default=None) -/
def rMinW (K : PySem.W.Frag) : List V → List V → Hp → VK → Prop := fun vs zs H Q => ∃ (a : Addr) (xs : List V) (ws : List Way), vs = [.ref a] ∧ zs = [.non] ∧ SqL K H a xs ∧ WaysAt H xs ws ∧ (ws = [] → Q .non H) ∧
  ∀ (i : Nat) (l : Addr) (v : Way), xs[i]? = some (V.ref l) → ws[i]? = some v → minW ws = some v → Q (V.ref l) H
theorem cr_minW (hK : X.K = K) (hc : X.calm = true) (hu : X.A.units + 64 < cLine) : CallRK X (.builtin "min") ["default"] (rMinW K) := by
  subst hK
  intro pins s σ H vs zs us ws0 Q I r1 r2 h
  obtain ⟨a, xs, ws, rfl, rfl, hs, hw, q0, q⟩ := h
  obtain ⟨its, rv, hl, _⟩ := I.list hs
  rw [Vals.ref1 r1]
  obtain ⟨d, rfl, rd⟩ := r2.one
  obtain ⟨as, ra⟩ := reads_ways I.hok hw rv
  have hdp := dep_ways ws
  show wpAny _ _ (call (.builtin "min") [.ref a] [(Str.ofString "default", d)]) _ _ _
  refine min_list_at (I.ok.hd hc) hl.isList (by simpa using ra) (alike_ways ws) (by omega) (fun hz h' tk k => ?_) (fun y ys i v h' tk hz hv hm k => ?_)
  · exact ⟨.non, H, I.kept k, rd, q0 (by simpa using hz)⟩
  · cases ws with
    | nil => cases hz
    | cons w0 wr =>
      rw [List.map_cons] at hz
      cases hz
      rw [minD_way, List.getElem?_map] at hm
      obtain ⟨v2, hv2, e2⟩ := Option.map_eq_some_iff.mp hm
      have e3 := intlD_inj.mp e2
      have hv3 : its[i]? = some v := by simpa using hv
      have hxl : i < xs.length := by
        have h1 := (List.getElem?_eq_some_iff.mp hv2).1
        have h2 : xs.length = (w0 :: wr).length := Paired.length hw
        omega
      obtain ⟨w2, hw2, l, el, _⟩ := L2.paired_get hw (List.getElem?_eq_getElem hxl)
      obtain ⟨u2, hu2, ru⟩ := L2.paired_get rv (List.getElem?_eq_getElem hxl)
      rw [hv3] at hu2
      cases hu2
      rw [el] at ru
      refine ⟨.ref l, H, I.kept k, ru, q i l v2 (by rw [List.getElem?_eq_getElem hxl, el]) hv2 ?_⟩
      rw [e3]
      rfl
/-- min(a, b) -/
def rMin2W : List V → Hp → VK → Prop := fun vs H Q => ∃ (a b : Addr) (x y : Way), vs = [.ref a, .ref b] ∧ LstT H a (x.map PyData.int) ∧ LstT H b (y.map PyData.int) ∧ Q (.ref (if y < x then b else a)) H
theorem cr_min2W (hc : X.calm = true) (hu : X.A.units + 64 < cLine) : CallR X (.builtin "min") rMin2W := by
  intro pins s σ H vs us Q I r h
  obtain ⟨a, b, x, y, rfl, ha, hb, q⟩ := h
  cases r with
  | cons r1 r =>
    cases r with
    | cons r2 r =>
      cases r
      obtain ⟨as, ra⟩ := reads_tl I.hok (.inr ⟨a, _, rfl, rfl, ha⟩) r1
      obtain ⟨bs, rb⟩ := reads_tl I.hok (.inr ⟨b, _, rfl, rfl, hb⟩) r2
      have hdp := dep_ways [x, y]
      refine min_two_data (I.ok.hd hc) ra rb (alike_way x x) (alike_way x y) (alike_way y x) (alike_way y y) (fun z => by cases z) (fun z => by cases z) (by show _ + PyData.depthAll ([x, y].map intlD) < _; omega) fun h' tk k => ?_
      have e := dataLt_way y x
      refine ⟨.ref (if y < x then b else a), H, I.kept k, ?_, q⟩
      show _ = Value.ref _
      cases r1
      cases r2
      show (if PySem.W.dataLt (intlD y) (intlD x) = true then _ else _) = _
      rw [e]
      by_cases c : y < x
      · rw [if_pos (decide_eq_true c), if_pos c]
      · rw [if_neg (by simpa using c), if_neg c]
end

section
variable {P : Program} {w : World} {K : PySem.W.Frag} {mg : Str → Option Value} {base : Heap}
/-- a list of ways that are new -/
def WaysF (H0 H : Hp) (xs : List V) (ws : List Way) : Prop := Paired (fun (x : V) (v : Way) => ∃ l, x = V.ref l ∧ H0 l = none ∧ LstT H l (v.map PyData.int)) xs ws
theorem WaysF.lk {H0 H H' : Hp} {xs : List V} {ws : List Way} (k : Lk H H') (h : WaysF H0 H xs ws) : WaysF H0 H' xs ws := Paired.mapP h fun _ _ ⟨l, a, b, c⟩ => ⟨l, a, b, c.lk k⟩
theorem WaysF.at {H0 H : Hp} {xs : List V} {ws : List Way} (h : WaysF H0 H xs ws) : WaysAt H xs ws := Paired.mapP h fun _ _ ⟨l, a, b, c⟩ => ⟨l, a, c⟩
theorem ends_take {goal : Int} {W : Ways} {i : Nat} {p : State × Way} (h : W[i]? = some p) : endsF goal (W.take (i + 1)) = endsF goal (W.take i) ++ (if decide (p.1.1 = goal) = true then [p.2] else []) := filt_take h (fun p => decide (p.1.1 = goal)) (·.2)
theorem ends_len (goal : Int) (W : Ways) : (endsF goal W).length ≤ W.length := by
  unfold endsF
  rw [List.length_map]
  exact List.length_filter_le _ _
/-- the ends, from a dict that stands locked -/
theorem ends_lc {σ : L2.St} {H0 H : Hp} {d : Addr} {L : List Ent} {W : Ways} {od : Obj} {j0 j1 j : Nat} {goal : Int} {Q : VK} (hD : SD P w H d L) (hE : EntsW H0 H L W) (hnd : (keysW W).Nodup) (hz : W.length ≤ 2000) (hj : j < σ.length)
    (h0 : ∀ x, ((wipe σ [j]).set j (some x))[j0]? = some (some (.ref d))) (h00 : σ[j0]? = some (some (.ref d))) (h1 : ∀ x, ((wipe σ [j]).set j (some x))[j1]? = some (some (.int goal))) (hw : ∀ x, wipe ((wipe σ [j]).set j (some x)) [j] = wipe σ [j])
    (q : ∀ Dl xs H', H Dl = none → Ex (Mz.del H d) H' → H' d = some (.frz od (DN P w d L)) → H' Dl = some (.lst xs) → WaysF H0 H' xs (endsF goal W) → Q (.ref Dl) H') :
    tLc (iKeysN P w (tVar j0)) (gName j) (tTest (tOp rEq (tOp (rIxT K) (tVar j) (tC (.int 0))) (tVar j1))) (tOp (rGetN P w) (tVar j0) (tVar j)) [j] σ (upd H d (.frz od (DN P w d L))) Q := by
  refine lc_keysN h00 upd_same fun Dl hDl => ?_
  have hDd : Dl ≠ d := fun z => by
    subst z
    rw [upd_same] at hDl
    cases hDl
  have hDn : H Dl = none := by rw [L2.upd_ne hDd] at hDl; exact hDl
  obtain ⟨B, eB⟩ : ∃ B, Mz.del H d = B := ⟨_, rfl⟩
  have hBD : B Dl = none := by rw [← eB]; exact del_fresh hDn
  have hBd : B d = none := by rw [← eB]; exact del_none
  have hkB : KeysT B L := by rw [← eB]; exact hD.2.tk (tk_del hD.ext)
  have hEB : EntsW H0 B L W := by rw [← eB]; exact hE.lk (Lk.del hD.ext)
  have eBu : Ex B (upd H d (.frz od (DN P w d L))) := Ex.mut (by rw [← eB]; exact del_ex) hBd
  have hLn : (L.map (·.1)).Nodup := by rw [hE.keys]; exact hnd
  refine ⟨fun i H' => H' d = some (.frz od (DN P w d L)) ∧ Ex B H' ∧ ∃ xs, H' Dl = some (.lst xs) ∧ WaysF H0 B xs (endsF goal (W.take i)), ⟨by rw [L2.upd_ne (fun z => hDd z.symm)]; exact upd_same, Ex.mut eBu hBD, [], upd_same, .nil⟩, fun i H' h => h.1, fun i en H' hen hP => ?_, fun H' hP => ?_⟩
  · obtain ⟨hlk, eB', xs, hxs, hW⟩ := hP
    obtain ⟨⟨s, v⟩, hWi, hes, l, hval, hl0, hlT⟩ := hEB.get hen
    have hget := getN_at hLn hen
    obtain ⟨s2, kb, kv⟩ := en
    simp only at hes hval hget
    subst hes
    subst hval
    have hx : Td B (.ref kb) (stateD s2) := hkB _ (List.mem_of_getElem? hen)
    obtain ⟨u0, t0, ev0⟩ := td_item (K := K) (j := 0) hx rfl
    cases t0
    have hvar : ∀ {H3 : Hp}, Ev (tVar j) ((wipe σ [j]).set j (some (.ref kb))) H3 (.ref kb) := ev_var (List.getElem?_set_self (by rw [wipe_length]; exact hj))
    have hr : ∀ {H3 : Hp}, Ex H' H3 → SDr P w H3 d L := fun e => ⟨.inr ⟨od, e _ _ hlk⟩, hkB.tk (Tk.ex (eB'.trans e))⟩
    refine ⟨hw _, ?_⟩
    refine (et_test (b := decide (s2.1 = goal)) (ev_op (ev0 eB' hvar ev_c) (ev_var (h1 _)) rv_eqI) : EvT _ _ H' _) H' (Ex.refl H') _ fun H3 e3 => ?_
    have hWl : xs.length = (endsF goal (W.take i)).length := Paired.length hW
    have hil : i < W.length := (List.getElem?_eq_some_iff.mp hWi).1
    have hel := ends_len goal (W.take i)
    by_cases c : s2.1 = goal
    · rw [decide_eq_true c, if_pos rfl]
      refine ev_getR (ev_var (h0 _)) hvar (hx.ex (eB'.trans e3)) (hr e3) hget H3 (Ex.refl H3) _ fun H4 e4 => ⟨xs, e4 _ _ (e3 _ _ hxs), sz_lt ?_, ?_, Ex.mut ((eB'.trans e3).trans e4) hBD, _, upd_same, ?_⟩
      · rw [List.length_take] at hel
        omega
      · rw [L2.upd_ne (fun z => hDd z.symm)]
        exact e4 _ _ (e3 _ _ hlk)
      · rw [ends_take hWi, if_pos (decide_eq_true c)]
        exact Paired.snoc hW ⟨l, rfl, hl0, hlT⟩
    · rw [decide_eq_false c, if_neg (by simp)]
      refine ⟨e3 _ _ hlk, eB'.trans e3, xs, e3 _ _ hxs, ?_⟩
      rw [ends_take hWi, if_neg (by simpa using c), List.append_nil]
      exact hW
  · obtain ⟨hlk, eB', xs, hxs, hW⟩ := hP
    rw [hE.len, List.take_length] at hW
    exact q Dl xs H' hDn (by rw [eB]; exact eB') hlk hxs (hW.lk (Lk.ex eB'))
theorem ep_minW {σ : L2.St} {H : Hp} {ta : TE} {a : Addr} {xs : List V} {ws : List Way} (h : Ev ta σ H (.ref a)) (ha : H a = some (.lst xs)) (hw : WaysAt H xs ws) : EvP (tCKw (rMinW K) (tCons ta tNil) (tCons (tC .non) tNil)) σ H (fun v _ => (ws = [] ∧ v = .non) ∨ ∃ (i : Nat) (l : Addr) (x : Way), xs[i]? = some (V.ref l) ∧ ws[i]? = some x ∧ minW ws = some x ∧ v = V.ref l) := fun H1 e Q q => h H1 e _ fun H2 e2 =>
  ⟨a, xs, ws, rfl, rfl, SqL.of ((e.trans e2) _ _ ha), Paired.mapP hw fun _ _ ⟨l, e1, t⟩ => ⟨l, e1, t.ex (e.trans e2)⟩, fun z => q _ H2 e2 (.inl ⟨z, rfl⟩), fun i l v h1 h2 h3 => q _ H2 e2 (.inr ⟨i, l, v, h1, h2, h3, rfl⟩)⟩
def sp_least (P : Program) (w : World) (K : PySem.W.Frag) : Sp := fun vs H Q _ => ∃ (d : Addr) (goal : Int) (H0 : Hp) (L : List Ent) (W : Ways), vs = [.ref d, .int goal] ∧ SD P w H d L ∧ EntsW H0 H L W ∧ (keysW W).Nodup ∧ W.length ≤ 2000 ∧
  (bestF goal W = none → ∀ H2, Ex H H2 → Q .non H2) ∧ (∀ v l H2, bestF goal W = some v → Ex H H2 → H0 l = none → LstT H2 l (v.map PyData.int) → Q (.ref l) H2)
theorem ok_least (T : Txt K mg) : Kept P w K mg base 1 "least" ["ways", "goal"] (sp_least P w K) := by
  refine T.d_least.kept sc_least (fun vs H Q E h => ?_) (fun cdv A outer s H vs Q E hr h => ?_)
  · obtain ⟨d, goal, H0, L, W, rfl, _⟩ := h
    rfl
  · obtain ⟨d, goal, H0, L, W, rfl, hD, hE, hnd, hz, q0, q⟩ := h
    refine ⟨_, (pss_cons (ps_lock (ps_setLc (i := 2) (own := [("state", 3)]) (g := gName 3) rfl sc_least.nd rfl rfl (sw_true rfl rfl rfl (by decide +kernel)) (pi_keysN (P := P) (w := w) rfl rfl (pv 0)) (blkOk_by (own := [("state", 3)]) (N := ["ways", "goal", "walks", "state"]) (sc := defScope s_least) (by decide +kernel)) (fun _ _ _ _ _ => (pg_name (i := 3) sc_least.nd rfl (Or.inl rfl))) (fun _ _ _ _ _ => pts_one (pt_cmpR op_eq (pe_ix (ix_tup_K (K := K) rfl) (pv 3) pe_int (fun _ _ => rfl)) (pv 1) (nomark _))) (fun _ _ _ _ _ => (pe_dgetN (P := P) (w := w) rfl rfl hr.units (pv 0) (pv 3) (fun _ _ => rfl)))))
      (pss_one (ps_ret (pe_callBK (cr_minW (K := K) rfl rfl hr.units) (by rfl) T.n_min (by decide +kernel) (pa_cons (pv 2) pa_nil) (pk_cons pe_non pk_nil))))), ?_⟩
    refine q_lockAsg (P := P) (w := w) hD fun od => ends_lc (K := K) (σ := [some (.ref d), some (.int goal), none, none]) (j0 := 0) (j1 := 1) (j := 3) (goal := goal) hD hE hnd hz (by simp) (fun x => rfl) rfl (fun x => rfl) (fun x => rfl) fun Dl xs H' nDl eH' hlk hxs hW => ⟨hlk, ?_⟩
    have eH : Ex H (upd H' d (DN P w d L)) := ex_lock hD.1 eH'
    have hne : Dl ≠ d := ne_of hxs hlk (fun z => by cases z)
    have hxu : upd H' d (DN P w d L) Dl = some (.lst xs) := by rw [L2.upd_ne hne]; exact hxs
    have hWu := hW.lk (Lk.frz (o := DN P w d L) hlk)
    refine s_retP (ep_minW (ws := endsF goal W) (ev_var rfl) hxu hWu.at) fun v H1 e1 hv => ?_
    rcases hv with ⟨hv, rfl⟩ | ⟨i, l, x, h1, h2, h3, rfl⟩
    · exact q0 (by unfold bestF; rw [hv]; rfl) H1 (eH.trans e1)
    · obtain ⟨x2, hx2, l2, el, hl0, hlT⟩ := L2.paired_get hWu h1
      rw [h2] at hx2
      cases hx2
      cases el
      exact q x l H1 h3 (eH.trans e1) hl0 (hlT.ex e1)
end

section
variable {P : Program} {w : World} {K : PySem.W.Frag} {mg : Str → Option Value} {base : Heap}
/-- states of the maze, once each -/
def FV (n : Int) (F : Ways) : Prop := (keysW F).Nodup ∧ ∀ s ∈ keysW F, VS n s
theorem FV.len {n : Int} {F : Ways} (h : FV n F) (hn : n ≤ 60) : F.length ≤ 1920 := by
  have := vs_len h.1 h.2
  rw [List.length_map] at this
  omega
theorem FV.nil (n : Int) : FV n [] := ⟨by simp, fun s h => by simp at h⟩
theorem FV.add {n : Int} {S : List State} {v : Way} {F : Ways} {o : State} (h : FV n F) (ho : VS n o) : FV n (addW S v F o) := ⟨addW_nodup h.1, fun s hs => by
  rw [keys_addW] at hs
  split at hs
  · exact h.2 s hs
  · split at hs
    · exact h.2 s hs
    · rcases List.mem_append.mp hs with h1 | h1
      · exact h.2 s h1
      · simp at h1
        subst h1
        exact ho⟩
/-- a way put, as the program and the law put it -/
theorem ents_same {H0 H : Hp} {L : List Ent} {F : Ways} {S : List State} {v : Way} {o : State} (h : EntsW H0 H L F) (c : o ∈ S) : EntsW H0 H L (addW S v F o) := by
  unfold addW
  rw [if_pos c]
  exact h
def sp_onward (P : Program) (w : World) (K : PySem.W.Frag) : Sp := fun vs H Q _ => ∃ (v : V) (d e : Addr) (H0 : Hp) (n : Int) (ds : List Door) (ks : List Key2) (L : List Ent) (W : Ways) (S : List State), vs = [v, .ref d, .ref e] ∧ Dp K H v (mazeF n ds ks) ∧ DoorsOk n ds ∧ n ≤ 60 ∧ SD P w H d L ∧ EntsW H0 H L W ∧ SeenK P w H e S ∧ e ≠ d ∧ Ex H0 H ∧ H0 d = none ∧ H0 e = none ∧
  FV n W ∧ S.Nodup ∧ (∀ s ∈ S, VS n s) ∧ (∀ p ∈ W, p.2.length ≤ 2000) ∧
  ∀ p L2 H2, H p = none → Ex (del H e) H2 → SD P w H2 p L2 → EntsW H0 H2 L2 (onwardF ds ks W S) → SeenK P w H2 e (S ++ keysW (onwardF ds ks W S)) → Q (.ref p) H2
theorem onward_fv {n : Int} {ds : List Door} {ks : List Key2} (hw : ∀ d ∈ ds, WfD n d) (W : Ways) (S : List State) : FV n (onwardF ds ks W S) := ⟨onward_nodup ds ks W S, fun s h => by
  obtain ⟨_, p, _, h2⟩ := onward_keys.mp h
  exact vs_steps hw s h2⟩
theorem ok_onward (T : Txt K mg) : Kept P w K mg base 4 "onward" ["maze", "ways", "seen"] (sp_onward P w K) := by
  refine T.d_onward.kept sc_onward (fun vs H Q E h => ?_) (fun cdv A outer s H vs Q E hr h => ?_)
  · obtain ⟨v, d, e, H0, n, ds, ks, L, W, S, rfl, _⟩ := h
    rfl
  · obtain ⟨v, d, e, H0, n, ds, ks, L, W, S, rfl, hm, hok, hn60, hD, hE, hSe, hed, e0, nd0, ne0, hFW, hSn, hvS, hwl, q⟩ := h
    refine ⟨_, (pss_cons (ps_set (i := 3) sc_onward.nd rfl (Or.inl rfl) (pe_dnewN (P := P) (w := w) rfl rfl))
      (pss_cons (ps_lock (ps_for (passes_of rfl) rfl (pi_keysN (P := P) (w := w) rfl rfl (pv 1)) (pg_name (i := 4) sc_onward.nd rfl (Or.inl rfl))
        (pss_one (ps_for (passes_of rfl) rfl (pi_list_K (K := K) rfl (pe_fn (ok_steps (K := K) T) (hr.mono (by decide)) (passR (takes_of rfl rfl rfl rfl)) (by rfl) (pa_cons (pv 0) (pa_cons (pe_ix (ix_tup_K (K := K) rfl) (pv 4) pe_int (fun _ _ => rfl)) (pa_cons (pe_ix (ix_tup_K (K := K) rfl) (pv 4) pe_int (fun _ _ => rfl)) pa_nil))))) (pg_name (i := 5) sc_onward.nd rfl (Or.inl rfl))
        (pss_one (ps_if (pt_cmpR (op_notInN (P := P) (w := w) rfl rfl hr.units) (pv 5) (pv 2) (by rfl))
        (pss_cons (ps_set (i := 6) sc_onward.nd rfl (Or.inl rfl) (pe_op op_cat (pe_dgetN (P := P) (w := w) rfl rfl hr.units (pv 1) (pv 4) (fun _ _ => rfl)) (pe_lst (pa_cons (pe_ix (ix_tup_K (K := K) rfl) (pv 5) pe_int (fun _ _ => rfl)) pa_nil))))
      (pss_one (ps_if (PW.pt (pw_or (pt_cmpR (op_notInN (P := P) (w := w) rfl rfl hr.units) (pv 5) (pv 3) (by rfl)) (pw_or1 (pt_cmpR (op_ltD hr.units) (pv 6) (pe_dgetN (P := P) (w := w) rfl rfl hr.units (pv 3) (pv 5) (fun _ _ => rfl)) (nomark _)))))
        (pss_one (ps_asg (pv 6) (pg_sub (pv 3) (pv 5) (set_dN (P := P) (w := w) rfl rfl hr.units))))
        pss_nil)))
        pss_nil))))))
      (pss_cons (ps_lock (ps_for (passes_of rfl) rfl (pi_keysN (P := P) (w := w) rfl rfl (pv 3)) (pg_name (i := 4) sc_onward.nd rfl (Or.inl rfl))
        (pss_one (ps_asg pe_bl (pg_sub (pv 2) (pv 4) (set_dN (P := P) (w := w) rfl rfl hr.units))))))
      (pss_one (ps_ret (pv 3)))))), ?_⟩
    refine (show tSeq (tAsg (tDNewN P w) (gName 3)) _ _ _ _ from fun f nf => ?_)
    have e1 : Ex H (upd H f (DN P w f [])) := Ex.new nf
    have hF1 : SD P w (upd H f (DN P w f [])) f [] := ⟨upd_same, fun p hp => absurd hp (by simp)⟩
    have hfd : f ≠ d := fun z => by
      subst z
      have := hD.1
      rw [nf] at this
      cases this
    have hfe : f ≠ e := fun z => by
      subst z
      obtain ⟨φ, h⟩ := hSe.del_ext
      rw [nf] at h
      cases h
    obtain ⟨B, eB⟩ : ∃ B, del H d = B := ⟨_, rfl⟩
    have hBd : B d = none := by rw [← eB]; exact del_none
    have hBf : B f = none := by rw [← eB]; exact del_fresh nf
    have hmB : Dp K B v (mazeF n ds ks) := by rw [← eB]; exact dp_del hD.ext hm
    have hEB : EntsW H0 B L W := by rw [← eB]; exact hE.lk (Lk.del hD.ext)
    have hkB : KeysT B L := by rw [← eB]; exact hD.2.tk (tk_del hD.ext)
    have hSB : SeenK P w B e S := by rw [← eB]; exact hSe.delO hD.ext hed
    have e0B : Ex H0 B := by rw [← eB]; exact ex_del e0 nd0
    have eB1 : Ex B (upd H f (DN P w f [])) := by rw [← eB]; exact del_ex.trans e1
    have hLn : (L.map (·.1)).Nodup := by rw [hE.keys]; exact hFW.1
    refine q_forN (P := P) (w := w) (j := 1) (g := gName 4) (d := d) (L := L) rfl (hD.ex e1) fun od => ⟨fun i σ' H' => H' d = some (.frz od (DN P w d L)) ∧ Ex B H' ∧ ∃ y4 y5 y6 LF, σ' = [some v, some (.ref d), some (.ref e), some (.ref f), y4, y5, y6] ∧ SD P w H' f LF ∧ EntsW H0 H' LF ((W.take i).foldl (stepW ds ks S) []) ∧ FV n ((W.take i).foldl (stepW ds ks S) []), ⟨upd_same, Ex.mut eB1 hBd, none, none, none, [], rfl, hF1.updO (hD.ex e1).ext hfd, (show EntsW _ _ [] [] from Paired.nil), (show FV n [] from FV.nil n)⟩, fun i σ' H' h => h.1, fun i en σ' H' hen hP => ?_, fun σ' H' hP => ?_⟩
    · obtain ⟨hlk, eB', y4, y5, y6, LF, rfl, hF, hEF, hFV⟩ := hP
      obtain ⟨⟨s2, wv⟩, hWi, hes, l, hval, hl0, hlT⟩ := hEB.get hen
      have hgs := getN_at hLn hen
      obtain ⟨⟨room, held⟩, kb, kv⟩ := en
      simp only at hes hval hgs
      subst hes
      subst hval
      have hx : Td B (.ref kb) (stateD (room, held)) := hkB _ (List.mem_of_getElem? hen)
      obtain ⟨u0, t0, ev0⟩ := td_item (K := K) (j := 0) hx rfl
      obtain ⟨u1, t1, ev1⟩ := td_item (K := K) (j := 1) hx rfl
      cases t0
      have hvs : VS n (room, held) := hFW.2 _ (List.mem_map.mpr ⟨_, List.mem_of_getElem? hWi, rfl⟩)
      have hwvl : wv.length ≤ 2000 := hwl _ (List.mem_of_getElem? hWi)
      obtain ⟨F0, eF0⟩ : ∃ F0, (W.take i).foldl (stepW ds ks S) [] = F0 := ⟨_, rfl⟩
      have hnx : ∀ o ∈ nextS ds ks (room, held), VS n o := vs_steps hok.1
      have hfold := fold_take (stepW ds ks S) [] hWi
      rw [eF0] at hEF hFV hfold
      show tFor _ _ _ _ _ _
      refine s_forEL (K := K) (g := gName 5) (lt_stepsC (ea_cons (ev_var rfl) (ea_cons (ev0 eB' (ev_var rfl) ev_c) (ea_cons (ev1 eB' (ev_var rfl) ev_c) ea_nil))) (dp_ex eB' hmB) (t1.ex eB').dp hok hvs.1) fun pp xs H2 npp e2 hpp hpd => ⟨fun j σ' H'' => H'' d = some (.frz od (DN P w d L)) ∧ Ex B H'' ∧ H'' pp = some (.lst xs) ∧ Tk H2 H'' ∧ ∃ y5 y6 LF, σ' = [some v, some (.ref d), some (.ref e), some (.ref f), some (.ref kb), y5, y6] ∧ SD P w H'' f LF ∧ EntsW H0 H'' LF (((nextS ds ks (room, held)).take j).foldl (addW S wv) F0) ∧ FV n (((nextS ds ks (room, held)).take j).foldl (addW S wv) F0), ⟨e2 _ _ hlk, eB'.trans e2, hpp, Tk.refl _, y5, y6, LF, rfl, hF.ex e2, hEF.lk (Lk.ex e2), hFV⟩, fun j σ' H'' hP => ⟨hP.2.2.1, hP.2.2.2.1⟩, fun j dt x' σ' H'' hdj hx' hP => ?_, fun σ' H'' hP => ?_⟩
      · obtain ⟨hlk2, eB2, hpp2, tk2, y5, y6, LF, rfl, hF, hEF, hFV⟩ := hP
        rw [List.getElem?_map] at hdj
        obtain ⟨o, ho1, rfl⟩ := Option.map_eq_some_iff.mp hdj
        have hon : o ∈ nextS ds ks (room, held) := List.mem_of_getElem? ho1
        obtain ⟨ob, rfl⟩ : ∃ b, x' = .ref b := by
          have hx2 := hx'
          unfold stateD at hx2
          cases hx2
          exact ⟨_, rfl⟩
        obtain ⟨F, eF⟩ : ∃ F, ((nextS ds ks (room, held)).take j).foldl (addW S wv) F0 = F := ⟨_, rfl⟩
        have hfold2 := fold_take (addW S wv) F0 ho1
        rw [eF] at hEF hFV hfold2
        have hFl := hFV.len hn60
        have hLFl := hEF.len
        have hFV2 := hFV.add (S := S) (v := wv) (hnx o hon)
        have hr2 : ∀ {H3 : Hp}, Ex H'' H3 → SDr P w H3 d L := fun e => ⟨.inr ⟨od, e _ _ hlk2⟩, hkB.tk (Tk.ex (eB2.trans e))⟩
        show tIfS _ _ _ _ _ _
        refine s_when (b := !decide (o ∈ S)) (et_test (ev_niS (ev_var rfl) (ev_var rfl) hx' (hSB.ex eB2))) (fun hb H3 e3 => ?_) (fun hb H3 e3 => ⟨e3 _ _ hlk2, eB2.trans e3, e3 _ _ hpp2, tk2.trans (Tk.ex e3), _, _, LF, rfl, hF.ex e3, by rw [hfold2]; exact ents_same (hEF.lk (Lk.ex e3)) (by simpa using hb), by rw [hfold2]; exact hFV2⟩)
        · rw [← hfold2] at hFV2
          have hno : o ∉ S := by simpa using hb
          have hxo := hx'.ex e3
          obtain ⟨u2, t2, ev2⟩ := td_item (K := K) (j := 0) hxo rfl
          cases t2
          have eB3 := eB2.trans e3
          refine q_asgLT (ds := (wv ++ [o.1]).map PyData.int) (by rw [List.map_append]; exact lt_cat (ev_getR (ev_var rfl) (ev_var rfl) (hx.ex eB3) (hr2 e3) hgs) (hlT.ex eB3) (lt_lst (ea_tc (td_int (ev2 (Ex.refl _) (ev_var rfl) ev_c)) ea_tn) (by simp)) (by simp; omega)) fun ll H4 nll e4 hll => ?_
          have eB4 := eB3.trans e4
          have e34 := e3.trans e4
          have nll0 : H0 ll = none := fresh_back (e0B.trans eB3) nll
          have fin : ∀ (H5 : Hp), Ex H4 H5 → H5 f = some (DN P w f LF) → SD P w (upd H5 f (DN P w f (putN LF o ob (.ref ll)))) f (putN LF o ob (.ref ll)) → addW S wv F o = putW F o (wv ++ [o.1]) →
              upd H5 f (DN P w f (putN LF o ob (.ref ll))) d = some (.frz od (DN P w d L)) ∧ Ex B (upd H5 f (DN P w f (putN LF o ob (.ref ll)))) ∧ upd H5 f (DN P w f (putN LF o ob (.ref ll))) pp = some (.lst xs) ∧ Tk H2 (upd H5 f (DN P w f (putN LF o ob (.ref ll)))) ∧ ∃ y5 y6 LF', [some v, some (V.ref d), some (V.ref e), some (V.ref f), some (V.ref kb), some (V.ref ob), some (V.ref ll)] = [some v, some (V.ref d), some (V.ref e), some (V.ref f), some (V.ref kb), y5, y6] ∧ SD P w (upd H5 f (DN P w f (putN LF o ob (.ref ll)))) f LF' ∧ EntsW H0 (upd H5 f (DN P w f (putN LF o ob (.ref ll)))) LF' (((nextS ds ks (room, held)).take (j + 1)).foldl (addW S wv) F0) ∧ FV n (((nextS ds ks (room, held)).take (j + 1)).foldl (addW S wv) F0) := fun H5 e5 h5 hF5 ha => by
            have e35 := e34.trans e5
            have hpp5 := e35 _ _ hpp2
            have hxt : H5 f = some (.ext fun h => RawN P w h f LF) := h5
            refine ⟨by rw [L2.upd_ne (fun z => hfd z.symm)]; exact e35 _ _ hlk2, Ex.mut (eB4.trans e5) hBf, by rw [L2.upd_ne (ne_of hpp5 h5 (fun z => by cases z))]; exact hpp5, (tk2.trans (Tk.ex e35)).trans (Tk.ext hxt), _, _, _, rfl, hF5, ?_, hFV2⟩
            rw [hfold2, ha]
            exact ((hEF.lk (Lk.ex e35)).put nll0 (hll.ex e5)).lk (Lk.ext hxt)
          have hF4 := hF.ex e34
          cases hg : getW F o with
          | none =>
            have ha : addW S wv F o = putW F o (wv ++ [o.1]) := by unfold addW; rw [if_neg hno, hg]
            have hhas : hasN LF o = false := by rw [hasN_get, hEF.noW hg]; rfl
            refine s_when (b := true) (et_or (b := true) (et_test (ev_is (ev_niN (ev_var rfl) (ev_var rfl) (hxo.ex e4) hF4) (by rw [hhas, Bool.not_false]))) (fun z => Bool.noConfusion z)) (fun _ H5 e5 => ?_) (fun z => Bool.noConfusion z)
            exact s_setN (hF4.ex e5) (v := .ref ll) (ev_var rfl) (ev_var rfl) (ev_var rfl) ((hxo.ex e4).ex e5) (by omega) fun H6 e6 h6 hF6 => fin H6 (e5.trans e6) h6 hF6 ha
          | some v0 =>
            obtain ⟨l0, hg0, hl00, hl0T⟩ := hEF.gotW hg
            have hhas : hasN LF o = true := by rw [hasN_get, hg0]; rfl
            refine s_when (b := (!hasN LF o) || decide (wv ++ [o.1] < v0)) (et_or (et_test (ev_niN (ev_var rfl) (ev_var rfl) (hxo.ex e4) hF4)) (fun _ => et_test (ev_is (ev_ltD (d := intlD (wv ++ [o.1])) (e := intlD v0) (ep_ev (ev_var rfl) fun H5 e5 => .inr ⟨ll, _, rfl, rfl, hll.ex e5⟩) (ep_ev (ev_getN (ev_var rfl) (ev_var rfl) (hxo.ex e4) hF4 hg0) fun H5 e5 => .inr ⟨l0, _, rfl, rfl, hl0T.ex (e34.trans e5)⟩) (alike_way _ _) (fun z => by cases z) (by have := dep_way (wv ++ [o.1]); omega)) (by rw [dataLt_way])))) (fun hb2 H5 e5 => ?_) (fun hb2 H5 e5 => ?_)
            · have hlt : wv ++ [o.1] < v0 := by
                rw [hhas] at hb2
                simpa using hb2
              have ha : addW S wv F o = putW F o (wv ++ [o.1]) := by unfold addW; rw [if_neg hno, hg]; simp only [if_pos hlt]
              exact s_setN (hF4.ex e5) (v := .ref ll) (ev_var rfl) (ev_var rfl) (ev_var rfl) ((hxo.ex e4).ex e5) (by omega) fun H6 e6 h6 hF6 => fin H6 (e5.trans e6) h6 hF6 ha
            · have hlt : ¬ wv ++ [o.1] < v0 := by
                rw [hhas] at hb2
                simpa using hb2
              have ha : addW S wv F o = F := by unfold addW; rw [if_neg hno, hg]; simp only [if_neg hlt]
              have e35 := e34.trans e5
              exact ⟨e35 _ _ hlk2, eB4.trans e5, e35 _ _ hpp2, tk2.trans (Tk.ex e35), _, _, LF, rfl, hF.ex e35, by rw [hfold2, ha]; exact hEF.lk (Lk.ex e35), hFV2⟩
      · obtain ⟨hlk2, eB2, hpp2, tk2, y5, y6, LF, rfl, hF, hEF, hFV⟩ := hP
        rw [List.length_map, List.take_length] at hEF hFV
        exact ⟨hlk2, eB2, _, _, _, LF, rfl, hF, by rw [hfold]; exact hEF, by rw [hfold]; exact hFV⟩
    · obtain ⟨hlk, eB', y4, y5, y6, LF, rfl, hF, hEF, hFV⟩ := hP
      rw [hE.len, List.take_length] at hEF hFV
      obtain ⟨F, eF⟩ : ∃ F, onwardF ds ks W S = F := ⟨_, rfl⟩
      have eF2 : W.foldl (stepW ds ks S) [] = F := eF
      rw [eF2] at hEF hFV
      rw [eF] at q
      obtain ⟨Hx, eHx⟩ : ∃ Hx, upd H' d (DN P w d L) = Hx := ⟨_, rfl⟩
      have eHHx : Ex H Hx := by rw [← eHx]; exact ex_lock hD.1 (by rw [eB]; exact eB')
      have hFx : SD P w Hx f LF := by rw [← eHx]; exact hF.updF hlk hfd
      have hEx : EntsW H0 Hx LF F := by rw [← eHx]; exact hEF.lk (Lk.frz hlk)
      have hSx : SeenK P w Hx e S := hSe.ex eHHx
      rw [eHx]
      have hef : e ≠ f := fun z => hfe z.symm
      obtain ⟨B2, eB2⟩ : ∃ B2, del (del Hx f) e = B2 := ⟨_, rfl⟩
      have hB2e : B2 e = none := by rw [← eB2]; exact del_none
      have hB2f : B2 f = none := by rw [← eB2, del_ne hfe]; exact del_none
      obtain ⟨φe, hφe⟩ := (hSx.delO (d := f) hFx.ext hef).del_ext
      have hkB2 : KeysT B2 LF := by rw [← eB2]; exact (hFx.2.tk (tk_del hFx.ext)).tk (tk_del hφe)
      have hEB2 : EntsW H0 B2 LF F := by rw [← eB2]; exact (hEx.lk (Lk.del hFx.ext)).lk (Lk.del hφe)
      have eB2x : Ex B2 Hx := by rw [← eB2]; exact del_ex.trans del_ex
      have hkeys := hEx.keys
      refine q_forN (P := P) (w := w) (j := 3) (g := gName 4) (d := f) (L := LF) rfl hFx fun od2 => ⟨fun i σ' H'' => H'' f = some (.frz od2 (DN P w f LF)) ∧ Ex B2 H'' ∧ ∃ y4 y5 y6, σ' = [some v, some (.ref d), some (.ref e), some (.ref f), y4, y5, y6] ∧ SeenK P w H'' e (S ++ (keysW F).take i), ⟨upd_same, Ex.mut eB2x hB2f, _, _, _, rfl, by simpa using hSx.updX hFx.ext hef⟩, fun i σ' H'' h => h.1, fun i en σ' H'' hen hP => ?_, fun σ' H'' hP => ?_⟩
      · obtain ⟨hlk2, eB3, y4, y5, y6, rfl, hS3⟩ := hP
        have hki : (keysW F)[i]? = some en.1 := by rw [← hkeys, List.getElem?_map, hen]; rfl
        have hx : Td B2 (.ref en.2.1) (stateD en.1) := hkB2 _ (List.mem_of_getElem? hen)
        have hkm : en.1 ∈ keysW F := List.mem_of_getElem? hki
        have hnS : en.1 ∉ S := by
          rw [← eF] at hkm
          exact (onward_keys.mp hkm).1
        have hil : i < (keysW F).length := (List.getElem?_eq_some_iff.mp hki).1
        have hnt : en.1 ∉ (keysW F).take i := fun z => by
          have hn := hFV.1
          have e5 : keysW F = (keysW F).take i ++ en.1 :: (keysW F).drop (i + 1) := by
            have := (List.getElem?_eq_some_iff.mp hki).2
            rw [← this, ← List.drop_eq_getElem_cons hil, List.take_append_drop]
          rw [e5, List.nodup_append] at hn
          exact hn.2.2 _ z _ (by simp) rfl
        have hnew : en.1 ∉ S ++ (keysW F).take i := fun z => (List.mem_append.mp z).elim hnS hnt
        have hlen := hFV.len hn60
        have hSl := vs_len hSn hvS
        have htl : ((keysW F).take i).length ≤ 1920 := by rw [List.length_take, List.length_map]; omega
        show tAsg _ _ _ _ _
        refine s_setS hS3 (v := .bl true) ev_c (ev_var rfl) (ev_var rfl) (hx.ex eB3) (by rw [List.length_append]; omega) fun H3 φ o e3 h3 hS4 => ⟨by rw [L2.upd_ne hfe]; exact e3 _ _ hlk2, Ex.mut (eB3.trans e3) hB2e, _, _, _, rfl, ?_⟩
        rw [if_neg hnew] at hS4
        have : (keysW F).take (i + 1) = (keysW F).take i ++ [en.1] := by rw [List.take_succ, hki]; rfl
        rw [this, ← List.append_assoc]
        exact hS4
      · obtain ⟨hlk2, eB3, y4, y5, y6, rfl, hS3⟩ := hP
        have hl : LF.length = (keysW F).length := by rw [← hkeys, List.length_map]
        rw [hl, List.take_length] at hS3
        have hHe : Ex (del H e) (upd H'' f (DN P w f LF)) := fun b o hb => by
          have hbe : b ≠ e := fun z => by
            subst z
            rw [del_none] at hb
            cases hb
          rw [del_ne hbe] at hb
          have hbf : b ≠ f := fun z => by
            subst z
            rw [nf] at hb
            cases hb
          rw [L2.upd_ne hbf]
          refine eB3 b o ?_
          rw [← eB2, del_ne hbe, del_ne hbf]
          exact eHHx _ _ hb
        have eB2u : Ex B2 (upd H'' f (DN P w f LF)) := Ex.mut eB3 hB2f
        refine s_ret (ev_var rfl) fun H3 e3 => q f LF H3 nf (hHe.trans e3) ⟨e3 _ _ upd_same, hkB2.tk (Tk.ex (eB2u.trans e3))⟩ (hEB2.lk (Lk.ex (eB2u.trans e3))) ((hS3.updF hlk2 hef).ex e3)
end

/-! ### rooms that one may come to, in plain -/
def optV : Option Int → V
  | none => .non
  | some i => .int i
def moreD (rooms held : List Int) (d : Door) : Option Int :=
  if opensF d held = true then (if d.1 ∈ rooms ∧ d.2.1 ∉ rooms then some d.2.1 else if d.2.1 ∈ rooms ∧ d.1 ∉ rooms then some d.1 else none) else none
def moreF (ds : List Door) (rooms held : List Int) : Option Int := ds.findSome? (moreD rooms held)
/-- the kinds that lie in the rooms -/
def heldOf (ks : List Key2) (rooms : List Int) : List Int := kindsOf fun i => decide (∃ r ∈ rooms, (r, (i : Int)) ∈ ks)
theorem heldOf_nil (ks : List Key2) : heldOf ks [] = [] := by
  have : heldOf ks [] = kindsOf fun _ => false := kindsOf_congr fun i _ => by simp
  rw [this]
  rfl
theorem taken_heldOf (ks : List Key2) (rooms : List Int) (r : Int) : takenF ks r (heldOf ks rooms) = heldOf ks (rooms ++ [r]) := by
  unfold takenF
  refine kindsOf_congr fun i hi => ?_
  have h : ((i : Int) ∈ heldOf ks rooms) ↔ ∃ r ∈ rooms, (r, (i : Int)) ∈ ks := by
    unfold heldOf
    rw [mem_kinds hi]
    simp
  rw [Bool.eq_iff_iff]
  simp only [Bool.or_eq_true, decide_eq_true_eq, h, List.mem_append, List.mem_singleton]
  constructor
  · rintro (⟨r2, h1, h2⟩ | h1)
    · exact ⟨r2, .inl h1, h2⟩
    · exact ⟨r, .inr rfl, h1⟩
  · rintro ⟨r2, h1 | h1, h2⟩
    · exact .inl ⟨r2, h1, h2⟩
    · subst h1
      exact .inr h2
def lieF (ks : List Key2) (rooms : List Int) : Option Int → Bool
  | none => true
  | some k => decide (∃ r ∈ rooms, (r, k) ∈ ks)
theorem opens_heldOf {n : Int} {ks : List Key2} {rooms : List Int} {d : Door} (h : WfD n d) : opensF d (heldOf ks rooms) = lieF ks rooms d.2.2 := by
  obtain ⟨d1, d2, l⟩ := d
  cases l with
  | none => rfl
  | some k =>
    have hk := h.2.2
    simp [lockOk] at hk
    have hk2 : k.toNat < 5 := by omega
    have e : ((k.toNat : Nat) : Int) = k := by omega
    have h2 : (k ∈ heldOf ks rooms) ↔ ∃ r ∈ rooms, (r, k) ∈ ks := by
      have := mem_kinds (p := fun i => decide (∃ r ∈ rooms, (r, (i : Int)) ∈ ks)) hk2
      rw [e] at this
      unfold heldOf
      rw [this]
      simp [e]
    simp only [opensF, lieF, h2]
def dueD (ks : List Key2) (rooms : List Int) (d : Door) : Option Int :=
  if (!decide (decide (d.1 ∈ rooms) = decide (d.2.1 ∈ rooms))) = true then (if lieF ks rooms d.2.2 = true then some (d.1 + d.2.1 - (if d.1 ∈ rooms then d.1 else d.2.1)) else none) else none
def dueF (ds : List Door) (ks : List Key2) (rooms : List Int) : Option Int := ds.findSome? (dueD ks rooms)
theorem more_due {n : Int} {ks : List Key2} {rooms : List Int} {d : Door} (h : WfD n d) : moreD rooms (heldOf ks rooms) d = dueD ks rooms d := by
  unfold moreD dueD
  rw [opens_heldOf h]
  by_cases c1 : d.1 ∈ rooms <;> by_cases c2 : d.2.1 ∈ rooms <;> simp [c1, c2]
  all_goals (congr 1; try (congr 1; omega))
theorem findSome_congr {α β : Type} {f g : α → Option β} : ∀ {l : List α}, (∀ a ∈ l, f a = g a) → l.findSome? f = l.findSome? g
  | [], _ => rfl
  | a :: r, h => by
    rw [List.findSome?_cons, List.findSome?_cons, h a (by simp), findSome_congr fun b hb => h b (by simp [hb])]
theorem moreF_due {n : Int} {ds : List Door} {ks : List Key2} {rooms : List Int} (h : ∀ d ∈ ds, WfD n d) : moreF ds rooms (heldOf ks rooms) = dueF ds ks rooms := findSome_congr fun d hd => more_due (h d hd)
/-- a room more: it is there, and new -/
theorem moreF_some {n : Int} {ds : List Door} {rooms held : List Int} {r : Int} (h : ∀ d ∈ ds, WfD n d) (e : moreF ds rooms held = some r) : Here n r ∧ r ∉ rooms := by
  obtain ⟨d, hd, he⟩ := List.exists_of_findSome?_eq_some e
  have hw := h d hd
  unfold moreD at he
  split at he
  · split at he
    · rename_i c
      cases he
      exact ⟨hw.2.1, c.2⟩
    · split at he
      · rename_i c
        cases he
        exact ⟨hw.1, c.2⟩
      · cases he
  · cases he
/-- the rooms come to -/
structure ComeI (n : Int) (ds : List Door) (ks : List Key2) (start : Int) (R : List Int) : Prop where
  nd : R.Nodup
  hr : ∀ x ∈ R, Here n x
  fst : R[0]? = some start
  stp : ∀ k, 0 < k → k < R.length → dueF ds ks (R.take k) = R[k]?
def ComeOk (n : Int) (ds : List Door) (ks : List Key2) (start : Int) (R : List Int) : Prop := ComeI n ds ks start R ∧ dueF ds ks R = none
theorem ComeI.one {n : Int} {ds : List Door} {ks : List Key2} {start : Int} (h : Here n start) : ComeI n ds ks start [start] := ⟨by simp, fun x hx => by simp at hx; subst hx; exact h, rfl, fun k h1 h2 => by simp at h2; omega⟩
theorem ComeI.push {n : Int} {ds : List Door} {ks : List Key2} {start r : Int} {R : List Int} (h : ComeI n ds ks start R) (hw : ∀ d ∈ ds, WfD n d) (e : dueF ds ks R = some r) : ComeI n ds ks start (R ++ [r]) := by
  have e2 := e
  rw [← moreF_due (n := n) hw] at e2
  obtain ⟨hr, hn⟩ := moreF_some hw e2
  refine ⟨?_, ?_, ?_, ?_⟩
  · rw [List.nodup_append]
    refine ⟨h.nd, by simp, fun x hx y hy z => ?_⟩
    simp at hy
    subst hy
    subst z
    exact hn hx
  · intro x hx
    rcases List.mem_append.mp hx with h1 | h1
    · exact h.hr x h1
    · simp at h1
      subst h1
      exact hr
  · rw [List.getElem?_append_left (by have := List.getElem?_eq_some_iff.mp h.fst; exact this.1)]
    exact h.fst
  · intro k h1 h2
    rw [List.length_append, List.length_singleton] at h2
    by_cases c : k < R.length
    · rw [List.take_append_of_le_length (by omega), List.getElem?_append_left c]
      exact h.stp k h1 c
    · have : k = R.length := by omega
      subst this
      rw [List.take_left' rfl]
      simp [e]
theorem ComeI.len {n : Int} {ds : List Door} {ks : List Key2} {start : Int} {R : List Int} (h : ComeI n ds ks start R) : R.length ≤ n.toNat ∧ 0 < R.length := ⟨here_len h.nd h.hr, (List.getElem?_eq_some_iff.mp h.fst).1⟩
theorem come_take {n : Int} {ds : List Door} {ks : List Key2} {start : Int} {R S : List Int} (h : ComeI n ds ks start R) (q : ComeI n ds ks start S) : ∀ k, k ≤ R.length → k ≤ S.length → R.take k = S.take k
  | 0, _, _ => by simp
  | k + 1, h1, h2 => by
    have ih := come_take h q k (by omega) (by omega)
    rw [List.take_succ, List.take_succ, ih]
    congr 2
    cases k with
    | zero => rw [h.fst, q.fst]
    | succ k => rw [← h.stp (k + 1) (by omega) (by omega), ← q.stp (k + 1) (by omega) (by omega), ih]
theorem come_uniq {n : Int} {ds : List Door} {ks : List Key2} {start : Int} {R S : List Int} (h : ComeOk n ds ks start R) (q : ComeOk n ds ks start S) : R = S := by
  have key : ∀ {R S : List Int}, ComeOk n ds ks start R → ComeOk n ds ks start S → ¬ R.length < S.length := by
    intro R S h q hl
    have e := come_take h.1 q.1 R.length (by omega) (by omega)
    rw [List.take_length] at e
    have e2 := q.1.stp R.length h.1.len.2 hl
    rw [← e, h.2, List.getElem?_eq_getElem hl] at e2
    cases e2
  have h1 := key h q
  have h2 := key q h
  have e := come_take h.1 q.1 R.length (by omega) (by omega)
  rw [List.take_length] at e
  rw [e, show R.length = S.length by omega, List.take_length]

section
variable {P : Program} {w : World} {K : PySem.W.Frag} {mg : Str → Option Value} {base : Heap}
/-! ### a room more -/
def sp_room_more (K : PySem.W.Frag) : Sp := fun vs H Q _ => ∃ (v rv hv : V) (n : Int) (ds : List Door) (ks : List Key2) (rooms held : List Int), vs = [v, rv, hv] ∧ Dp K H v (mazeF n ds ks) ∧ Dp K H rv (.list (rooms.map PyData.int)) ∧ Dp K H hv (intsD held) ∧ ∀ H2, Ex H H2 → Q (optV (moreF ds rooms held)) H2
theorem fs_succ {α β : Type} {f : α → Option β} {l : List α} {i : Nat} {a : α} (h : l[i]? = some a) : (l.take (i + 1)).findSome? f = ((l.take i).findSome? f).or (f a) := by
  rw [List.take_succ, h, List.findSome?_append]
  cases (l.take i).findSome? f <;> simp
theorem fs_hit {α β : Type} {f : α → Option β} {l : List α} {i : Nat} {a : α} {r : β} (h : l[i]? = some a) (h0 : (l.take i).findSome? f = none) (hr : f a = some r) : l.findSome? f = some r := by
  have e : l = l.take (i + 1) ++ l.drop (i + 1) := (List.take_append_drop (i + 1) l).symm
  rw [e, List.findSome?_append, fs_succ h, h0, hr]
  rfl
theorem ok_room_more (T : Txt K mg) : Kept P w K mg base 2 "room_more" ["maze", "rooms", "held"] (sp_room_more K) := by
  refine T.d_room_more.kept sc_room_more (fun vs H Q E h => ?_) (fun cdv A outer s H vs Q E hr h => ?_)
  · obtain ⟨v, rv, hv, n, ds, ks, rooms, held, rfl, _⟩ := h
    rfl
  · obtain ⟨v, rv, hv, n, ds, ks, rooms, held, rfl, hm, hrv, hh, q⟩ := h
    refine ⟨_, (pss_cons (ps_for (passes_of rfl) rfl (pi_list_K (K := K) rfl (pe_ix (ix_tup_K (K := K) rfl) (pv 0) pe_int (fun _ _ => rfl))) (pg_name (i := 3) sc_room_more.nd rfl (Or.inl rfl))
        (pss_one (ps_if (pt_val (pe_fn (ok_opens (K := K) T) (hr.mono (by decide)) passL (by rfl) (pa_cons (pv 3) (pa_cons (pv 2) pa_nil))))
        (pss_cons (ps_if (PW.pt (pw_and (pt_cmpR (op_in_seq_K (K := K) rfl) (pe_ix (ix_tup_K (K := K) rfl) (pv 3) pe_int (fun _ _ => rfl)) (pv 1) (by rfl)) (pw_and1 (pt_cmpR (op_notIn_seq_K (K := K) rfl) (pe_ix (ix_tup_K (K := K) rfl) (pv 3) pe_int (fun _ _ => rfl)) (pv 1) (by rfl)))))
        (pss_one (ps_ret (pe_ix (ix_tup_K (K := K) rfl) (pv 3) pe_int (fun _ _ => rfl))))
        pss_nil)
      (pss_one (ps_if (PW.pt (pw_and (pt_cmpR (op_in_seq_K (K := K) rfl) (pe_ix (ix_tup_K (K := K) rfl) (pv 3) pe_int (fun _ _ => rfl)) (pv 1) (by rfl)) (pw_and1 (pt_cmpR (op_notIn_seq_K (K := K) rfl) (pe_ix (ix_tup_K (K := K) rfl) (pv 3) pe_int (fun _ _ => rfl)) (pv 1) (by rfl)))))
        (pss_one (ps_ret (pe_ix (ix_tup_K (K := K) rfl) (pv 3) pe_int (fun _ _ => rfl))))
        pss_nil)))
        pss_nil)))
      (pss_one (ps_ret pe_non))), ?_⟩
    obtain ⟨dv, hdv, edv⟩ := dp_item hm atI1
    refine q_forV (edv (Ex.refl H) (ev_var rfl) ev_c) hdv (Ex.refl H) (fun i σ' H' => Ex H H' ∧ ∃ y, σ' = [some v, some rv, some hv, y] ∧ (ds.take i).findSome? (moreD rooms held) = none) (fun H3 e3 => ⟨e3, none, rfl, rfl⟩) (fun i σ' H' hP => hP.1) (fun i d x σ' H' hdi hx hP => ?_) (fun σ' H' hP => ?_)
    · obtain ⟨eH, y, rfl, hno⟩ := hP
      rw [List.getElem?_map] at hdi
      obtain ⟨⟨d1, d2, d3⟩, hd1, rfl⟩ := Option.map_eq_some_iff.mp hdi
      have hit : ∀ r, moreD rooms held (d1, d2, d3) = some r → moreF ds rooms held = some r := fun r hr => fs_hit hd1 hno hr
      have miss : moreD rooms held (d1, d2, d3) = none → (ds.take (i + 1)).findSome? (moreD rooms held) = none := fun hr => by rw [fs_succ hd1, hno, hr]; rfl
      have x0 : ∀ {σ : L2.St} {H' : Hp}, Ex H H' → σ[3]? = some (some x) → Ev (tOp (rIxT K) (tVar 3) (tC (.int 0))) σ H' (.int d1) := fun e h => ev_of_ed (ed_ixT (ed_any (ev_var h) (dp_ex e hx)) ev_c atI0)
      have x1 : ∀ {σ : L2.St} {H' : Hp}, Ex H H' → σ[3]? = some (some x) → Ev (tOp (rIxT K) (tVar 3) (tC (.int 1))) σ H' (.int d2) := fun e h => ev_of_ed (ed_ixT (ed_any (ev_var h) (dp_ex e hx)) ev_c atI1)
      show tIfS _ _ _ _ _ _
      refine s_when (b := opensF (d1, d2, d3) held) (et_B (ev_call0 (ea_cons (ev_var rfl) (ea_cons (ev_var rfl) ea_nil)) (sv_opens (dp_ex eH hx) (dp_ex eH hh)))) (fun hb H3 e3 => ?_) (fun hb H3 e3 => ⟨eH.trans e3, _, rfl, miss (by unfold moreD; rw [hb]; rfl)⟩)
      have eH3 := eH.trans e3
      refine q_when (b := decide (d1 ∈ rooms) && !decide (d2 ∈ rooms)) (et_and (et_test (ev_inI (x0 eH3 rfl) (.inr (ed_any (ev_var rfl) (dp_ex eH3 hrv))))) fun _ => et_test (ev_niI (x1 eH3 rfl) (.inr (ed_any (ev_var rfl) (dp_ex eH3 hrv))))) (fun hb2 H4 e4 => ?_) (fun hb2 H4 e4 => ?_)
      · have hr : moreF ds rooms held = some d2 := hit d2 (by
          simp only [Bool.and_eq_true, decide_eq_true_eq, Bool.not_eq_true', decide_eq_false_iff_not] at hb2
          unfold moreD
          rw [if_pos hb, if_pos hb2])
        rw [hr] at q
        exact s_ret (x1 (eH3.trans e4) rfl) fun H5 e5 => q H5 ((eH3.trans e4).trans e5)
      have eH4 := eH3.trans e4
      refine s_when (b := decide (d2 ∈ rooms) && !decide (d1 ∈ rooms)) (et_and (et_test (ev_inI (x1 eH4 rfl) (.inr (ed_any (ev_var rfl) (dp_ex eH4 hrv))))) fun _ => et_test (ev_niI (x0 eH4 rfl) (.inr (ed_any (ev_var rfl) (dp_ex eH4 hrv))))) (fun hb3 H5 e5 => ?_) (fun hb3 H5 e5 => ⟨eH4.trans e5, _, rfl, miss ?_⟩)
      · have hr : moreF ds rooms held = some d1 := hit d1 (by
          simp only [Bool.and_eq_true, decide_eq_true_eq, Bool.not_eq_true', decide_eq_false_iff_not] at hb3
          have hb2' : ¬ (d1 ∈ rooms ∧ d2 ∉ rooms) := fun z => hb3.2 z.1
          unfold moreD
          rw [if_pos hb, if_neg hb2', if_pos hb3])
        rw [hr] at q
        exact s_ret (x0 (eH4.trans e5) rfl) fun H6 e6 => q H6 ((eH4.trans e5).trans e6)
      · have hb2' : ¬ (d1 ∈ rooms ∧ d2 ∉ rooms) := fun z => by simp [z.1, z.2] at hb2
        have hb3' : ¬ (d2 ∈ rooms ∧ d1 ∉ rooms) := fun z => by simp [z.1, z.2] at hb3
        unfold moreD
        rw [if_pos hb, if_neg hb2', if_neg hb3']
    · obtain ⟨eH, y, rfl, hno⟩ := hP
      rw [List.length_map, List.take_length] at hno
      have hr : moreF ds rooms held = none := hno
      rw [hr] at q
      exact s_ret ev_c fun H3 e3 => q H3 (eH.trans e3)
theorem sv_room_more {H : Hp} {v rv hv : V} {n : Int} {ds : List Door} {ks : List Key2} {rooms held : List Int} (hm : Dp K H v (mazeF n ds ks)) (hrv : Dp K H rv (.list (rooms.map PyData.int))) (hh : Dp K H hv (intsD held)) : SpV (sp_room_more K) [v, rv, hv] H (optV (moreF ds rooms held)) := fun H1 e Q q E => ⟨v, rv, hv, n, ds, ks, rooms, held, rfl, dp_ex e hm, dp_ex e hrv, dp_ex e hh, q⟩
/-! ### come -/
def sp_come (K : PySem.W.Frag) : Sp := fun vs H Q E => ∃ (v : V) (n start : Int) (ds : List Door) (ks : List Key2), vs = [v, .int start] ∧ Dp K H v (mazeF n ds ks) ∧ DoorsOk n ds ∧ n ≤ 60 ∧
  (Here n start → ∀ R, ComeOk n ds ks start R → ∀ p H2, H p = none → Ex H H2 → LstT H2 p (R.map PyData.int) → Q (.ref p) H2) ∧ (¬ Here n start → ∀ H2, Ex H H2 → E (cNoRoom K) none H2)
theorem td_unit {σ : L2.St} {H : Hp} : EvTd (tTup tNil) σ H (intsD []) := td_tup (ds := []) ea_tn (by simp)
theorem ok_come (T : Txt K mg) : Kept P w K mg base 3 "come" ["maze", "start"] (sp_come K) := by
  refine T.d_come.kept sc_come (fun vs H Q E h => ?_) (fun cdv A outer s H vs Q E hr h => ?_)
  · obtain ⟨v, n, start, ds, ks, rfl, _⟩ := h
    rfl
  · obtain ⟨v, n, start, ds, ks, rfl, hm, hok, hn60, q, qe⟩ := h
    refine ⟨_, (pss_cons (ps_expr (pe_fn (ok_need_room (K := K) T) (hr.mono (by decide)) (passR (takes_of rfl rfl rfl rfl)) (by rfl) (pa_cons (pv 0) (pa_cons (pv 1) pa_nil))))
      (pss_cons (ps_set (i := 2) sc_come.nd rfl (Or.inl rfl) (pe_lst (pa_cons (pv 1) pa_nil)))
      (pss_cons (ps_set (i := 3) sc_come.nd rfl (Or.inl rfl) (pe_fn (ok_taken (K := K) T) (hr.mono (by decide)) (passR (takes_of rfl rfl rfl rfl)) (by rfl) (pa_cons (pv 0) (pa_cons (pv 1) (pa_cons (pe_tup pa_nil) pa_nil)))))
      (pss_cons (ps_set (i := 4) sc_come.nd rfl (Or.inl rfl) (pe_fn (ok_room_more (K := K) T) (hr.mono (by decide)) passL (by rfl) (pa_cons (pv 0) (pa_cons (pv 2) (pa_cons (pv 3) pa_nil)))))
      (pss_cons (ps_while (passes_of rfl) (pt_cmpR op_notN (pv 4) pe_non (nomark _))
        (pss_cons (ps_expr (pe_bm_K (K := K) rfl PySem.F.plainAttrs_list PySem.F.slot_list_append PySem.F.type_list_append mt_append (pv 2) (pa_cons (pv 4) pa_nil)))
      (pss_cons (ps_set (i := 3) sc_come.nd rfl (Or.inl rfl) (pe_fn (ok_taken (K := K) T) (hr.mono (by decide)) (passR (takes_of rfl rfl rfl rfl)) (by rfl) (pa_cons (pv 0) (pa_cons (pv 4) (pa_cons (pv 3) pa_nil)))))
      (pss_one (ps_set (i := 4) sc_come.nd rfl (Or.inl rfl) (pe_fn (ok_room_more (K := K) T) (hr.mono (by decide)) passL (by rfl) (pa_cons (pv 0) (pa_cons (pv 2) (pa_cons (pv 3) pa_nil)))))))))
      (pss_one (ps_ret (pv 2)))))))), ?_⟩
    refine ⟨_, rfl, _, rfl, v, n, start, _, rfl, hm, fun hst H1 e1 => ?_, qe⟩
    dsimp only
    refine q_asgLT (ds := ([start] : List Int).map PyData.int) (lt_lst (ea_tc (td_int (ev_var rfl)) ea_tn) (by simp)) fun l H2 nl e2 hl => ?_
    have nlH : H l = none := fresh_back e1 nl
    have e12 := e1.trans e2
    refine q_asgP (P := fun v H' => Td H' v (intsD (heldOf ks [start]))) ?_ fun hv H3 e3 hhv => ?_
    · intro H3 e3 Q' q'
      refine ea_pv (R := fun vs H' => ∃ hv, vs = [v, .int start, hv] ∧ Td H' hv (intsD [])) (ev_var rfl) (fun H4 e4 => ea_pv (ev_var rfl) fun H5 e5 => ea_pc td_unit fun u H6 e6 hu => ea_pn fun H7 e7 => ⟨u, rfl, hu.ex e7⟩) H3 e3 _ fun vs H4 e4 hvs => ?_
      obtain ⟨hv, rfl, hhv⟩ := hvs
      refine ⟨v, hv, n, start, _, ks, [], rfl, dp_ex ((e12.trans e3).trans e4) hm, hhv.dp, fun _ v H5 e5 p => q' v H5 (e4.trans e5) ?_, fun z => absurd hst z⟩
      have := taken_heldOf ks [] start
      rw [heldOf_nil] at this
      rw [this] at p
      exact p
    have e13 := e12.trans e3
    have hl3 := hl.ex e3
    refine q_asg (v := optV (moreF ds [start] (heldOf ks [start]))) (ev_call0 (ea_cons (ev_var rfl) (ea_cons (ev_var rfl) (ea_cons (ev_var rfl) ea_nil))) (sv_room_more (dp_ex e13 hm) hl3.dp hhv.dp)) fun H4 e4 => ?_
    have e14 := e13.trans e4
    refine q_while (fun m σ' H' => Ex H H' ∧ ∃ (R : List Int) (hv : V), σ' = [some v, some (.int start), some (.ref l), some hv, some (optV (moreF ds R (heldOf ks R)))] ∧ LstT H' l (R.map PyData.int) ∧ Td H' hv (intsD (heldOf ks R)) ∧ ComeI n ds ks start R ∧ m = 100 - R.length) 99 ⟨e14, [start], hv, rfl, hl3.ex e4, hhv.ex e4, ComeI.one hst, rfl⟩ fun m σ' H5 hW => ?_
    obtain ⟨eH, R, hv, rfl, hL, hhv, hI, rfl⟩ := hW
    have hlen := hI.len
    cases hmo : moreF ds R (heldOf ks R) with
    | none =>
      refine ⟨false, ?_, (fun z => by cases z), fun _ H6 e6 => ?_⟩
      · exact et_test (ev_is (ev_notN (ev_var rfl)) (by simp [optV]))
      · refine s_ret (ev_var rfl) fun H7 e7 => q hst R ⟨hI, ?_⟩ l H7 nlH ((eH.trans e6).trans e7) (hL.ex (e6.trans e7))
        rw [← moreF_due (n := n) hok.1]
        exact hmo
    | some r =>
      obtain ⟨hhr, hnr⟩ := moreF_some hok.1 hmo
      refine ⟨true, ?_, fun _ H6 e6 => ⟨fun σ' H' => Ex H H' ∧ ∃ (hv : V), σ' = [some v, some (.int start), some (.ref l), some hv, some (optV (moreF ds (R ++ [r]) (heldOf ks (R ++ [r]))))] ∧ LstT H' l ((R ++ [r]).map PyData.int) ∧ Td H' hv (intsD (heldOf ks (R ++ [r]))) ∧ ComeI n ds ks start (R ++ [r]), fun σ2 H' hN => ?_, ?_⟩, (fun z => by cases z)⟩
      · exact et_test (ev_is (ev_notN (ev_var rfl)) (by simp [optV]))
      · obtain ⟨eN, hv2, rfl, h1, h2, h3⟩ := hN
        exact ⟨100 - (R ++ [r]).length, by rw [List.length_append, List.length_singleton]; omega, eN, _, hv2, rfl, h1, h2, h3, rfl⟩
      · have hI2 := hI.push hok.1 (by rw [← moreF_due (n := n) hok.1]; exact hmo)
        refine q_appT (d := .int r) (hL.ex e6) (ev_var rfl) (td_int (ev_var rfl)) (by rw [List.length_map]; omega) fun H7 xs v7 e7 hx7 hp7 => ?_
        have eHu : Ex H (upd H7 l (.lst (xs ++ [v7]))) := Ex.mut ((eH.trans e6).trans e7) nlH
        have hhvu : Td (upd H7 l (.lst (xs ++ [v7]))) hv (intsD (heldOf ks R)) := (hhv.ex (e6.trans e7)).upd hx7
        have hLu : LstT (upd H7 l (.lst (xs ++ [v7]))) l ((R ++ [r]).map PyData.int) := by rw [List.map_append]; exact hp7
        refine q_asgP (P := fun v H' => Td H' v (intsD (heldOf ks (R ++ [r])))) (by rw [← taken_heldOf]; exact td_takenC (ea_cons (ev_var rfl) (ea_cons (ev_var rfl) (ea_cons (ev_var rfl) ea_nil))) (dp_ex eHu hm) hhvu.dp hhr) fun hv2 H8 e8 hhv2 => ?_
        refine s_asg (v := optV (moreF ds (R ++ [r]) (heldOf ks (R ++ [r])))) (ev_call0 (ea_cons (ev_var rfl) (ea_cons (ev_var rfl) (ea_cons (ev_var rfl) ea_nil))) (sv_room_more (dp_ex (eHu.trans e8) hm) (hLu.ex e8).dp hhv2.dp)) fun H9 e9 => ⟨(eHu.trans e8).trans e9, hv2, rfl, hLu.ex (e8.trans e9), hhv2.ex e9, hI2⟩
end

section
variable {P : Program} {w : World} {K : PySem.W.Frag} {mg : Str → Option Value} {base : Heap}
theorem q_asgG {σ : L2.St} {H : Hp} {te : TE} {tz : TS} {D : Ends} {g : TG} {Pd : V → Hp → Prop} (h : EvP te σ H Pd) (k : ∀ v H1, Ex H H1 → Pd v H1 → g v σ H1 (fun σ2 H2 => tz D σ2 H2)) : tSeq (tAsg te g) tz D σ H := h H (Ex.refl H) _ fun v H1 e p => k v H1 e p
theorem q_dispT {σ : L2.St} {H : Hp} {ta tb : TE} {tz : TS} {D : Ends} {k : State} {v : V} {i : Nat} (hk : EvTd ta σ H (stateD k)) (hv : ∀ H1, Ex H H1 → Ev tb σ H1 v) (kk : ∀ p b H1, H p = none → Ex H H1 → SD P w H1 p [(k, b, v)] → tz D (σ.set i (some (.ref p))) H1) : tSeq (tAsg (tDispN P w ta tb) (gName i)) tz D σ H := fun p np => by
  have e1 := Ex.new (o := DN P w p []) np
  refine (hk.mono e1) _ (Ex.refl _) _ fun x H1 e2 t => hv H1 (e1.trans e2) H1 (Ex.refl H1) _ fun H2 e3 => ?_
  have hx : ∃ b, x = .ref b := by unfold stateD at t; cases t; exact ⟨_, rfl⟩
  obtain ⟨b, rfl⟩ := hx
  refine ⟨b, k, rfl, t.ex e3, (e2.trans e3) _ _ upd_same, ?_⟩
  have hp : H2 p = some (DN P w p []) := (e2.trans e3) _ _ upd_same
  refine kk p b _ np (Ex.mut ((e1.trans e2).trans e3) np) ⟨upd_same, fun q hq => ?_⟩
  simp at hq
  subst hq
  exact (t.ex e3).tk (Tk.ext hp)
theorem lt_l_stepsC {σ : L2.St} {H : Hp} {tr : TA} {E : XK} {dv lv hv : V} {room : Int} {ds : List Door} {ks : List Key2} {held : List Int} (h : EvA tr σ H [dv, lv, .int room, hv]) (hd : Dp K H dv (.list (ds.map doorD))) (hm : Dp K H lv (.list (ks.map keyD))) (hh : Dp K H hv (intsD held)) (hl : ds.length ≤ 1000) : EvLT (tCall (sp_l_steps K) [] E tr) σ H ((stepsF ds ks room held).map stateD) := fun H1 e Q q => h H1 e _ fun H2 e2 => ⟨dv, lv, hv, room, ds, ks, held, rfl, dp_ex (e.trans e2) hd, dp_ex (e.trans e2) hm, dp_ex (e.trans e2) hh, hl, fun p H3 np e3 hp => q p H3 (fresh_back e2 np) (e2.trans e3) hp⟩
end

section
variable {P : Program} {w : World} {K : PySem.W.Frag} {mg : Str → Option Value} {base : Heap}
/-! ### the keys of rooms -/
def sp_handp (K : PySem.W.Frag) : Sp := fun vs H Q _ => ∃ (v rv : V) (n : Int) (ds : List Door) (ks : List Key2) (rooms : List Int), vs = [v, rv] ∧ Dp K H v (mazeF n ds ks) ∧ Dp K H rv (.list (rooms.map PyData.int)) ∧ (∀ r ∈ rooms, Here n r) ∧ ∀ u H2, Ex H H2 → Td H2 u (intsD (heldOf ks rooms)) → Q u H2
theorem ok_hand (T : Txt K mg) : Kept P w K mg base 3 "hand" ["maze", "rooms"] (sp_handp K) := by
  refine T.d_hand.kept sc_hand (fun vs H Q E h => ?_) (fun cdv A outer s H vs Q E hr h => ?_)
  · obtain ⟨v, rv, n, ds, ks, rooms, rfl, _⟩ := h
    rfl
  · obtain ⟨v, rv, n, ds, ks, rooms, rfl, hm, hrv, hh, q⟩ := h
    refine ⟨_, (pss_cons (ps_set (i := 2) sc_hand.nd rfl (Or.inl rfl) (pe_tup pa_nil))
      (pss_cons (ps_for (passes_of rfl) rfl (pi_list_K (K := K) rfl (pv 1)) (pg_name (i := 3) sc_hand.nd rfl (Or.inl rfl))
        (pss_one (ps_set (i := 2) sc_hand.nd rfl (Or.inl rfl) (pe_fn (ok_taken (K := K) T) (hr.mono (by decide)) (passR (takes_of rfl rfl rfl rfl)) (by rfl) (pa_cons (pv 0) (pa_cons (pv 3) (pa_cons (pv 2) pa_nil)))))))
      (pss_one (ps_ret (pv 2))))), ?_⟩
    refine q_asgP (P := fun u H' => Td H' u (intsD [])) td_unit0 fun u H1 e1 hu => ?_
    refine q_forV (K := K) (g := gName 3) (ev_var rfl) hrv e1 (fun i σ' H' => Ex H H' ∧ ∃ u y, σ' = [some v, some rv, some u, y] ∧ Td H' u (intsD (heldOf ks (rooms.take i)))) (fun H2 e2 => ⟨e1.trans e2, u, none, rfl, by rw [List.take_zero, heldOf_nil]; exact hu.ex e2⟩) (fun i σ' H' hP => hP.1) (fun i d x σ' H' hdi hx hP => ?_) (fun σ' H' hP => ?_)
    · obtain ⟨eH, u, y, rfl, hu⟩ := hP
      rw [List.getElem?_map] at hdi
      obtain ⟨r, hri, rfl⟩ := Option.map_eq_some_iff.mp hdi
      cases dp_int_inv hx
      show tAsg _ _ _ _ _
      refine s_asgP (P := fun u H' => Td H' u (intsD (takenF ks r (heldOf ks (rooms.take i))))) (td_takenC (ea_cons (ev_var rfl) (ea_cons (ev_var rfl) (ea_cons (ev_var rfl) ea_nil))) (dp_ex eH hm) hu.dp (hh r (List.mem_of_getElem? hri))) fun u2 H2 e2 hu2 => ⟨eH.trans e2, u2, _, rfl, ?_⟩
      have e : rooms.take (i + 1) = rooms.take i ++ [r] := by rw [List.take_succ, hri]; rfl
      rw [e, ← taken_heldOf]
      exact hu2
    · obtain ⟨eH, u, y, rfl, hu⟩ := hP
      rw [List.length_map, List.take_length] at hu
      exact s_ret (ev_var rfl) fun H3 e3 => q u H3 (eH.trans e3) (hu.ex e3)
theorem td_handC {σ : L2.St} {H : Hp} {tr : TA} {E : XK} {v rv : V} {n : Int} {ds : List Door} {ks : List Key2} {rooms : List Int} (h : EvA tr σ H [v, rv]) (hm : Dp K H v (mazeF n ds ks)) (hrv : Dp K H rv (.list (rooms.map PyData.int))) (hh : ∀ r ∈ rooms, Here n r) : EvTd (tCall (sp_handp K) [] E tr) σ H (intsD (heldOf ks rooms)) := fun H1 e Q q => h H1 e _ fun H2 e2 => ⟨v, rv, n, ds, ks, rooms, rfl, dp_ex (e.trans e2) hm, dp_ex (e.trans e2) hrv, hh, fun u H3 e3 hu => q u H3 (e2.trans e3) hu⟩
/-! ### the guide -/
def sp_guide (K : PySem.W.Frag) : Sp := fun vs H Q E => ∃ (v : V) (n start goal : Int) (ds : List Door) (ks : List Key2), vs = [v, .int start, .int goal] ∧ Dp K H v (mazeF n ds ks) ∧ DoorsOk n ds ∧ n ≤ 60 ∧
  (Here n start → Here n goal → (∀ t r p l H2, FirstAt ds ks start goal t r → H l = none → Ex H H2 → H2 p = some (.tup [.str "walk", .ref l]) → LstT H2 l (r.map PyData.int) → Q (.ref p) H2) ∧
    (∀ t R p l hv H2, NoneAt ds ks start goal t → ComeOk n ds ks start R → H l = none → Ex H H2 → H2 p = some (.tup [.str "shut", .ref l, hv]) → LstT H2 l (R.map PyData.int) → Td H2 hv (intsD (heldOf ks R)) → Q (.ref p) H2)) ∧
  (¬ (Here n start ∧ Here n goal) → ∀ H2, Ex H H2 → E (cNoRoom K) none H2)
theorem ok_guide (T : Txt K mg) : Kept P w K mg base 5 "guide" ["maze", "start", "goal"] (sp_guide K) := by
  refine T.d_guide.kept sc_guide (fun vs H Q E h => ?_) (fun cdv A outer s H vs Q E hr h => ?_)
  · obtain ⟨v, n, start, goal, ds, ks, rfl, _⟩ := h
    rfl
  · obtain ⟨v, n, start, goal, ds, ks, rfl, hm, hok, hn60, q, qe⟩ := h
    refine ⟨_, (pss_cons (ps_expr (pe_fn (ok_need_room (K := K) T) (hr.mono (by decide)) (passR (takes_of rfl rfl rfl rfl)) (by rfl) (pa_cons (pv 0) (pa_cons (pv 1) pa_nil))))
      (pss_cons (ps_expr (pe_fn (ok_need_room (K := K) T) (hr.mono (by decide)) (passR (takes_of rfl rfl rfl rfl)) (by rfl) (pa_cons (pv 0) (pa_cons (pv 2) pa_nil))))
      (pss_cons (ps_set (i := 3) sc_guide.nd rfl (Or.inl rfl) (pe_tup (pa_cons (pv 1) (pa_cons (pe_fn (ok_taken (K := K) T) (hr.mono (by decide)) (passR (takes_of rfl rfl rfl rfl)) (by rfl) (pa_cons (pv 0) (pa_cons (pv 1) (pa_cons (pe_tup pa_nil) pa_nil)))) pa_nil))))
      (pss_cons (ps_set (i := 4) sc_guide.nd rfl (Or.inl rfl) (pe_dispN (P := P) (w := w) rfl rfl hr.units (pv 3) pe_bl))
      (pss_cons (ps_set (i := 5) sc_guide.nd rfl (Or.inl rfl) (pe_dispN (P := P) (w := w) rfl rfl hr.units (pv 3) (pe_lst (pa_cons (pv 1) pa_nil))))
      (pss_cons (ps_while (passes_of rfl) (pt_cmpR op_gt (pe_callB (call_lenN (P := P) (w := w) rfl rfl) (by rfl) T.n_len (by decide +kernel) (pa_cons (pv 5) pa_nil)) pe_int (nomark _))
        (pss_cons (ps_set (i := 6) sc_guide.nd rfl (Or.inl rfl) (pe_fn (ok_least (K := K) T) (hr.mono (by decide)) passL (by rfl) (pa_cons (pv 5) (pa_cons (pv 2) pa_nil))))
      (pss_cons (ps_if (pt_cmpR op_notN (pv 6) pe_non (nomark _))
        (pss_one (ps_ret (pe_tup (pa_cons pe_str (pa_cons (pv 6) pa_nil)))))
        pss_nil)
      (pss_one (ps_set (i := 5) sc_guide.nd rfl (Or.inl rfl) (pe_fn (ok_onward (K := K) T) (hr.mono (by decide)) (passR (takes_of rfl rfl rfl rfl)) (by rfl) (pa_cons (pv 0) (pa_cons (pv 5) (pa_cons (pv 4) pa_nil)))))))))
      (pss_cons (ps_set (i := 7) sc_guide.nd rfl (Or.inl rfl) (pe_fn (ok_come (K := K) T) (hr.mono (by decide)) (passR (takes_of rfl rfl rfl rfl)) (by rfl) (pa_cons (pv 0) (pa_cons (pv 1) pa_nil))))
      (pss_one (ps_ret (pe_tup (pa_cons pe_str (pa_cons (pv 7) (pa_cons (pe_fn (ok_hand (K := K) T) (hr.mono (by decide)) (passR (takes_of rfl rfl rfl rfl)) (by rfl) (pa_cons (pv 0) (pa_cons (pv 7) pa_nil))) pa_nil))))))))))))), ?_⟩
    refine ⟨_, rfl, _, rfl, v, n, start, _, rfl, hm, fun hst H1 e1 => ?_, fun z H1 e1 => qe (fun hh => z hh.1) H1 e1⟩
    refine ⟨_, rfl, _, rfl, v, n, goal, _, rfl, dp_ex e1 hm, fun hgo H2 e2 => ?_, fun z H2 e2 => qe (fun hh => z hh.2) H2 (e1.trans e2)⟩
    obtain ⟨qw, qs⟩ := q hst hgo
    dsimp only
    have e12 := e1.trans e2
    refine q_asgP (P := fun u H' => Td H' u (stateD (firstS ks start))) (td_state (ev_var rfl) (td_takenU (ev_var rfl) (ev_var rfl) (dp_ex e12 hm) hst)) fun fv H3 e3 hfv => ?_
    have e13 := e12.trans e3
    refine q_dispT (P := P) (w := w) (k := firstS ks start) (v := .bl true) (td_any (ev_var rfl) hfv) (fun _ _ => ev_c) fun e eb H4 ne e4 hSD => ?_
    have hSe : SeenK P w H4 e [firstS ks start] := ⟨_, hSD, rfl⟩
    have e14 := e13.trans e4
    have neH : H e = none := fresh_back e13 ne
    refine q_dispTL (P := P) (w := w) (k := firstS ks start) (ds := ([start] : List Int).map PyData.int) (td_any (ev_var rfl) (hfv.ex e4)) (fun H5 e5 => lt_lst (ea_tc (td_int (ev_var rfl)) ea_tn) (by simp)) fun d db l0 H5 nd nl0 hdl e5 hD hl0 => ?_
    have ndH : H d = none := fresh_back e14 nd
    have hed0 : e ≠ d := fun z => by
      subst z
      obtain ⟨φ, h⟩ := hSe.del_ext
      rw [nd] at h
      cases h
    have hfl : ∀ t, (wayAt ds ks start t).1.length ≤ 1920 := fun t => by have := (ways_len (ks := ks) hok.1 hst t).1; omega
    refine q_while (fun m σ' H' => ∃ (t : Nat) (d : Addr) (L : List Ent) (y6 y7 : Option V), σ' = [some v, some (.int start), some (.int goal), some fv, some (.ref e), some (.ref d), y6, y7] ∧ Ex H H' ∧ SD P w H' d L ∧ EntsW H H' L (wayAt ds ks start t).1 ∧ SeenK P w H' e (wayAt ds ks start t).2 ∧ e ≠ d ∧ H d = none ∧ (∀ u, u < t → bestF goal (wayAt ds ks start u).1 = none) ∧ m = 3000 - t) 3000
      ⟨0, d, _, none, none, rfl, e14.trans e5, hD, .cons ⟨rfl, l0, rfl, fresh_back e14 nl0, hl0⟩ .nil, hSe.ex e5, hed0, ndH, fun u hu => by omega, rfl⟩ fun m σ' H' hW => ?_
    obtain ⟨t, d, L, y6, y7, rfl, eH, hD, hE, hS, hed, ndH, hno, rfl⟩ := hW
    have hwi := wi_at (ks := ks) hok.1 hst t
    have hLl := hE.len
    refine ⟨decide ((0 : Int) < (L.length : Int)), et_test (ev_op (ev_lenN (ev_var rfl) hD.r) ev_c rv_I0), fun hb H6 e6 => ?_, fun hb H6 e6 => ?_⟩
    · have hne : (wayAt ds ks start t).1 ≠ [] := fun z => by
        rw [z] at hLl
        rw [hLl] at hb
        simp at hb
      have htl := ways_t (ks := ks) hok.1 hst hne
      refine ⟨fun σ' H' => ∃ (t2 : Nat) (d : Addr) (L : List Ent) (y6 y7 : Option V), t2 = t + 1 ∧ σ' = [some v, some (.int start), some (.int goal), some fv, some (.ref e), some (.ref d), y6, y7] ∧ Ex H H' ∧ SD P w H' d L ∧ EntsW H H' L (wayAt ds ks start t2).1 ∧ SeenK P w H' e (wayAt ds ks start t2).2 ∧ e ≠ d ∧ H d = none ∧ (∀ u, u < t2 → bestF goal (wayAt ds ks start u).1 = none), fun σ2 H2 hN => ?_, ?_⟩
      · obtain ⟨t2, d2, L2, y62, y72, ht2, h1, h2, h3, h4, h5, h6, h7, h8⟩ := hN
        exact ⟨3000 - t2, by omega, t2, d2, L2, y62, y72, h1, h2, h3, h4, h5, h6, h7, h8, rfl⟩
      refine q_asgA (vs := [.ref d, .int goal]) (ea_cons (ev_var rfl) (ea_cons (ev_var rfl) ea_nil)) fun H7 e7 => ⟨d, goal, H, L, (wayAt ds ks start t).1, rfl, hD.ex (e6.trans e7), hE.lk (Lk.ex (e6.trans e7)), hwi.nd, by have := hfl t; omega, fun hbn H8 e8 => ?_, fun r l H8 hbs e8 hl hlT => ?_⟩
      · have e68 := (e6.trans e7).trans e8
        refine q_when (b := false) (et_test (ev_is (ev_notN (ev_var rfl)) (by simp))) (fun z => Bool.noConfusion z) (fun _ H9 e9 => ?_)
        have e69 := e68.trans e9
        refine s_asgA (vs := [v, .ref d, .ref e]) (ea_cons (ev_var rfl) (ea_cons (ev_var rfl) (ea_cons (ev_var rfl) ea_nil))) fun H10 e10 => ?_
        have e610 := e69.trans e10
        refine ⟨v, d, e, H, n, ds, ks, L, (wayAt ds ks start t).1, (wayAt ds ks start t).2, rfl, dp_ex (eH.trans e610) hm, hok, hn60, hD.ex e610, hE.lk (Lk.ex e610), hS.ex e610, hed, eH.trans e610, ndH, neH, ⟨hwi.nd, fun s hs => ?_⟩, hwi.ns, hwi.vs, fun p hp => ?_, fun p Lz H11 np e11 hD2 hE2 hS2 => ?_⟩
        · obtain ⟨p, hp, rfl⟩ := List.mem_map.mp hs
          exact hwi.vs _ (hwi.sub p hp)
        · have := (hwi.low p hp).1
          omega
        · have hep : e ≠ p := fun z => by
            subst z
            obtain ⟨φ, h⟩ := (hS.ex e610).del_ext
            rw [np] at h
            cases h
          refine ⟨t + 1, p, Lz, _, _, rfl, rfl, (ex_del (eH.trans e610) neH).trans e11, hD2, hE2, hS2, hep, fresh_back (eH.trans e610) np, fun u hu => ?_⟩
          by_cases c : u < t
          · exact hno u c
          · have : u = t := by omega
            subst this
            exact hbn
      · have e68 := (e6.trans e7).trans e8
        refine q_when (b := true) (et_test (ev_is (ev_notN (ev_var rfl)) (by simp))) (fun _ H9 e9 => ?_) (fun z => Bool.noConfusion z)
        refine s_retP (ep_tupP (R := fun vs _ => vs = [.str "walk", .ref l]) (ea_pv ev_c fun H10 e10 => ea_pv (ev_var rfl) fun H11 e11 => ea_pn fun H12 e12 => rfl) (fun vs H' h => by rw [h]; simp)) fun u H10 e10 hu => ?_
        obtain ⟨p, vs, Hm, rfl, hp, _, _, rfl⟩ := hu
        exact qw t r p l H10 ⟨hno, hbs⟩ hl ((eH.trans e68).trans (e9.trans e10)) hp (hlT.ex (e9.trans e10))
    · have hnil : (wayAt ds ks start t).1 = [] := by
        have : L.length = 0 := by simp at hb; simpa using hb
        rw [this] at hLl
        exact List.eq_nil_of_length_eq_zero hLl.symm
      refine q_asgA (vs := [v, .int start]) (ea_cons (ev_var rfl) (ea_cons (ev_var rfl) ea_nil)) fun H7 e7 => ⟨v, n, start, ds, ks, rfl, dp_ex (eH.trans (e6.trans e7)) hm, hok, hn60, fun _ R hR l H8 nl e8 hl => ?_, fun z => absurd hst z⟩
      have e67 := eH.trans (e6.trans e7)
      have e68 := e67.trans e8
      refine s_retP (ep_tupP (R := fun vs H' => ∃ hv, vs = [.str "shut", .ref l, hv] ∧ Td H' hv (intsD (heldOf ks R))) (ea_pv ev_c fun H9 e9 => ea_pv (ev_var rfl) fun H10 e10 => ea_pc (td_handC (ea_cons (ev_var rfl) (ea_cons (ev_var rfl) ea_nil)) (dp_ex (e68.trans (e9.trans e10)) hm) (hl.ex (e9.trans e10)).dp hR.1.hr) fun hv H11 e11 hhv => ea_pn fun H12 e12 => ⟨hv, rfl, hhv.ex e12⟩) (fun vs H' h => by obtain ⟨hv, rfl, _⟩ := h; simp)) fun u H9 e9 hu => ?_
      obtain ⟨p, vs, Hm, rfl, hp, _, em, hv, rfl, hhv⟩ := hu
      exact qs t R p l hv H9 ⟨hno, hnil⟩ hR (fresh_back e67 nl) (e68.trans e9) hp (hl.ex e9) (hhv.ex em)
end

section
variable {P : Program} {w : World} {K : PySem.W.Frag} {mg : Str → Option Value} {base : Heap}
/-! ### the goal -/
def sp_l_goal (K : PySem.W.Frag) : Sp := fun vs H Q _ => ∃ (a : Addr) (ns : List Int) (n : Int), vs = [.ref a, .int n] ∧ SqL K H a (ns.map V.int) ∧ SizeOk (cellAt ns 0) n ∧ ∀ g, Here n g → ∀ H2, Ex H H2 → Q (.int g) H2
theorem ok_l_goal (T : Txt K mg) : Kept P w K mg base 2 "_law_goal" ["_law_script", "_law_size_here"] (sp_l_goal K) := by
  refine T.d_l_goal.kept sc_l_goal (fun vs H Q E h => ?_) (fun cdv A outer s H vs Q E hr h => ?_)
  · obtain ⟨a, ns, n, rfl, _⟩ := h
    rfl
  · obtain ⟨a, ns, n, rfl, hS, hz, q⟩ := h
    refine ⟨_, (pss_cons (ps_set (i := 2) sc_l_goal.nd rfl (Or.inl rfl) (pe_fn (ok_l_cell_at (K := K) T) (hr.mono (by decide)) passL (by rfl) (pa_cons (pv 0) (pa_cons pe_int pa_nil))))
      (pss_cons (ps_if (PW.pt (pw_and (pt_cmpR op_eq (pe_op op_mod (pv 2) pe_int) pe_int (nomark _)) (pw_and1 (pt_cmpR op_eq (pe_op op_mod (pe_fn (ok_l_cell_at (K := K) T) (hr.mono (by decide)) passL (by rfl) (pa_cons (pv 0) (pa_cons pe_int pa_nil))) pe_int) pe_int (nomark _)))))
        (pss_one (ps_ret (pe_op op_sub (pv 1) pe_int)))
        pss_nil)
      (pss_cons (ps_if (PW.pt (pw_and (pt_cmpR (op_in_seq_K (K := K) rfl) (pe_op op_mod (pv 2) pe_int) (pe_tup (pa_cons pe_int (pa_cons pe_int pa_nil))) (by rfl)) (pw_and1 (pt_cmpR op_gt (pe_op op_mod (pe_fn (ok_l_cell_at (K := K) T) (hr.mono (by decide)) passL (by rfl) (pa_cons (pv 0) (pa_cons pe_int pa_nil))) pe_int) pe_int (nomark _)))))
        (pss_one (ps_ret (pe_op op_mod (pe_op op_mul (pe_op op_sub (pv 1) pe_int) (pe_op op_add pe_int (pe_op op_mod (pe_fn (ok_l_mix (K := K) T) (hr.mono (by decide)) passL (by rfl) (pa_cons (pv 2) (pa_cons pe_int pa_nil))) (pe_op op_sub (pv 1) pe_int)))) (pv 1))))
        pss_nil)
      (pss_one (ps_ret (pe_op op_mod (pe_fn (ok_l_cell_at (K := K) T) (hr.mono (by decide)) passL (by rfl) (pa_cons (pv 0) (pa_cons pe_int pa_nil))) (pv 1))))))), ?_⟩
    have hn1 : 1 ≤ n := hz.1
    obtain ⟨f, ef⟩ : ∃ f, cellAt ns 0 = f := ⟨_, rfl⟩
    rw [ef] at hz
    refine q_asg (v := .int f) ?_ fun H1 e1 => ?_
    · rw [← ef]
      exact ev_call0 (ea_cons (ev_var rfl) (ea_cons ev_c ea_nil)) (sv_l_cell_at hS (by decide))
    have c2 : ∀ {σ : L2.St} {H' : Hp}, Ex H H' → σ[0]? = some (some (.ref a)) → Ev (tCall (sp_l_cell_at K) [] E (tCons (tVar 0) (tCons (tC (.int 2)) tNil))) σ H' (.int (cellAt ns 2)) := fun e h => ev_call0 (ea_cons (ev_var h) (ea_cons ev_c ea_nil)) (sv_l_cell_at (ex_l e hS) (by decide))
    refine q_when (b := decide (f % 12 = 10) && decide (cellAt ns 2 % 2 = 1)) (et_and (et_test (by walk_at "mz ev")) fun _ => et_test (ev_op (ev_op (c2 e1 rfl) ev_c (rv_I (by walk_at "mz side"))) ev_c rv_eqI)) (fun _ H2 e2 => ?_) (fun _ H2 e2 => ?_)
    · exact s_ret (v := .int (n - 1)) (by walk_at "mz ev") fun H3 e3 => q (n - 1) ⟨by omega, by omega⟩ H3 ((e1.trans e2).trans e3)
    have e12 := e1.trans e2
    refine q_when (b := decide (f % 12 ∈ [6, 8]) && decide ((0 : Int) < cellAt ns 2 % 4)) (et_and (et_test (ev_in2 (by walk_at "mz ev"))) fun _ => et_test (ev_op (ev_op (c2 e12 rfl) ev_c (rv_I (by walk_at "mz side"))) ev_c rv_I0)) (fun hb H3 e3 => ?_) (fun _ H3 e3 => ?_)
    · have hb1 : f % 12 = 6 ∨ f % 12 = 8 := by
        simp only [Bool.and_eq_true, decide_eq_true_eq] at hb
        simpa using hb.1
      have hn := hz.2.2.2.2.2.2.2.1 hb1
      obtain ⟨m, em⟩ : ∃ m, mix f 0 = m := ⟨_, rfl⟩
      refine s_ret (v := .int ((n - 1) * (1 + m % (n - 1)) % n)) ?_ fun H4 e4 => q _ (mod_here (by omega) _) H4 ((e12.trans e3).trans e4)
      have hr0 : 0 ≤ m % (n - 1) := Int.emod_nonneg _ (by omega)
      have hr1 : m % (n - 1) < n - 1 := Int.emod_lt_of_pos _ (by omega)
      rw [← em] at hr0 hr1 ⊢
      exact ev_op (ev_op (ev_op (ev_var rfl) ev_c rv_I0) (ev_op ev_c (ev_op (ev_call0 (ea_cons (ev_var rfl) (ea_cons ev_c ea_nil)) sv_l_mix) (ev_op (ev_var rfl) ev_c rv_I0) (rv_I (by omega))) rv_I0) (rv_I (by walk_at "mz side"))) (ev_var rfl) (rv_I (by omega))
    · exact s_ret (v := .int (cellAt ns 2 % n)) (ev_op (c2 (e12.trans e3) rfl) (ev_var rfl) (rv_I (by omega))) fun H4 e4 => q _ (mod_here (by omega) _) H4 ((e12.trans e3).trans e4)
end

section
variable {P : Program} {w : World} {K : PySem.W.Frag} {mg : Str → Option Value} {base : Heap}
/-! ### a list of rooms, compared -/
def sp_l_row (K : PySem.W.Frag) : Sp := fun vs H Q _ => ∃ (v u : V) (ns ms : List Int), vs = [v, u] ∧ Dp K H v (intlD ns) ∧ Dp K H u (intlD ms) ∧ ∀ H2, Ex H H2 → Q (.bl (decide (ns = ms))) H2
theorem ok_l_row (T : Txt K mg) : Kept P w K mg base 2 "_law_row" ["_law_found", "_law_due_here"] (sp_l_row K) := by
  refine T.d_l_row.kept sc_l_row (fun vs H Q E h => ?_) (fun cdv A outer s H vs Q E hr h => ?_)
  · obtain ⟨v, u, ns, ms, rfl, _⟩ := h
    rfl
  · obtain ⟨v, u, ns, ms, rfl, hv, hu, q⟩ := h
    refine ⟨_, (pss_cons (ps_if (PW.pt (pw_or (pt_not (pt_val (pe_callB (call_isi_K (K := K) rfl) (by rfl) T.n_isinstance (by decide +kernel) (pa_cons (pv 0) (pa_cons (pe_bltn (v := .ty "list") (u := .type "list") (by rfl) T.n_list (by decide +kernel) rfl) pa_nil))))) (pw_or1 (pt_cmpR op_ne (pe_callB (call_len_seq_K (K := K) rfl) (by rfl) T.n_len (by decide +kernel) (pa_cons (pv 0) pa_nil)) (pe_callB (call_len_seq_K (K := K) rfl) (by rfl) T.n_len (by decide +kernel) (pa_cons (pv 1) pa_nil)) (nomark _)))))
        (pss_one (ps_ret pe_bl))
        pss_nil)
      (pss_cons (ps_for (passes_of rfl) rfl (pi_list_K (K := K) rfl (pv 0)) (pg_name (i := 2) sc_l_row.nd rfl (Or.inl rfl))
        (pss_one (ps_if (pt_not (pt_val (pe_fn (ok_l_whole (K := K) T) (hr.mono (by decide)) passL (by rfl) (pa_cons (pv 2) pa_nil))))
        (pss_one (ps_ret pe_bl))
        pss_nil)))
      (pss_one (ps_ret (pe_cmpR (op_eqD_K (K := K) rfl hr.units) (pv 0) (pv 1) (nomark _)))))), ?_⟩
    refine q_when (b := (!true) || !decide (ns.length = ms.length)) (et_or (et_not (et_B (ev_isiD (n := "list") (d := intlD ns) (ed_any (ev_var rfl) hv) (fun v H1 _ h => ty_lst h) (by decide +kernel)))) fun _ =>
      et_test (ev_is (ev_op (ev_lenD (ds := ns.map PyData.int) (ed_any (ev_var rfl) hv) (.inl rfl)) (ev_lenD (ds := ms.map PyData.int) (ed_any (ev_var rfl) hu) (.inl rfl)) rv_neI) (by simp; omega))) (fun hb H1 e1 => ?_) (fun hb H1 e1 => ?_)
    · refine s_ret (v := .bl false) ev_c fun H2 e2 => ?_
      have hn : ¬ ns = ms := fun z => by subst z; simp at hb
      have := q _ (e1.trans e2)
      rw [decide_eq_false hn] at this
      exact this
    · refine q_forV (K := K) (g := gName 2) (ds := ns.map PyData.int) (ev_var rfl) hv e1 (fun i σ' H' => Ex H H' ∧ ∃ y, σ' = [some v, some u, y]) (fun H2 e2 => ⟨e1.trans e2, none, rfl⟩) (fun i σ' H' hP => hP.1) (fun i d x σ' H' hdi hx hP => ?_) (fun σ' H' hP => ?_)
      · obtain ⟨eH, y, rfl⟩ := hP
        rw [List.getElem?_map] at hdi
        obtain ⟨r, hri, rfl⟩ := Option.map_eq_some_iff.mp hdi
        cases dp_int_inv hx
        refine s_when (b := !true) (et_not (et_B (ev_call0 (ea_cons (ev_var rfl) ea_nil) sv_l_whole))) (fun z => by cases z) fun _ H2 e3 => ⟨eH.trans e3, _, rfl⟩
      · obtain ⟨eH, y, rfl⟩ := hP
        exact s_ret (ev_is (ev_eqD (ed_any (ev_var rfl) (dp_ex eH hv)) (ed_any (ev_var rfl) (dp_ex eH hu)) (sh_intl ns) (sh_intl ms)) (by rw [eqv_intl])) fun H2 e3 => q _ (eH.trans e3)
theorem sv_l_row {H : Hp} {v u : V} {ns ms : List Int} (h1 : Dp K H v (intlD ns)) (h2 : Dp K H u (intlD ms)) : SpV (sp_l_row K) [v, u] H (.bl (decide (ns = ms))) := fun H1 e Q q E => ⟨v, u, ns, ms, rfl, dp_ex e h1, dp_ex e h2, q⟩
end

/-! ### the least ways, as the law has them -/
def dueW (n : Int) (F : Ways) (w : Way) (o : State) : Way := if w ++ [o.1] < (getW F o).getD [n] then w ++ [o.1] else (getW F o).getD [n]
theorem due_add {n : Int} {S : List State} {w : Way} {F : Ways} {o : State} (hn : (keysW F).Nodup) (hl : w ++ [o.1] < [n]) (hS : o ∉ S) : putW F o (dueW n F w o) = addW S w F o := by
  unfold addW dueW
  rw [if_neg hS]
  cases h : getW F o with
  | none =>
    simp only [Option.getD_none]
    rw [if_pos hl]
  | some v =>
    simp only [Option.getD_some]
    split
    · rfl
    · exact putW_same hn h
theorem way_lt {w : Way} {start n r : Int} (h : w[0]? = some start) (hs : start < n) : w ++ [r] < [n] := by
  cases w with
  | nil => cases h
  | cons a t =>
    simp at h
    subst h
    exact List.Lex.rel hs
def prevS (ds : List Door) (ks : List Key2) (start : Int) : Nat → List State
  | 0 => []
  | t + 1 => (wayAt ds ks start t).2
theorem prevS_add (ds : List Door) (ks : List Key2) (start : Int) (t : Nat) : prevS ds ks start t ++ keysW (wayAt ds ks start t).1 = (wayAt ds ks start t).2 := by
  cases t with
  | zero => rfl
  | succ t => rfl
theorem prevS_no {ds : List Door} {ks : List Key2} {start : Int} {t : Nat} {x : State} (h : x ∈ keysW (wayAt ds ks start t).1) : x ∉ prevS ds ks start t := by
  cases t with
  | zero => simp [prevS]
  | succ t => exact (onward_keys.mp h).1
/-- the rooms, door by door -/
def optL : Option Int → List Int
  | none => []
  | some r => [r]
theorem optL_nil {o : Option Int} : optL o = [] ↔ o = none := by cases o <;> simp [optL]

/-! ### d.get(k, x); sorted ways -/
section
variable {X : Cx} {K : PySem.W.Frag} {P : Program} {w : World}
def tDGetN2 (P : Program) (w : World) (td ty tx : TE) : TE := fun σ H Q => td σ H fun x H1 => ∃ (d : Addr) (L0 : List Ent), x = .ref d ∧ Rd H1 d (DN P w d L0) ∧ KeysT H1 L0 ∧ ty σ H1 fun y H2 => tx σ H2 fun z H3 => ∃ (b : Addr) (k : State) (L : List Ent), y = .ref b ∧ Td H3 (.ref b) (stateD k) ∧ Rd H3 d (DN P w d L) ∧ KeysT H3 L ∧ Q ((getN L k).getD z) H3
theorem pe_dgetN2 {o e f : Expr} {apos cpos : Pos} {td ty tx : TE} (hP : X.prog = P) (hw : X.w = w) (hu : X.A.units + 64 < cLine) (ho : PE X o td) (he : PE X e ty) (hf : PE X f tx) (m : M2 X o "get" apos e f cpos) : PE X (.Call (.Attribute o "get" apos) [e, f] [] cpos) (tDGetN2 P w td ty tx) := by
  subst hP hw
  refine ⟨fun pins s σ H Q I h => ?_⟩
  refine wpAny_Call_method m.base m.few m.line PySem.F.plainAttrs_dict PySem.F.slot_dict_get PySem.F.type_dict_get (thn (ho.run pins s σ H _ I h) fun u s1 ⟨x, H1, I1, rx, d, L0, ex, hd, hk, q1⟩ => ?_)
  subst ex
  obtain rfl : u = Value.ref d := rx
  obtain ⟨_, hds, xs0, _, dd⟩ := dictOf_n I1.hok hd hk
  have hdd := dd
  obtain ⟨ob, _, _, g1, g2, _⟩ := hdd
  refine ⟨dd.typeIs, fun b q => ?_, ?_⟩
  · cases q
    exact ⟨ob, g1, g2.2.1⟩
  rw [m.trees]
  refine Calls.callWith_builtin rfl (Calls.evalArgs_plain (Calls.spliced_cons (thn (he.run pins s1 σ H1 _ I1 q1) fun iv s2 ⟨y, H2, I2, ry, q2⟩ =>
    Calls.spliced_cons (thn (hf.run pins s2 σ H2 _ I2 q2) fun fv s3 ⟨z, H3, I3, rz, b, k, L, ey, ht, hd3, hk3, q3⟩ => Calls.spliced_nil ?_))))
  subst ey
  obtain rfl : iv = Value.ref b := ry
  obtain ⟨_, hds3, xs, rel, dd3⟩ := dictOf_n I3.hok hd3 hk3
  refine call_meetsIn PySem.F.slot_dict_get dd3.typeIs PySem.F.entry_dict_get (PySem.F.args_dict_get_3 _ _ _) (meetsH_dict_get_default (nestedKind X.prog X.w) d b hds3 fv) ⟨room_n hu, nkS k, xs, nested_state I3.hok ht, dd3, (getN L k).getD z, H3, I3.tok _, ?_, q3⟩
  have h1 := pn_at rel k
  cases c : getN L k with
  | none =>
    rw [c] at h1
    cases c2 : (atKey xs (nkS k)).map (·.2) with
    | none => exact rz
    | some v => rw [c2] at h1; exact absurd h1 id
  | some v =>
    rw [c] at h1
    obtain ⟨w', hw, rw'⟩ := RelO.some_of (v := v) (o := (atKey xs (nkS k)).map (·.2)) h1
    rw [hw]
    exact rw'
def sortW (ws : List Way) : List Way := ws.mergeSort (PySem.W.dataLe false intlD)
def rSortedW (K : PySem.W.Frag) : List V → Hp → VK → Prop := fun vs H Q => ∃ (a : Addr) (xs : List V) (ws : List Way), vs = [V.ref a] ∧ SqL K H a xs ∧ WaysAt H xs ws ∧ ws.length ≤ sizeLine ∧ ∀ ys p, WaysAt H ys (sortW ws) → H p = none → Q (.ref p) (upd H p (.lst ys))
theorem each_way {H : Hp} : ∀ {ws : List Way} {xs : List V} {us : List Value}, WaysAt H xs ws → Vals xs us → PySem.W.EachIs (fun u (b : Way) => ∃ x, RelV x u ∧ ∃ l, x = V.ref l ∧ LstT H l (b.map PyData.int)) us ws
  | [], _, _, .nil, .nil => .nil
  | b :: bs, _, _, .cons t1 t2, .cons r1 r2 => .cons ⟨_, r1, t1⟩ (each_way t2 r2)
theorem way_each {H : Hp} : ∀ {ws : List Way} {us : List Value}, PySem.W.EachIs (fun u (b : Way) => ∃ x, RelV x u ∧ ∃ l, x = V.ref l ∧ LstT H l (b.map PyData.int)) us ws → ∃ xs, Vals xs us ∧ WaysAt H xs ws
  | _, _, .nil => ⟨[], .nil, .nil⟩
  | _, _, .cons ⟨x, r, t⟩ e => by
    obtain ⟨xs, rs, ts⟩ := way_each e
    exact ⟨x :: xs, .cons r rs, .cons t ts⟩
theorem cr_sortedW (hK : X.K = K) (hu : X.A.units + 64 < cLine) : CallR X (.builtin "sorted") (rSortedW K) := by
  subst hK
  intro pins s σ H vs us Q I r h
  obtain ⟨a, xs, ws, rfl, hs, ht, hz, q⟩ := h
  obtain ⟨its, rv, hl, _⟩ := I.list hs
  rw [Vals.ref1 r]
  have e := each_way ht rv
  refine PySem.W.sorted_data (R := fun u (b : Way) => ∃ x, RelV x u ∧ ∃ l, x = V.ref l ∧ LstT H l (b.map PyData.int)) (enc := intlD) hl.isList e (e.mono fun u b ⟨x, r1, l, el, t1⟩ => reads_tl I.hok (.inr ⟨l, _, el, rfl, t1⟩) r1) (PySem.W.AllAlike.of alike_way) (PySem.W.Sortable.others fun b => ⟨fun z => (by cases z), fun xs z => (by cases z)⟩) hz (fun b _ => by have := dep_way b; omega) fun out ho eo => ?_
  obtain ⟨ys, rys, tys⟩ := way_each eo
  obtain ⟨ep, he'⟩ := PyProof.Rows.sortedAll_at s.heap its out.toArray
  have hlen : ys.length ≤ sizeLine := by
    have h1 : ys.length = (ws.mergeSort (PySem.W.dataLe false intlD)).length := Paired.length tys
    rw [h1, List.length_mergeSort]
    exact hz
  exact ⟨.ref _, upd H (s.heap.objs.size + 1) (.lst ys), I.laid (t' := s.toks) (fun _ _ => PyProof.Rows.sortedAll_old) (Nat.le_succ _) ⟨hlen, out, ep, rys, he'⟩, rfl, q ys _ tys (I.hok.fresh (Nat.le_succ _))⟩
theorem sortW_nil {ws : List Way} : sortW ws = [] ↔ ws = [] := by
  have h : (sortW ws).length = ws.length := List.length_mergeSort _
  constructor
  · intro z
    rw [z] at h
    exact List.eq_nil_of_length_eq_zero h.symm
  · intro z
    exact List.eq_nil_of_length_eq_zero (by rw [h, z]; rfl)
theorem sortW_min {ws : List Way} {v : Way} (h : (sortW ws)[0]? = some v) : minW ws = some v := by
  have hp : (sortW ws).Perm ws := List.mergeSort_perm ws _
  have hs : (sortW ws).Pairwise (fun a b => PySem.W.dataLe false intlD a b = true) := PySem.W.sort_pairwise (PySem.W.sortLe_total _ false _) ws
  refine minW_of (hp.mem_iff.mp (List.mem_of_getElem? h)) fun x hx => ?_
  have hx2 := hp.mem_iff.mpr hx
  cases e : sortW ws with
  | nil => rw [e] at hx2; cases hx2
  | cons a r =>
    rw [e] at h hx2 hs
    simp at h
    subst h
    rcases List.mem_cons.mp hx2 with h1 | h1
    · rw [h1]
      exact List.le_refl _
    · have h2 := (List.pairwise_cons.mp hs).1 x h1
      rw [PySem.W.dataLe_eq] at h2
      refine le_of_not_lt_way fun z => ?_
      have h3 := dataLt_way x a
      rw [decide_eq_true z] at h3
      simp [h3] at h2
theorem nb_wayss (ws : List Way) : nb (.list (ws.map intlD)) = true := by simp only [nb]; exact nbAll_map nb_intl ws
theorem sh_wayss (ws : List Way) : SeqAt.shaped (.list (ws.map intlD)) = true := shaped_of (nb_wayss ws) (by have := depth_list (depth_map dep_way ws); omega)
theorem eqv_wayss (a b : List Way) : PyData.eqv (.list (a.map intlD)) (.list (b.map intlD)) = decide (a = b) := eqv_dec (nb_wayss a) (nb_wayss b) ⟨fun e => map_inj (f := intlD) (fun a b z => intlD_inj.mp z) (by simpa using e), fun e => by rw [e]⟩
theorem WaysAt.dp {H : Hp} {xs : List V} {ws : List Way} (h : WaysAt H xs ws) : DpAll K H xs (ws.map intlD) := by
  unfold WaysAt at h
  induction h with
  | nil => exact .nil
  | cons a b ih =>
    obtain ⟨l, rfl, t⟩ := a
    exact .cons t.dp ih
theorem WaysAt.lk {H H' : Hp} {xs : List V} {ws : List Way} (k : Lk H H') (h : WaysAt H xs ws) : WaysAt H' xs ws := Paired.mapP h fun _ _ ⟨l, a, c⟩ => ⟨l, a, c.lk k⟩
end
section
variable {P : Program} {w : World} {K : PySem.W.Frag} {H H' : Hp} {d : Addr} {L : List Ent} {σ : L2.St} {ta tb te td ti : TE} {k : State} {b : Addr} {v : V} {D : Ends} {tu tz : TS}
theorem s_setNP {Pv : V → Hp → Prop} (h : SD P w H d L) (hv : EvP te σ H Pv) (ho : Ev td σ H (.ref d)) (hi : Ev ti σ H (.ref b)) (t : Td H (.ref b) (stateD k)) (hz : L.length < 100000) (kk : ∀ v H0 H1, Ex H H0 → Pv v H0 → Ex H0 H1 → H1 d = some (DN P w d L) → SD P w (upd H1 d (DN P w d (putN L k b v))) d (putN L k b v) → D.nx σ (upd H1 d (DN P w d (putN L k b v)))) :
    tAsg te (gSub td ti (rSetN P w)) D σ H := hv H (Ex.refl H) _ fun v H1 e1 pv => ho H1 e1 _ fun H2 e2 => hi H2 (e1.trans e2) _ fun H3 e3 => by
  have e03 := (e1.trans e2).trans e3
  have h3 := h.ex e03
  exact ⟨b, d, k, L, rfl, rfl, t.ex e03, h3.1, h3.2, sz_lt hz, kk v H1 H3 e1 pv (e2.trans e3) h3.1 (h3.put (t.ex e03))⟩
/-- min(d.get(k, [n]), way) -/
theorem ep_minget {F : Ways} {n : Int} {wy : Way} {lw : Addr} {tw tn : TE} (hF : SD P w H d L) (hE : EntsW (fun _ => none) H L F) (h1 : Ev ta σ H (.ref d)) (h2 : Ev tb σ H (.ref b)) (t : Td H (.ref b) (stateD k)) (hn : Ev tn σ H (.int n)) (hw : Ev tw σ H (.ref lw)) (hwl : LstT H lw (wy.map PyData.int)) :
    EvP (tCB rMin2W (tCons (tDGetN2 P w ta tb (tLst (tCons tn tNil))) (tCons tw tNil))) σ H (fun v H' => ∃ l, v = V.ref l ∧ LstT H' l ((if wy < (getW F k).getD [n] then wy else (getW F k).getD [n]).map PyData.int)) := fun H1 e Q q => by
  refine h1 H1 e _ fun H2 e2 => ?_
  have hF2 := hF.ex (e.trans e2)
  refine ⟨d, L, rfl, Rd.of hF2.1, hF2.2, h2 H2 (e.trans e2) _ fun H3 e3 => ?_⟩
  have hl : EvLT (tLst (tCons tn tNil)) σ H (([n] : Way).map PyData.int) := lt_lst (ea_tc (td_int hn) ea_tn) (by simp)
  refine hl H3 ((e.trans e2).trans e3) _ fun p H4 np e4 hp => ?_
  have e04 := ((e.trans e2).trans e3).trans e4
  have hF4 := hF.ex e04
  refine ⟨b, k, L, rfl, t.ex e04, Rd.of hF4.1, hF4.2, ?_⟩
  obtain ⟨la, ela, hla⟩ : ∃ la, (getN L k).getD (.ref p) = .ref la ∧ LstT H4 la (((getW F k).getD [n]).map PyData.int) := by
    cases c : getW F k with
    | none =>
      rw [hE.noW c]
      exact ⟨p, rfl, hp⟩
    | some v =>
      obtain ⟨l0, g0, _, t0⟩ := hE.gotW c
      rw [g0]
      exact ⟨l0, rfl, t0.ex e04⟩
  rw [ela]
  refine hw H4 e04 _ fun H5 e5 => ⟨la, lw, (getW F k).getD [n], wy, rfl, hla.ex e5, hwl.ex (e04.trans e5), q _ H5 (((e2.trans e3).trans e4).trans e5) ?_⟩
  by_cases c : wy < (getW F k).getD [n]
  · rw [if_pos c, if_pos c]
    exact ⟨lw, rfl, hwl.ex (e04.trans e5)⟩
  · rw [if_neg c, if_neg c]
    exact ⟨la, rfl, hla.ex e5⟩
end

section
variable {P : Program} {w : World} {K : PySem.W.Frag} {mg : Str → Option Value} {base : Heap}
theorem td_lock {H : Hp} {x : V} {l : Option Int} (h : Dp K H x (lockD l)) : Td H x (lockD l) := by
  cases l with
  | none => cases h; exact .non
  | some k => cases h; exact .int k
theorem nb_locks (ls : List (Option Int)) : nb (.list (ls.map lockD)) = true := by simp only [nb]; exact nbAll_map nb_lock ls
theorem sh_locks (ls : List (Option Int)) : SeqAt.shaped (.list (ls.map lockD)) = true := shaped_of (nb_locks ls) (by
  have := depth_list (n := 0) (depth_map (f := lockD) (fun i => by rw [dep_lock]; exact Nat.le_refl 0) ls)
  omega)
theorem eqv_locks (ds es : List (Option Int)) : PyData.eqv (.list (ds.map lockD)) (.list (es.map lockD)) = decide (ds = es) := eqv_dec (nb_locks ds) (nb_locks es) ⟨fun e => map_inj (f := lockD) (fun a b z => by
  cases a <;> cases b <;> simp [lockD] at z <;> simp [z]) (by simpa using e), fun e => by rw [e]⟩
theorem td_l_takenU {σ : L2.St} {H : Hp} {t1 t2 : TE} {E : XK} {v : V} {room : Int} {ks : List Key2} (h1 : Ev t1 σ H v) (h2 : Ev t2 σ H (.int room)) (hm : Dp K H v (.list (ks.map keyD))) : EvTd (tCall (sp_l_taken K) [] E (tCons t1 (tCons t2 (tCons (tTup tNil) tNil)))) σ H (intsD (takenF ks room [])) := by
  intro H3 e3 Q' q'
  refine ea_pv (R := fun vs H' => ∃ hv, vs = [v, .int room, hv] ∧ Td H' hv (intsD [])) h1 (fun H4 e4 => ea_pv (h2.mono e4) fun H5 e5 => ea_pc td_unit0 fun u H6 e6 hu => ea_pn fun H7 e7 => ⟨u, rfl, hu.ex e7⟩) H3 e3 _ fun vs H4 e4 hvs => ?_
  obtain ⟨hv, rfl, hhv⟩ := hvs
  exact ⟨v, hv, room, ks, [], rfl, dp_ex (e3.trans e4) hm, hhv.dp, fun v H5 e5 p => q' v H5 (e4.trans e5) p⟩
end

section
variable {P : Program} {w : World} {K : PySem.W.Frag} {mg : Str → Option Value} {base : Heap}
/-! ### what is due, by the law's own going -/
abbrev H00 : Hp := fun _ => none
theorem tcb1 {r : List V → Hp → VK → Prop} {te : TE} {σ : L2.St} {H : Hp} {Q : VK} (h : te σ H fun x H1 => r [x] H1 Q) : tCB r (tCons te tNil) σ H Q := h
def sp_l_due (K : PySem.W.Frag) : Sp := fun vs H Q _ => ∃ (dv lv : V) (n start goal : Int) (ds : List Door) (ks : List Key2), vs = [dv, lv, .int n, .int start, .int goal] ∧ Dp K H dv (.list (ds.map doorD)) ∧ Dp K H lv (.list (ks.map keyD)) ∧ DoorsOk n ds ∧ 1 ≤ n ∧ n ≤ 60 ∧ Here n start ∧
  (∀ t r l H2, FirstAt ds ks start goal t r → Ex H H2 → LstT H2 l (r.map PyData.int) → Q (.ref l) H2) ∧ (∀ H2, (∀ t, t < n.toNat * 32 → bestF goal (wayAt ds ks start t).1 = none) → Ex H H2 → Q .non H2)
theorem ok_l_due (T : Txt K mg) : Kept P w K mg base 3 "_law_due" ["_law_doors_here", "_law_lying_here", "_law_size_here", "_law_start", "_law_goal_here"] (sp_l_due K) := by
  refine T.d_l_due.kept sc_l_due (fun vs H Q E h => ?_) (fun cdv A outer s H vs Q E hr h => ?_)
  · obtain ⟨dv, lv, n, start, goal, ds, ks, rfl, _⟩ := h
    rfl
  · obtain ⟨dv, lv, n, start, goal, ds, ks, rfl, hdv, hlv, hok, hn1, hn60, hst, qf, qn⟩ := h
    refine ⟨_, (pss_cons (ps_set (i := 5) sc_l_due.nd rfl (Or.inr rfl) (pe_dispN (P := P) (w := w) rfl rfl hr.units (pe_tup (pa_cons (pv 3) (pa_cons (pe_fn (ok_l_taken (K := K) T) (hr.mono (by decide)) passL (by rfl) (pa_cons (pv 1) (pa_cons (pv 3) (pa_cons (pe_tup pa_nil) pa_nil)))) pa_nil))) (pe_lst (pa_cons (pv 3) pa_nil))))
      (pss_cons (ps_set (i := 6) sc_l_due.nd rfl (Or.inl rfl) (pe_dnewN (P := P) (w := w) rfl rfl))
      (pss_cons (ps_for (passes_of rfl) rfl (pi_range1 (by rfl) T.n_range (pa_cons (pe_op op_mul (pv 2) pe_int) pa_nil)) (pg_name (i := 7) sc_l_due.nd rfl (Or.inl rfl))
        (pss_cons (ps_lock (ps_set (i := 8) sc_l_due.nd rfl (Or.inl rfl) (pe_callB (cr_sortedW (K := K) rfl hr.units) (by rfl) T.n_sorted (by decide +kernel) (pa_cons (pe_lc (own := [("_law_state", 9)]) (g := gName 9) rfl sc_l_due.nd (pi_keysN (P := P) (w := w) rfl rfl (pv 5)) (blkOk_by (own := [("_law_state", 9)]) (N := ["_law_doors_here", "_law_lying_here", "_law_size_here", "_law_start", "_law_goal_here", "_law_now", "_law_seen", "_law_turn", "_law_ends", "_law_state", "_law_more", "_law_other", "_law_longer"]) (sc := defScope s_l_due) (by decide +kernel)) (fun _ _ _ _ _ => (pg_name (i := 9) sc_l_due.nd rfl (Or.inl rfl))) (fun _ _ _ _ _ => pts_one (pt_cmpR op_eq (pe_ix (ix_tup_K (K := K) rfl) (pv 9) pe_int (fun _ _ => rfl)) (pv 4) (nomark _))) (fun _ _ _ _ _ => (pe_dgetN (P := P) (w := w) rfl rfl hr.units (pv 5) (pv 9) (fun _ _ => rfl)))) pa_nil))))
      (pss_cons (ps_if (pt_cmpR (op_neD_K (K := K) rfl hr.units) (pv 8) (pe_lst pa_nil) (nomark _))
        (pss_one (ps_ret (pe_ix (ix_list_K (K := K) rfl) (pv 8) pe_int (fun _ _ => rfl))))
        pss_nil)
      (pss_cons (ps_lock (ps_for (passes_of rfl) rfl (pi_keysN (P := P) (w := w) rfl rfl (pv 5)) (pg_name (i := 9) sc_l_due.nd rfl (Or.inl rfl))
        (pss_one (ps_asg pe_bl (pg_sub (pv 6) (pv 9) (set_dN (P := P) (w := w) rfl rfl hr.units))))))
      (pss_cons (ps_set (i := 10) sc_l_due.nd rfl (Or.inl rfl) (pe_dnewN (P := P) (w := w) rfl rfl))
      (pss_cons (ps_lock (ps_for (passes_of rfl) rfl (pi_keysN (P := P) (w := w) rfl rfl (pv 5)) (pg_name (i := 9) sc_l_due.nd rfl (Or.inl rfl))
        (pss_one (ps_for (passes_of rfl) rfl (pi_list_K (K := K) rfl (pe_fn (ok_l_steps (K := K) T) (hr.mono (by decide)) passL (by rfl) (pa_cons (pv 0) (pa_cons (pv 1) (pa_cons (pe_ix (ix_tup_K (K := K) rfl) (pv 9) pe_int (fun _ _ => rfl)) (pa_cons (pe_ix (ix_tup_K (K := K) rfl) (pv 9) pe_int (fun _ _ => rfl)) pa_nil)))))) (pg_name (i := 11) sc_l_due.nd rfl (Or.inl rfl))
        (pss_one (ps_if (pt_cmpR (op_notInN (P := P) (w := w) rfl rfl hr.units) (pv 11) (pv 6) (by rfl))
        (pss_cons (ps_set (i := 12) sc_l_due.nd rfl (Or.inl rfl) (pe_op op_cat (pe_dgetN (P := P) (w := w) rfl rfl hr.units (pv 5) (pv 9) (fun _ _ => rfl)) (pe_lst (pa_cons (pe_ix (ix_tup_K (K := K) rfl) (pv 11) pe_int (fun _ _ => rfl)) pa_nil))))
      (pss_one (ps_asg (pe_callB (cr_min2W rfl hr.units) (by rfl) T.n_min (by decide +kernel) (pa_cons (pe_dgetN2 (P := P) (w := w) rfl rfl hr.units (pv 10) (pv 11) (pe_lst (pa_cons (pv 2) pa_nil)) ⟨by rfl, by rfl, by rfl, by rfl⟩) (pa_cons (pv 12) pa_nil))) (pg_sub (pv 10) (pv 11) (set_dN (P := P) (w := w) rfl rfl hr.units)))))
        pss_nil))))))
      (pss_one (ps_set (i := 5) sc_l_due.nd rfl (Or.inr rfl) (pv 10)))))))))
      (pss_one (ps_ret pe_non))))), ?_⟩
    have tdu : ∀ {H' : Hp} {σ : L2.St}, Ex H H' → σ[1]? = some (some lv) → σ[3]? = some (some (.int start)) → EvTd (tTup (tCons (tVar 3) (tCons (tCall (sp_l_taken K) [] E (tCons (tVar 1) (tCons (tVar 3) (tCons (tTup tNil) tNil)))) tNil))) σ H' (stateD (firstS ks start)) := fun e h1 h3 => td_state (ev_var h3) (td_l_takenU (ev_var h1) (ev_var h3) (dp_ex e hlv))
    refine q_dispTL (P := P) (w := w) (k := firstS ks start) (ds := ([start] : List Int).map PyData.int) (tdu (Ex.refl H) rfl rfl) (fun H1 e1 => lt_lst (ea_tc (td_int (ev_var rfl)) ea_tn) (by simp)) fun d db l0 H1 nd nl0 hdl e1 hD hl0 => ?_
    refine (show tSeq (tAsg (tDNewN P w) (gName 6)) _ _ _ _ from fun e ne => ?_)
    have hed0 : e ≠ d := fun z => by
      subst z
      have := hD.1
      rw [ne] at this
      cases this
    have e2 : Ex H1 (upd H1 e (DN P w e [])) := Ex.new ne
    have neH : H e = none := fresh_back e1 ne
    have hS1 : SeenK P w (upd H1 e (DN P w e [])) e (prevS ds ks start 0) := ⟨[], ⟨upd_same, fun p hp => absurd hp (by simp)⟩, rfl⟩
    have hlv0 := hlv
    refine q_forR1 (n := n * 32) (ea_cons (ev_op (ev_var rfl) ev_c (rv_I (Or.inl ⟨by omega, by omega⟩))) ea_nil) ⟨by omega, by omega⟩ (fun i σ' H' => Ex H H' ∧ ∃ (d : Addr) (L : List Ent) (y7 y8 y9 y10 y11 y12 : Option V), σ' = [some dv, some lv, some (.int n), some (.int start), some (.int goal), some (.ref d), some (.ref e), y7, y8, y9, y10, y11, y12] ∧ SD P w H' d L ∧ EntsW H00 H' L (wayAt ds ks start i).1 ∧ SeenK P w H' e (prevS ds ks start i) ∧ e ≠ d ∧ H d = none ∧ ∀ u, u < i → bestF goal (wayAt ds ks start u).1 = none) (fun H3 e3 => ⟨(e1.trans e2).trans e3, d, _, none, none, none, none, none, none, rfl, (hD.ex e2).ex e3, .cons ⟨rfl, l0, rfl, rfl, hl0.ex (e2.trans e3)⟩ .nil, hS1.ex e3, hed0, nd, fun u hu => by omega⟩) (fun i σ' H' hi hP => ?_) (fun σ' H' hP => ?_)
    · obtain ⟨eH, d, L, y7, y8, y9, y10, y11, y12, rfl, hD, hE, hS, hed, ndH, hno⟩ := hP
      have hwi := wi_at (ks := ks) hok.1 hst i
      have hwl := ways_len (ks := ks) hok.1 hst i
      obtain ⟨W, eW⟩ : ∃ W, (wayAt ds ks start i).1 = W := ⟨_, rfl⟩
      have hpS := prevS_add ds ks start i
      have hpn : ∀ x, x ∈ keysW (wayAt ds ks start i).1 → x ∉ prevS ds ks start i := fun x hx => prevS_no hx
      have hnx : (wayAt ds ks start (i + 1)).1 = onwardF ds ks (wayAt ds ks start i).1 (wayAt ds ks start i).2 := rfl
      have hnb : bestF goal (wayAt ds ks start i).1 = none → ∀ u, u < i + 1 → bestF goal (wayAt ds ks start u).1 = none := fun h u hu => by
        by_cases c : u < i
        · exact hno u c
        · have : u = i := by omega
          subst this
          exact h
      have hfst : ∀ r, bestF goal (wayAt ds ks start i).1 = some r → FirstAt ds ks start goal i r := fun r h => ⟨hno, h⟩
      obtain ⟨S, eS⟩ : ∃ S, (wayAt ds ks start i).2 = S := ⟨_, rfl⟩
      obtain ⟨Sp0, eSp⟩ : ∃ Sp0, prevS ds ks start i = Sp0 := ⟨_, rfl⟩
      rw [eW] at hE hwi hwl hpS hpn hnx hnb hfst
      rw [eS] at hwi hwl hpS hnx
      rw [eSp] at hS hpS hpn
      have hLl := hE.len
      have hLn : (L.map (·.1)).Nodup := by rw [hE.keys]; exact hwi.nd
      show tSeq _ _ _ _ _
      refine q_lockAsg (P := P) (w := w) hD fun od => ?_
      -- sorted([..])
      refine tcb1 (ends_lc (K := K) (σ := [some dv, some lv, some (.int n), some (.int start), some (.int goal), some (.ref d), some (.ref e), some (.int (i : Int)), y8, y9, y10, y11, y12]) (j0 := 5) (j1 := 4) (j := 9) (goal := goal) hD hE hwi.nd (by omega) (by simp) (fun x => rfl) rfl (fun x => rfl) (fun x => rfl) fun Dl xs H4 nDl eH4 hlk hxs hW => ?_)
      have hDd : Dl ≠ d := ne_of hxs hlk (fun z => by cases z)
      refine ⟨Dl, xs, endsF goal W, rfl, SqL.of hxs, hW.at, sz_of (by have := ends_len goal W; omega), fun ys p hys np => ⟨?_, ?_⟩⟩
      · rw [L2.upd_ne (fun z => by subst z; rw [np] at hlk; cases hlk)]
        exact hlk
      have hpd : p ≠ d := fun z => by subst z; rw [np] at hlk; cases hlk
      obtain ⟨H5, eH5⟩ : ∃ H5, upd (upd H4 p (.lst ys)) d (DN P w d L) = H5 := ⟨_, rfl⟩
      have e45 : Ex (del H' d) (upd H4 p (.lst ys)) := eH4.trans (Ex.new np)
      have eH5' : Ex H' H5 := by rw [← eH5]; exact ex_lock hD.1 e45
      have hlk2 : upd H4 p (.lst ys) d = some (.frz od (DN P w d L)) := by rw [L2.upd_ne (fun z => hpd z.symm)]; exact hlk
      have hp5 : H5 p = some (.lst ys) := by rw [← eH5, L2.upd_ne hpd]; exact upd_same
      have hys5 : WaysAt H5 ys (sortW (endsF goal W)) := by rw [← eH5]; exact (hys.lk (Lk.ex (Ex.new np))).lk (Lk.frz hlk2)
      show tSeq _ _ _ _ _
      rw [eH5]
      have hD5 := hD.ex eH5'
      have hE5 := hE.lk (Lk.ex eH5')
      have hS5 := hS.ex eH5'
      refine q_when (b := !decide (sortW (endsF goal W) = [])) (et_test (ev_is (ev_neD (d := .list ((sortW (endsF goal W)).map intlD)) (e := .list (([] : List Way).map intlD)) (ed_any (ev_var rfl) (.lst (SqL.of hp5) hys5.dp)) (ed_lt (lt_lst (ds := []) ea_tn (by simp))) (sh_wayss _) (sh_wayss _)) (by rw [eqv_wayss]))) (fun hb H6 e6 => ?_) (fun hb H6 e6 => ?_)
      · have hne : sortW (endsF goal W) ≠ [] := by simpa using hb
        obtain ⟨r, er⟩ : ∃ r, (sortW (endsF goal W))[0]? = some r := by
          cases c : sortW (endsF goal W) with
          | nil => exact absurd c hne
          | cons a r => exact ⟨a, rfl⟩
        have hyl : 0 < ys.length := by
          have h1 : ys.length = (sortW (endsF goal W)).length := Paired.length hys5
          rw [h1]
          exact List.length_pos_iff.mpr hne
        obtain ⟨r2, er2, l, el, hl⟩ := L2.paired_get hys5 (List.getElem?_eq_getElem hyl)
        rw [er] at er2
        cases er2
        refine s_ret (v := .ref l) (ev_op (ev_var rfl) ev_c (rv_ixL (SqL.of (e6 _ _ hp5)) (atI_nat (j := 0) (by rw [List.getElem?_eq_getElem hyl, el])))) fun H7 e7 => qf i r l H7 (hfst r (sortW_min er)) (((eH.trans eH5').trans e6).trans e7) (hl.ex (e6.trans e7))
      have hbn : bestF goal W = none := by
        have : sortW (endsF goal W) = [] := by simpa using hb
        unfold bestF
        rw [sortW_nil.mp this]
        rfl
      have hno2 := hnb hbn
      -- seen
      have eH6 := eH.trans (eH5'.trans e6)
      have hD6 := hD5.ex e6
      have hE6 := hE5.lk (Lk.ex e6)
      have hS6 := hS5.ex e6
      have nd6 : e ≠ d := hed
      obtain ⟨φe, hφe⟩ := (hS6.delO (d := d) hD6.ext hed).del_ext
      obtain ⟨B, eB⟩ : ∃ B, del (del H6 d) e = B := ⟨_, rfl⟩
      have hBe : B e = none := by rw [← eB]; exact del_none
      have hBd : B d = none := by rw [← eB, del_ne (fun z => hed z.symm)]; exact del_none
      have hkB : KeysT B L := by rw [← eB]; exact (hD6.2.tk (tk_del hD6.ext)).tk (tk_del hφe)
      have eB6 : Ex B H6 := by rw [← eB]; exact del_ex.trans del_ex
      have hEB : EntsW H00 B L W := by rw [← eB]; exact (hE6.lk (Lk.del hD6.ext)).lk (Lk.del hφe)
      have hHB : Ex H B := by rw [← eB]; exact ex_del (ex_del eH6 ndH) neH
      have hdvB := dp_ex hHB hdv
      have hlvB := dp_ex hHB hlv
      have hkeys := hE6.keys
      refine q_forN (P := P) (w := w) (j := 5) (g := gName 9) (d := d) (L := L) rfl hD6 fun od2 => ⟨fun j σ' H'' => H'' d = some (.frz od2 (DN P w d L)) ∧ Ex B H'' ∧ ∃ y9, σ' = [some dv, some lv, some (.int n), some (.int start), some (.int goal), some (.ref d), some (.ref e), some (.int (i : Int)), some (.ref p), y9, y10, y11, y12] ∧ SeenK P w H'' e (Sp0 ++ (keysW W).take j), ⟨upd_same, Ex.mut eB6 hBd, _, rfl, by simpa using hS6.updX hD6.ext hed⟩, fun j σ' H'' h => h.1, fun j en σ' H'' hen hP => ?_, fun σ' H'' hP => ?_⟩
      · obtain ⟨hlk3, eB3, y9, rfl, hS3⟩ := hP
        have hki : (keysW W)[j]? = some en.1 := by rw [← hkeys, List.getElem?_map, hen]; rfl
        have hx : Td B (.ref en.2.1) (stateD en.1) := hkB _ (List.mem_of_getElem? hen)
        have hkm : en.1 ∈ keysW W := List.mem_of_getElem? hki
        have hil : j < (keysW W).length := (List.getElem?_eq_some_iff.mp hki).1
        have hnt : en.1 ∉ (keysW W).take j := fun z => by
          have hn := hwi.nd
          have e5 : keysW W = (keysW W).take j ++ en.1 :: (keysW W).drop (j + 1) := by
            have := (List.getElem?_eq_some_iff.mp hki).2
            rw [← this, ← List.drop_eq_getElem_cons hil, List.take_append_drop]
          rw [e5, List.nodup_append] at hn
          exact hn.2.2 _ z _ (by simp) rfl
        have hnew : en.1 ∉ Sp0 ++ (keysW W).take j := fun z => (List.mem_append.mp z).elim (hpn _ hkm) hnt
        have hlen : (Sp0 ++ (keysW W).take j).length ≤ 1920 := by
          have h1 : (Sp0 ++ keysW W).length = S.length := by rw [hpS]
          rw [List.length_append] at h1
          rw [List.length_append, List.length_take]
          omega
        show tAsg _ _ _ _ _
        refine s_setS hS3 (v := .bl true) ev_c (ev_var rfl) (ev_var rfl) (hx.ex eB3) (by omega) fun H7 φ o e7 h7 hS7 => ⟨by rw [L2.upd_ne (fun z => hed z.symm)]; exact e7 _ _ hlk3, Ex.mut (eB3.trans e7) hBe, _, rfl, ?_⟩
        rw [if_neg hnew] at hS7
        have : (keysW W).take (j + 1) = (keysW W).take j ++ [en.1] := by rw [List.take_succ, hki]; rfl
        rw [this, ← List.append_assoc]
        exact hS7
      obtain ⟨hlk3, eB3, y9, rfl, hS3⟩ := hP
      have hl : L.length = (keysW W).length := by rw [← hkeys, List.length_map]
      rw [hl, List.take_length, hpS] at hS3
      obtain ⟨H7, eH7⟩ : ∃ H7, upd H'' d (DN P w d L) = H7 := ⟨_, rfl⟩
      have eB7 : Ex B H7 := by rw [← eH7]; exact Ex.mut eB3 hBd
      have hD7 : SD P w H7 d L := ⟨by rw [← eH7]; exact upd_same, hkB.tk (Tk.ex eB7)⟩
      have hE7 : EntsW H00 H7 L W := hEB.lk (Lk.ex eB7)
      have hS7 : SeenK P w H7 e S := by rw [← eH7]; exact hS3.updF hlk3 hed
      rw [eH7]
      have eHH7 : Ex H H7 := hHB.trans eB7
      refine (show tSeq (tAsg (tDNewN P w) (gName 10)) _ _ _ _ from fun f nf => ?_)
      have hF1 : SD P w (upd H7 f (DN P w f [])) f [] := ⟨upd_same, fun p hp => absurd hp (by simp)⟩
      have hfd : f ≠ d := fun z => by
        subst z
        have := hD7.1
        rw [nf] at this
        cases this
      have hfe : f ≠ e := fun z => by
        subst z
        obtain ⟨φ, h⟩ := hS7.del_ext
        rw [nf] at h
        cases h
      have nfH : H f = none := fresh_back eHH7 nf
      obtain ⟨B2, eB2⟩ : ∃ B2, del H7 d = B2 := ⟨_, rfl⟩
      have hB2d : B2 d = none := by rw [← eB2]; exact del_none
      have hB2f : B2 f = none := by rw [← eB2]; exact del_fresh nf
      have hHB2 : Ex H B2 := by rw [← eB2]; exact ex_del eHH7 ndH
      have hE2 : EntsW H00 B2 L W := by rw [← eB2]; exact hE7.lk (Lk.del hD7.ext)
      have hk2 : KeysT B2 L := by rw [← eB2]; exact hD7.2.tk (tk_del hD7.ext)
      have hS2 : SeenK P w B2 e S := by rw [← eB2]; exact hS7.delO hD7.ext hed
      have eB2' : Ex B2 (upd H7 f (DN P w f [])) := by rw [← eB2]; exact del_ex.trans (Ex.new nf)
      have hdv2 := dp_ex hHB2 hdv
      have hlv2 := dp_ex hHB2 hlv
      refine q_forN (P := P) (w := w) (j := 5) (g := gName 9) (d := d) (L := L) rfl (hD7.ex (Ex.new nf)) fun od3 => ⟨fun j σ' H'' => H'' d = some (.frz od3 (DN P w d L)) ∧ Ex B2 H'' ∧ ∃ y9 y11 y12 LF, σ' = [some dv, some lv, some (.int n), some (.int start), some (.int goal), some (.ref d), some (.ref e), some (.int (i : Int)), some (.ref p), y9, some (.ref f), y11, y12] ∧ SD P w H'' f LF ∧ EntsW H00 H'' LF ((W.take j).foldl (stepW ds ks S) []) ∧ FV n ((W.take j).foldl (stepW ds ks S) []), ⟨upd_same, Ex.mut eB2' hB2d, _, _, _, [], rfl, hF1.updO (hD7.ex (Ex.new nf)).ext hfd, (show EntsW _ _ [] [] from Paired.nil), (show FV n [] from FV.nil n)⟩, fun j σ' H'' h => h.1, fun j en σ' H'' hen hP => ?_, fun σ' H'' hP => ?_⟩
      · obtain ⟨hlk4, eB4, y9, y11, y12, LF, rfl, hF, hEF, hFV⟩ := hP
        obtain ⟨⟨s2, wv⟩, hWi, hes, l, hval, hl0, hlT⟩ := hE2.get hen
        have hgs := getN_at hLn hen
        obtain ⟨⟨room, held⟩, kb, kv⟩ := en
        simp only at hes hval hgs
        subst hes
        subst hval
        have hx : Td B2 (.ref kb) (stateD (room, held)) := hk2 _ (List.mem_of_getElem? hen)
        obtain ⟨u0, t0, ev0⟩ := td_item (K := K) (j := 0) hx rfl
        obtain ⟨u1, t1, ev1⟩ := td_item (K := K) (j := 1) hx rfl
        cases t0
        have hlow := hwi.low _ (List.mem_of_getElem? hWi)
        obtain ⟨hwvl, hw0⟩ := hlow
        simp only at hwvl hw0
        obtain ⟨F0, eF0⟩ : ∃ F0, (W.take j).foldl (stepW ds ks S) [] = F0 := ⟨_, rfl⟩
        have hnxv : ∀ o ∈ nextS ds ks (room, held), VS n o := vs_steps hok.1
        have hfold := fold_take (stepW ds ks S) [] hWi
        rw [eF0] at hEF hFV hfold
        show tFor _ _ _ _ _ _
        refine s_forEL (K := K) (g := gName 11) (lt_l_stepsC (ds := ds) (ks := ks) (held := held) (ea_cons (ev_var rfl) (ea_cons (ev_var rfl) (ea_cons (ev0 eB4 (ev_var rfl) ev_c) (ea_cons (ev1 eB4 (ev_var rfl) ev_c) ea_nil)))) (dp_ex eB4 hdv2) (dp_ex eB4 hlv2) (t1.ex eB4).dp hok.2) fun pp xs8 H8 npp e8 hpp hpd => ⟨fun m σ' H'' => H'' d = some (.frz od3 (DN P w d L)) ∧ Ex B2 H'' ∧ H'' pp = some (.lst xs8) ∧ Tk H8 H'' ∧ ∃ y11 y12 LF, σ' = [some dv, some lv, some (.int n), some (.int start), some (.int goal), some (.ref d), some (.ref e), some (.int (i : Int)), some (.ref p), some (.ref kb), some (.ref f), y11, y12] ∧ SD P w H'' f LF ∧ EntsW H00 H'' LF (((nextS ds ks (room, held)).take m).foldl (addW S wv) F0) ∧ FV n (((nextS ds ks (room, held)).take m).foldl (addW S wv) F0), ⟨e8 _ _ hlk4, eB4.trans e8, hpp, Tk.refl _, y11, y12, LF, rfl, hF.ex e8, hEF.lk (Lk.ex e8), hFV⟩, fun m σ' H'' hP => ⟨hP.2.2.1, hP.2.2.2.1⟩, fun m dt x' σ' H'' hdj hx' hP => ?_, fun σ' H'' hP => ?_⟩
        · obtain ⟨hlk5, eB5, hpp5, tk5, y11, y12, LF, rfl, hF, hEF, hFV⟩ := hP
          rw [List.getElem?_map] at hdj
          obtain ⟨o, ho1, rfl⟩ := Option.map_eq_some_iff.mp hdj
          have hon : o ∈ nextS ds ks (room, held) := List.mem_of_getElem? ho1
          obtain ⟨ob, rfl⟩ : ∃ b, x' = .ref b := by
            have hx2 := hx'
            unfold stateD at hx2
            cases hx2
            exact ⟨_, rfl⟩
          obtain ⟨F, eF⟩ : ∃ F, ((nextS ds ks (room, held)).take m).foldl (addW S wv) F0 = F := ⟨_, rfl⟩
          have hfold2 := fold_take (addW S wv) F0 ho1
          rw [eF] at hEF hFV hfold2
          have hFl := hFV.len hn60
          have hLFl := hEF.len
          have hFV2 := hFV.add (S := S) (v := wv) (hnxv o hon)
          have hr2 : ∀ {H3 : Hp}, Ex H'' H3 → SDr P w H3 d L := fun e => ⟨.inr ⟨od3, e _ _ hlk5⟩, hk2.tk (Tk.ex (eB5.trans e))⟩
          show tIfS _ _ _ _ _ _
          refine s_when (b := !decide (o ∈ S)) (et_test (ev_niS (ev_var rfl) (ev_var rfl) hx' (hS2.ex eB5))) (fun hb H9 e9 => ?_) (fun hb H9 e9 => ⟨e9 _ _ hlk5, eB5.trans e9, e9 _ _ hpp5, tk5.trans (Tk.ex e9), _, _, LF, rfl, hF.ex e9, by rw [hfold2]; exact ents_same (hEF.lk (Lk.ex e9)) (by simpa using hb), by rw [hfold2]; exact hFV2⟩)
          rw [← hfold2] at hFV2
          have hnoS : o ∉ S := by simpa using hb
          have hxo := hx'.ex e9
          obtain ⟨u2, t2, ev2⟩ := td_item (K := K) (j := 0) hxo rfl
          cases t2
          have eB9 := eB5.trans e9
          refine q_asgLT (ds := (wv ++ [o.1]).map PyData.int) (by rw [List.map_append]; exact lt_cat (ev_getR (ev_var rfl) (ev_var rfl) (hx.ex eB9) (hr2 e9) hgs) (hlT.ex eB9) (lt_lst (ea_tc (td_int (ev2 (Ex.refl _) (ev_var rfl) ev_c)) ea_tn) (by simp)) (by simp; omega)) fun ll H10 nll e10 hll => ?_
          have e910 := e9.trans e10
          have hF10 := hF.ex e910
          refine s_setNP hF10 (ep_minget (F := F) (n := n) (wy := wv ++ [o.1]) (lw := ll) hF10 (hEF.lk (Lk.ex e910)) (ev_var rfl) (ev_var rfl) (hxo.ex e10) (ev_var rfl) (ev_var rfl) hll) (ev_var rfl) (ev_var rfl) (hxo.ex e10) (by omega) fun v Ha Hb ea pv eb hb11 hF11 => ?_
          obtain ⟨l2, rfl, hl2⟩ := pv
          have e911 := e910.trans (ea.trans eb)
          have hpp11 := e911 _ _ hpp5
          have hxt : Hb f = some (.ext fun h => RawN P w h f LF) := hb11
          refine ⟨by rw [L2.upd_ne (fun z => hfd z.symm)]; exact e911 _ _ hlk5, Ex.mut (eB5.trans e911) hB2f, by rw [L2.upd_ne (ne_of hpp11 hb11 (fun z => by cases z))]; exact hpp11, (tk5.trans (Tk.ex e911)).trans (Tk.ext hxt), _, _, _, rfl, hF11, ?_, hFV2⟩
          rw [hfold2, ← due_add (n := n) hFV.1 (way_lt hw0 hst.2) hnoS]
          exact ((hEF.lk (Lk.ex e911)).put rfl (hl2.ex eb)).lk (Lk.ext hxt)
        · obtain ⟨hlk5, eB5, hpp5, tk5, y11, y12, LF, rfl, hF, hEF, hFV⟩ := hP
          rw [List.length_map, List.take_length] at hEF hFV
          exact ⟨hlk5, eB5, _, _, _, LF, rfl, hF, by rw [hfold]; exact hEF, by rw [hfold]; exact hFV⟩
      · obtain ⟨hlk4, eB4, y9, y11, y12, LF, rfl, hF, hEF, hFV⟩ := hP
        rw [hE2.len, List.take_length] at hEF hFV
        have eB8 : Ex B2 (upd H'' d (DN P w d L)) := Ex.mut eB4 hB2d
        refine s_asg (ev_var rfl) fun H8 e8 => ⟨(hHB2.trans eB8).trans e8, f, LF, _, _, _, _, _, _, rfl, (hF.updF hlk4 hfd).ex e8, ?_, ?_, fun z => hfe z.symm, nfH, hno2⟩
        · rw [hnx]
          exact (hEF.lk (Lk.frz hlk4)).lk (Lk.ex e8)
        · show SeenK P w H8 e (wayAt ds ks start i).2
          rw [eS]
          exact hS2.ex (eB8.trans e8)
    · obtain ⟨eH, d, L, y7, y8, y9, y10, y11, y12, rfl, _, _, _, _, _, hno⟩ := hP
      exact s_ret ev_c fun H3 e3 => qn H3 (fun t ht => hno t (by omega)) (eH.trans e3)
end

section
variable {P : Program} {w : World} {K : PySem.W.Frag} {mg : Str → Option Value} {base : Heap}
/-! ### the rooms come to, as the law has them -/
theorem lt_if {σ : L2.St} {H : Hp} {t : TT} {ta tb : TE} {b : Bool} {ds : List PyData} (h : EvT t σ H b) (h1 : b = true → EvLT ta σ H ds) (h2 : b = false → EvLT tb σ H ds) : EvLT (tIf t ta tb) σ H ds := fun H1 e Q q => h H1 e _ fun H2 e2 => by
  cases b with
  | true =>
    show ta σ H2 Q
    exact h1 rfl H2 (e.trans e2) Q fun p H3 np e3 hp => q p H3 (fresh_back e2 np) (e2.trans e3) hp
  | false =>
    show tb σ H2 Q
    exact h2 rfl H2 (e.trans e2) Q fun p H3 np e3 hp => q p H3 (fresh_back e2 np) (e2.trans e3) hp
theorem due_open {n : Int} {ks : List Key2} {rooms : List Int} {d : Door} (hw : WfD n d) : dueD ks rooms d = if (!decide (decide (d.1 ∈ rooms) = decide (d.2.1 ∈ rooms))) = true then (if opensF d (heldOf ks rooms) = true then some (if d.1 ∈ rooms then d.2.1 else d.1) else none) else none := by
  unfold dueD
  rw [opens_heldOf hw]
  by_cases c : (!decide (decide (d.1 ∈ rooms) = decide (d.2.1 ∈ rooms))) = true
  · rw [if_pos c, if_pos c]
    by_cases c2 : lieF ks rooms d.2.2 = true
    · rw [if_pos c2, if_pos c2]
      congr 1
      by_cases c3 : d.1 ∈ rooms
      · rw [if_pos c3, if_pos c3]; omega
      · rw [if_neg c3, if_neg c3]; omega
    · rw [if_neg c2, if_neg c2]
  · rw [if_neg c, if_neg c]
theorem optL_or {a b : Option Int} : optL (a.or b) = if optL a = [] then optL b else optL a := by
  cases a with
  | none => simp [optL]
  | some r => simp [optL]
def sp_l_rooms (K : PySem.W.Frag) : Sp := fun vs H Q _ => ∃ (dv lv : V) (n start : Int) (ds : List Door) (ks : List Key2), vs = [dv, lv, .int start] ∧ Dp K H dv (.list (ds.map doorD)) ∧ Dp K H lv (.list (ks.map keyD)) ∧ DoorsOk n ds ∧ n ≤ 60 ∧ Here n start ∧
  ∀ R p H2, ComeOk n ds ks start R → Ex H H2 → LstT H2 p (R.map PyData.int) → Q (.ref p) H2
theorem ok_l_rooms (T : Txt K mg) : Kept P w K mg base 2 "_law_rooms" ["_law_doors_here", "_law_lying_here", "_law_start"] (sp_l_rooms K) := by
  refine T.d_l_rooms.kept sc_l_rooms (fun vs H Q E h => ?_) (fun cdv A outer s H vs Q E hr h => ?_)
  · obtain ⟨dv, lv, n, start, ds, ks, rfl, _⟩ := h
    rfl
  · obtain ⟨dv, lv, n, start, ds, ks, rfl, hdv, hlv, hok, hn60, hst, q⟩ := h
    refine ⟨_, (pss_cons (ps_set (i := 3) sc_l_rooms.nd rfl (Or.inl rfl) (pe_lst (pa_cons (pv 2) pa_nil)))
      (pss_cons (ps_set (i := 4) sc_l_rooms.nd rfl (Or.inl rfl) (pe_lst (pa_cons (pv 2) pa_nil)))
      (pss_cons (ps_set (i := 5) sc_l_rooms.nd rfl (Or.inl rfl) (pe_tup pa_nil))
      (pss_cons (ps_while (passes_of rfl) (pt_cmpR (op_neD_K (K := K) rfl hr.units) (pv 4) (pe_lst pa_nil) (nomark _))
        (pss_cons (ps_set (i := 5) sc_l_rooms.nd rfl (Or.inl rfl) (pe_fn (ok_l_taken (K := K) T) (hr.mono (by decide)) passL (by rfl) (pa_cons (pv 1) (pa_cons (pe_ix (ix_list_K (K := K) rfl) (pv 3) (pe_un un_neg pe_int) (fun _ _ => rfl)) (pa_cons (pv 5) pa_nil)))))
      (pss_cons (ps_set (i := 4) sc_l_rooms.nd rfl (Or.inl rfl) (pe_lst pa_nil))
      (pss_cons (ps_for (passes_of rfl) rfl (pi_list_K (K := K) rfl (pv 0)) (pg_tup_K (K := K) rfl (by rfl) (pgs_cons (pg_name (i := 6) sc_l_rooms.nd rfl (Or.inl rfl)) (pgs_cons (pg_name (i := 7) sc_l_rooms.nd rfl (Or.inl rfl)) (pgs_cons (pg_name (i := 8) sc_l_rooms.nd rfl (Or.inl rfl)) pgs_nil))))
        (pss_one (ps_if (PW.pt (pw_and (pt_cmpR (op_eqD_K (K := K) rfl hr.units) (pv 4) (pe_lst pa_nil) (nomark _)) (pw_and1 (pt_cmpR op_ne (pe_cmpR (op_in_seq_K (K := K) rfl) (pv 6) (pv 3) (by rfl)) (pe_cmpR (op_in_seq_K (K := K) rfl) (pv 7) (pv 3) (by rfl)) (nomark _)))))
        (pss_one (ps_if (PW.pt (pw_or (pt_cmpR op_isN (pv 8) pe_non (nomark _)) (pw_or1 (pt_cmpR (op_in_seq_K (K := K) rfl) (pv 8) (pv 5) (by rfl)))))
        (pss_one (ps_set (i := 4) sc_l_rooms.nd rfl (Or.inl rfl) (pe_ifExp (pt_cmpR (op_in_seq_K (K := K) rfl) (pv 6) (pv 3) (by rfl)) (pe_lst (pa_cons (pv 7) pa_nil)) (pe_lst (pa_cons (pv 6) pa_nil)))))
        pss_nil))
        pss_nil)))
      (pss_one (ps_set (i := 3) sc_l_rooms.nd rfl (Or.inl rfl) (pe_op op_cat (pv 3) (pv 4))))))))
      (pss_one (ps_ret (pv 3))))))), ?_⟩
    refine q_asgLT (ds := ([start] : List Int).map PyData.int) (lt_lst (ea_tc (td_int (ev_var rfl)) ea_tn) (by simp)) fun rp H1 nr e1 hrp => ?_
    refine q_asgLT (ds := ([start] : List Int).map PyData.int) (lt_lst (ea_tc (td_int (ev_var rfl)) ea_tn) (by simp)) fun mp H2 nm e2 hmp => ?_
    refine q_asgP (P := fun u H' => Td H' u (intsD [])) td_unit0 fun hv H3 e3 hhv => ?_
    have e03 := (e1.trans e2).trans e3
    refine q_while (fun m σ' H' => Ex H H' ∧ ∃ (R0 : List Int) (r : Int) (M : List Int) (rp mp : Addr) (hv : V) (y6 y7 y8 : Option V), σ' = [some dv, some lv, some (.int start), some (.ref rp), some (.ref mp), some hv, y6, y7, y8] ∧ LstT H' rp ((R0 ++ [r]).map PyData.int) ∧ LstT H' mp (M.map PyData.int) ∧ ComeI n ds ks start (R0 ++ [r]) ∧ (M = [] → dueF ds ks (R0 ++ [r]) = none) ∧ (M ≠ [] → Td H' hv (intsD (heldOf ks R0))) ∧ m = (100 - R0.length) * 2 + (if M = [] then 0 else 1)) 201
      ⟨e03, [], start, [start], rp, mp, hv, none, none, none, rfl, hrp.ex (e2.trans e3), hmp.ex e3, ComeI.one hst, (fun z => by cases z), (fun _ => by rw [heldOf_nil]; exact hhv), rfl⟩ fun m σ' H' hW => ?_
    obtain ⟨eH, R0, r, M, rp, mp, hv, y6, y7, y8, rfl, hR, hM, hI, hd0, hh, rfl⟩ := hW
    have hlen := hI.len
    have hR0 : R0.length + 1 ≤ 60 := by
      have h1 := hlen.1
      rw [List.length_append, List.length_singleton] at h1
      omega
    refine ⟨!decide (M = []), et_test (ev_is (ev_neD (d := intlD M) (e := intlD []) (ed_any (ev_var rfl) hM.dp) (ed_lt (lt_lst (ds := []) ea_tn (by simp))) (sh_intl _) (sh_intl _)) (by rw [eqv_intl])), fun hb H4 e4 => ?_, fun hb H4 e4 => ?_⟩
    · have hMne : M ≠ [] := by simpa using hb
      have hhv := hh hMne
      have eH4 := eH.trans e4
      refine ⟨fun σ' H' => Ex H H' ∧ ∃ (o : Option Int) (rp mp : Addr) (hv : V) (y6 y7 y8 : Option V), σ' = [some dv, some lv, some (.int start), some (.ref rp), some (.ref mp), some hv, y6, y7, y8] ∧ LstT H' rp ((R0 ++ [r] ++ optL o).map PyData.int) ∧ LstT H' mp ((optL o).map PyData.int) ∧ dueF ds ks (R0 ++ [r]) = o ∧ Td H' hv (intsD (heldOf ks (R0 ++ [r]))), fun σ2 H2 hN => ?_, ?_⟩
      · obtain ⟨eN, o, rp2, mp2, hv2, z6, z7, z8, rfl, h1, h2, h3, h4⟩ := hN
        cases o with
        | none =>
          refine ⟨(100 - R0.length) * 2, by rw [if_neg hMne]; omega, eN, R0, r, [], rp2, mp2, hv2, z6, z7, z8, rfl, by simpa [optL] using h1, h2, hI, fun _ => h3, fun z => absurd rfl z, by simp⟩
        | some r2 =>
          refine ⟨(100 - (R0 ++ [r]).length) * 2 + 1, by rw [if_neg hMne, List.length_append, List.length_singleton]; omega, eN, R0 ++ [r], r2, [r2], rp2, mp2, hv2, z6, z7, z8, rfl, h1, h2, hI.push hok.1 h3, (fun z => by cases z), (fun _ => h4), by simp⟩
      refine q_asgP (P := fun u H' => Td H' u (intsD (takenF ks r (heldOf ks R0)))) (td_l_takenC (ea_cons (ev_var rfl) (ea_cons (ev_of_td (td_ixLV (ds := (R0 ++ [r]).map PyData.int) (d := .int r) (i := -1) (ev_var rfl) (hR.ex e4) (ev_un ev_c ru_neg) (by rw [List.map_append]; exact atI_last _ _))) (ea_cons (ev_var rfl) ea_nil))) (dp_ex eH4 hlv) (hhv.ex e4).dp) fun hv2 H5 e5 hhv2 => ?_
      rw [taken_heldOf] at hhv2
      refine q_asgLT (ds := []) (lt_lst ea_tn (by simp)) fun mp2 H6 nm2 e6 hmp2 => ?_
      have e46 := (e4.trans e5).trans e6
      have eH6 := eH.trans e46
      obtain ⟨R, eR⟩ : ∃ R, R0 ++ [r] = R := ⟨_, rfl⟩
      rw [eR] at hR hhv2 hI ⊢
      have hR6 := hR.ex e46
      have hhv6 := hhv2.ex e6
      refine q_forV (K := K) (ds := ds.map doorD) (ev_var rfl) (dp_ex eH6 hdv) (Ex.refl H6) (fun i σ' H' => Ex H6 H' ∧ ∃ (mp : Addr) (y6 y7 y8 : Option V), σ' = [some dv, some lv, some (.int start), some (.ref rp), some (.ref mp), some hv2, y6, y7, y8] ∧ LstT H' mp ((optL ((ds.take i).findSome? (dueD ks R))).map PyData.int)) (fun H7 e7 => ⟨e7, mp2, _, _, _, rfl, by simpa [optL] using hmp2.ex e7⟩) (fun i σ' H' hP => hP.1) (fun i d x σ' H' hdi hx hP => ?_) (fun σ' H' hP => ?_)
      · obtain ⟨e7, mp, z6, z7, z8, rfl, hmp⟩ := hP
        rw [List.getElem?_map] at hdi
        obtain ⟨⟨d1, d2, d3⟩, hd1, rfl⟩ := Option.map_eq_some_iff.mp hdi
        have hwd := hok.1 _ (List.mem_of_getElem? hd1)
        obtain ⟨o, eo⟩ : ∃ o, (ds.take i).findSome? (dueD ks R) = o := ⟨_, rfl⟩
        have hfs := fs_succ (f := dueD ks R) hd1
        have hdo := due_open (ks := ks) (rooms := R) hwd
        simp only at hdo
        rw [eo] at hmp hfs
        cases hx with
        | tup ho hda =>
          rename_i b xs
          obtain ⟨x1, x2, x3, rfl, h1, h2, h3⟩ := dpAll3 hda
          cases dp_int_inv h1
          cases dp_int_inv h2
          refine ⟨b, _, rfl, ex_t e7 ho, rfl, _, _, rfl, _, _, rfl, _, _, rfl, rfl, ?_⟩
          dsimp only
          have hin : ∀ {σ : L2.St} {H' : Hp} {ta : TE} {j : Int}, Ex H6 H' → σ[3]? = some (some (.ref rp)) → Ev ta σ H' (.int j) → Ev (tOp (rIn K false) ta (tVar 3)) σ H' (.bl (decide (j ∈ R))) := fun e h hj => ev_inI hj (.inr (ed_any (ev_var h) (hR6.ex e).dp))
          refine s_when (b := decide (optL o = []) && !decide (decide (d1 ∈ R) = decide (d2 ∈ R))) (et_and (et_test (ev_is (ev_eqD (d := intlD (optL o)) (e := intlD []) (ed_any (ev_var rfl) hmp.dp) (ed_lt (lt_lst (ds := []) ea_tn (by simp))) (sh_intl _) (sh_intl _)) (by rw [eqv_intl]))) fun _ => et_test (ev_op (hin e7 rfl (ev_var rfl)) (hin e7 rfl (ev_var rfl)) rv_neB)) (fun hb2 H8 e8 => ?_) (fun hb2 H8 e8 => ⟨e7.trans e8, mp, _, _, _, rfl, ?_⟩)
          · have e78 := e7.trans e8
            rw [Bool.and_eq_true] at hb2
            have ho0 : optL o = [] := of_decide_eq_true hb2.1
            have ho1 := optL_nil.mp ho0
            refine s_when (b := opensF (d1, d2, d3) (heldOf ks R)) (et_open (ed_any (ev_var rfl) (dp_ex e78 h3)) (ed_any (ev_var rfl) (dp_ex e78 h3)) (ed_any (ev_var rfl) (hhv6.ex e78).dp)) (fun hb3 H9 e9 => ?_) (fun hb3 H9 e9 => ⟨e78.trans e9, mp, _, _, _, rfl, ?_⟩)
            · have e79 := e78.trans e9
              refine s_asgLT (ds := ([if d1 ∈ R then d2 else d1] : List Int).map PyData.int) (lt_if (b := decide (d1 ∈ R)) (et_test (hin e79 rfl (ev_var rfl))) (fun z => by rw [if_pos (of_decide_eq_true z)]; exact lt_lst (ea_tc (td_int (ev_var rfl)) ea_tn) (by simp)) (fun z => by rw [if_neg (of_decide_eq_false z)]; exact lt_lst (ea_tc (td_int (ev_var rfl)) ea_tn) (by simp))) fun mp9 H10 nm10 e10 hmp10 => ⟨e79.trans e10, mp9, _, _, _, rfl, ?_⟩
              rw [if_pos hb2.2, if_pos hb3] at hdo
              rw [hfs, ho1, hdo]
              exact hmp10
            · rw [if_pos hb2.2, if_neg (by rw [hb3]; simp)] at hdo
              rw [hfs, ho1, hdo]
              rw [ho1] at hmp
              exact hmp.ex (e8.trans e9)
          · rw [hfs, optL_or]
            by_cases c : optL o = []
            · rw [if_pos c]
              rw [decide_eq_true c, Bool.true_and] at hb2
              rw [if_neg (by rw [hb2]; simp)] at hdo
              rw [hdo]
              rw [c] at hmp
              exact hmp.ex e8
            · rw [if_neg c]
              exact hmp.ex e8
      · obtain ⟨e7, mp, z6, z7, z8, rfl, hmp⟩ := hP
        rw [List.length_map, List.take_length] at hmp
        obtain ⟨o, eo⟩ : ∃ o, dueF ds ks R = o := ⟨_, rfl⟩
        have eo2 : ds.findSome? (dueD ks R) = o := eo
        rw [eo2] at hmp
        have hol : (optL o).length ≤ 1 := by cases o <;> simp [optL]
        refine s_asgLT (ds := (R ++ optL o).map PyData.int) (by
          rw [List.map_append]
          refine fun H8 e8 Q q => ev_var rfl H8 e8 _ fun H9 e9 => ev_var rfl H9 (e8.trans e9) _ fun H10 e10 => ?_
          obtain ⟨xs, hxs, hxd⟩ := hR6.ex ((e7.trans (e8.trans e9)).trans e10)
          obtain ⟨zs, hzs, hzd⟩ := hmp.ex ((e8.trans e9).trans e10)
          have hRl : R.length ≤ 60 := by rw [← eR, List.length_append, List.length_singleton]; omega
          refine ⟨rp, mp, xs, zs, rfl, rfl, hxs, hzs, sz_of (by rw [hxd.len, hzd.len, List.length_map, List.length_map]; omega), fun p np => q p _ (fresh_back (e9.trans e10) np) ((e9.trans e10).trans (Ex.new np)) ⟨_, upd_same, TdAll.append (hxd.ex (Ex.new np)) (hzd.ex (Ex.new np))⟩⟩) fun rp2 H8 nr8 e8 hrp8 => ⟨(eH6.trans e7).trans e8, o, rp2, mp, hv2, _, _, _, rfl, hrp8, hmp.ex e8, eo, hhv6.ex (e7.trans e8)⟩
    · have hM0 : M = [] := by simpa using hb
      exact s_ret (ev_var rfl) fun H5 e5 => q (R0 ++ [r]) rp H5 ⟨hI, hd0 hM0⟩ ((eH.trans e4).trans e5) (hR.ex (e4.trans e5))
end

section
variable {P : Program} {w : World} {K : PySem.W.Frag} {mg : Str → Option Value} {base : Heap}
/-! ### what the guide gives, as data -/
theorem dp_walk {H : Hp} {p l : Addr} {r : Way} (hp : H p = some (.tup [.str "walk", .ref l])) (hl : LstT H l (r.map PyData.int)) : Dp K H (.ref p) (.tuple [.str "walk", intlD r]) := .tup (SqT.of hp) (.cons (.str _) (.cons hl.dp .nil))
theorem dp_shut {H : Hp} {p l : Addr} {hv : V} {R : List Int} {ks : List Key2} (hp : H p = some (.tup [.str "shut", .ref l, hv])) (hl : LstT H l (R.map PyData.int)) (hh : Td H hv (intsD (heldOf ks R))) : Dp K H (.ref p) (.tuple [.str "shut", intlD R, intsD (heldOf ks R)]) := .tup (SqT.of hp) (.cons (.str _) (.cons hl.dp (.cons hh.dp .nil)))
theorem ed_guideW {σ : L2.St} {H : Hp} {tr : TA} {E : XK} {n start goal : Int} {ds : List Door} {ks : List Key2} {t : Nat} {r : Way} (h : EaD K tr σ H [mazeF n ds ks, .int start, .int goal]) (hok : DoorsOk n ds) (h60 : n ≤ 60) (hst : Here n start) (hgo : Here n goal) (hF : FirstAt ds ks start goal t r) : EvD K (tCall (sp_guide K) [] E tr) σ H (.tuple [.str "walk", intlD r]) := fun H1 e Q q => h H1 e _ fun vs H2 e2 hvs => by
  obtain ⟨v, u, x, rfl, h1, h2, h3⟩ := dpAll3 hvs
  cases dp_int_inv h2
  cases dp_int_inv h3
  refine ⟨v, n, start, goal, ds, ks, rfl, h1, hok, h60, fun _ _ => ⟨fun t2 r2 p l H3 hF2 nl e3 hp hl => ?_, fun t2 R p l hv H3 hN hR nl e3 hp hl hhv => ?_⟩, fun z => absurd ⟨hst, hgo⟩ z⟩
  · have e := hF.uniq hF2
    subst e
    exact q _ H3 (e2.trans e3) (dp_walk hp hl)
  · exact (hF.no hN).elim
theorem ed_guideS {σ : L2.St} {H : Hp} {tr : TA} {E : XK} {n start goal : Int} {ds : List Door} {ks : List Key2} {t : Nat} {R : List Int} (h : EaD K tr σ H [mazeF n ds ks, .int start, .int goal]) (hok : DoorsOk n ds) (h60 : n ≤ 60) (hst : Here n start) (hgo : Here n goal) (hN : NoneAt ds ks start goal t) (hR : ComeOk n ds ks start R) : EvD K (tCall (sp_guide K) [] E tr) σ H (.tuple [.str "shut", intlD R, intsD (heldOf ks R)]) := fun H1 e Q q => h H1 e _ fun vs H2 e2 hvs => by
  obtain ⟨v, u, x, rfl, h1, h2, h3⟩ := dpAll3 hvs
  cases dp_int_inv h2
  cases dp_int_inv h3
  refine ⟨v, n, start, goal, ds, ks, rfl, h1, hok, h60, fun _ _ => ⟨fun t2 r2 p l H3 hF2 nl e3 hp hl => ?_, fun t2 R2 p l hv H3 hN2 hR2 nl e3 hp hl hhv => ?_⟩, fun z => absurd ⟨hst, hgo⟩ z⟩
  · exact (hF2.no hN).elim
  · have e := come_uniq hR hR2
    subst e
    exact q _ H3 (e2.trans e3) (dp_shut hp hl hhv)
theorem first_lt {n start goal : Int} {ds : List Door} {ks : List Key2} {t : Nat} {r : Way} (hw : ∀ d ∈ ds, WfD n d) (hs : Here n start) (h : FirstAt ds ks start goal t r) : t < n.toNat * 32 := ways_t (ks := ks) hw hs fun z => by
  have := h.2
  rw [z] at this
  cases this
theorem ep_callS {σ : L2.St} {H : Hp} {sp : Sp} {E : L2.St → XK} {tr : TA} {vs : List V} {Pd : V → Hp → Prop} (h : EvA tr σ H vs) (hs : ∀ H1, Ex H H1 → ∀ (Q : VK) (E' : XK), (∀ v H2, Ex H1 H2 → Pd v H2 → Q v H2) → sp vs H1 Q E') : EvP (tCallS sp E tr) σ H Pd := fun H1 e Q q => h H1 e _ fun H2 e2 => hs H2 (e.trans e2) Q (E σ) fun v H3 e3 p => q v H3 (e2.trans e3) p
theorem s_dropS {σ : L2.St} {H : Hp} {D : Ends} {sp : Sp} {E : L2.St → XK} {tr : TA} {ds : List PyData} (h : EaD K tr σ H ds) (k : ∀ vs H1, Ex H H1 → DpAll K H1 vs ds → sp vs H1 (fun _ H2 => D.nx σ H2) (E σ)) : tDrop (tCallS sp E tr) D σ H := h H (Ex.refl H) _ fun vs H1 e1 p => k vs H1 e1 p
end

section
variable {P : Program} {w : World} {K : PySem.W.Frag} {mg : Str → Option Value} {base : Heap}
/-! ### the rooms that are told -/
def sp_l_shut (K : PySem.W.Frag) : Sp := fun vs H Q _ => ∃ (p l : Addr) (hv dv lv : V) (n start : Int) (ds : List Door) (ks : List Key2) (R : List Int), vs = [.ref p, dv, lv, .int start] ∧ H p = some (.tup [.str "shut", .ref l, hv]) ∧ LstT H l (R.map PyData.int) ∧ Td H hv (intsD (heldOf ks R)) ∧ ComeOk n ds ks start R ∧ Dp K H dv (.list (ds.map doorD)) ∧ Dp K H lv (.list (ks.map keyD)) ∧ DoorsOk n ds ∧ n ≤ 60 ∧ Here n start ∧ ∀ H2, Ex H H2 → Q (.bl true) H2
theorem ok_l_shut (T : Txt K mg) : Kept P w K mg base 3 "_law_shut" ["_law_found", "_law_doors_here", "_law_lying_here", "_law_start"] (sp_l_shut K) := by
  refine T.d_l_shut.kept sc_l_shut (fun vs H Q E h => ?_) (fun cdv A outer s H vs Q E hr h => ?_)
  · obtain ⟨p, l, hv, dv, lv, n, start, ds, ks, R, rfl, _⟩ := h
    rfl
  · obtain ⟨p, l, hv, dv, lv, n, start, ds, ks, R, rfl, hp, hl, hhv, hR, hdv, hlv, hok, hn60, hst, q⟩ := h
    refine ⟨_, (pss_cons (ps_if (PW.pt (pw_or (pt_cmpR op_ne (pe_ix (ix_tup_K (K := K) rfl) (pv 0) pe_int (fun _ _ => rfl)) pe_str (nomark _)) (pw_or1 (pt_cmpR op_ne (pe_callB (call_len_seq_K (K := K) rfl) (by rfl) T.n_len (by decide +kernel) (pa_cons (pv 0) pa_nil)) pe_int (nomark _)))))
        (pss_one (ps_ret pe_bl))
        pss_nil)
      (pss_cons (ps_set (i := 4) sc_l_shut.nd rfl (Or.inl rfl) (pe_fn (ok_l_rooms (K := K) T) (hr.mono (by decide)) passL (by rfl) (pa_cons (pv 1) (pa_cons (pv 2) (pa_cons (pv 3) pa_nil)))))
      (pss_cons (ps_set (i := 5) sc_l_shut.nd rfl (Or.inl rfl) (pe_tup pa_nil))
      (pss_cons (ps_for (passes_of rfl) rfl (pi_list_K (K := K) rfl (pv 4)) (pg_name (i := 6) sc_l_shut.nd rfl (Or.inl rfl))
        (pss_one (ps_set (i := 5) sc_l_shut.nd rfl (Or.inl rfl) (pe_fn (ok_l_taken (K := K) T) (hr.mono (by decide)) passL (by rfl) (pa_cons (pv 2) (pa_cons (pv 6) (pa_cons (pv 5) pa_nil)))))))
      (pss_one (ps_ret (pe_and (pe_fn (ok_l_row (K := K) T) (hr.mono (by decide)) passL (by rfl) (pa_cons (pe_ix (ix_tup_K (K := K) rfl) (pv 0) pe_int (fun _ _ => rfl)) (pa_cons (pv 4) pa_nil))) (pe_one (pe_fn (ok_l_hand (K := K) T) (hr.mono (by decide)) passL (by rfl) (pa_cons (pe_ix (ix_tup_K (K := K) rfl) (pv 0) pe_int (fun _ _ => rfl)) (pa_cons (pv 5) pa_nil))))))))))), ?_⟩
    have hdp : Dp K H (.ref p) (.tuple [.str "shut", intlD R, intsD (heldOf ks R)]) := dp_shut hp hl hhv
    refine q_when (b := (!decide ((Str.ofString "shut") = (Str.ofString "shut"))) || !decide ((([.str "shut", intlD R, intsD (heldOf ks R)] : List PyData).length : Int) = 3)) (et_or (et_test (ev_op (ev_op (ev_var rfl) ev_c (rv_ixT (SqT.of hp) (atI_nat (j := 0) rfl))) ev_c rv_neS)) fun _ => et_test (ev_op (ev_lenD (K := K) (ed_any (ev_var rfl) hdp) (.inr rfl)) ev_c rv_neI)) (fun hb H1 e1 => ?_) (fun hb H1 e1 => ?_)
    · simp at hb
    refine q_asgA (vs := [dv, lv, .int start]) (ea_cons (ev_var rfl) (ea_cons (ev_var rfl) (ea_cons (ev_var rfl) ea_nil))) fun H2 e2 => ⟨dv, lv, n, start, ds, ks, rfl, dp_ex (e1.trans e2) hdv, dp_ex (e1.trans e2) hlv, hok, hn60, hst, fun R2 rp H3 hR2 e3 hrp => ?_⟩
    have e := come_uniq hR hR2
    subst e
    have e13 := (e1.trans e2).trans e3
    refine q_asgP (P := fun u H' => Td H' u (intsD [])) td_unit0 fun u H4 e4 hu => ?_
    have hrp4 := hrp.ex e4
    have e14 := e13.trans e4
    refine q_forV (K := K) (g := gName 6) (ev_var rfl) (hrp4.dp : Dp K H4 _ _) (Ex.refl H4) (fun i σ' H' => Ex H4 H' ∧ ∃ u y, σ' = [some (.ref p), some dv, some lv, some (.int start), some (.ref rp), some u, y] ∧ Td H' u (intsD (heldOf ks (R.take i)))) (fun H5 e5 => ⟨e5, u, none, rfl, by rw [List.take_zero, heldOf_nil]; exact hu.ex e5⟩) (fun i σ' H' hP => hP.1) (fun i d x σ' H' hdi hx hP => ?_) (fun σ' H' hP => ?_)
    · obtain ⟨eH, u, y, rfl, hu⟩ := hP
      rw [List.getElem?_map] at hdi
      obtain ⟨r, hri, rfl⟩ := Option.map_eq_some_iff.mp hdi
      cases dp_int_inv hx
      show tAsg _ _ _ _ _
      refine s_asgP (P := fun u H' => Td H' u (intsD (takenF ks r (heldOf ks (R.take i))))) (td_l_takenC (ea_cons (ev_var rfl) (ea_cons (ev_var rfl) (ea_cons (ev_var rfl) ea_nil))) (dp_ex (e14.trans eH) hlv) hu.dp) fun u2 H5 e5 hu2 => ⟨eH.trans e5, u2, _, rfl, ?_⟩
      have e : R.take (i + 1) = R.take i ++ [r] := by rw [List.take_succ, hri]; rfl
      rw [e, ← taken_heldOf]
      exact hu2
    · obtain ⟨eH, u, y, rfl, hu⟩ := hP
      rw [List.length_map, List.take_length] at hu
      have e1H := e14.trans eH
      have hp5 := e1H _ _ hp
      exact s_ret (v := .bl true) (ev_is (ev_andV (ev_call0 (ea_cons (ev_op (ev_var rfl) ev_c (rv_ixT (SqT.of hp5) (atI_nat (j := 1) rfl))) (ea_cons (ev_var rfl) ea_nil)) (sv_l_row (ns := R) (ms := R) (hl.ex e1H).dp (hrp4.ex eH).dp)) fun _ => ev_call0 (ea_cons (ev_op (ev_var rfl) ev_c (rv_ixT (SqT.of hp5) (atI_nat (j := 2) rfl))) (ea_cons (ev_var rfl) ea_nil)) (sv_l_hand (ns := heldOf ks R) (ms := heldOf ks R) (hhv.ex e1H).dp hu.dp)) (by simp)) fun H6 e6 => q H6 (e1H.trans e6)
theorem sv_l_shut {H : Hp} {p l : Addr} {hv dv lv : V} {n start : Int} {ds : List Door} {ks : List Key2} {R : List Int} (hp : H p = some (.tup [.str "shut", .ref l, hv])) (hl : LstT H l (R.map PyData.int)) (hh : Td H hv (intsD (heldOf ks R))) (hR : ComeOk n ds ks start R) (hd : Dp K H dv (.list (ds.map doorD))) (hm : Dp K H lv (.list (ks.map keyD))) (hok : DoorsOk n ds) (h60 : n ≤ 60) (hst : Here n start) : SpV (sp_l_shut K) [.ref p, dv, lv, .int start] H (.bl true) := fun H1 e Q q E => ⟨p, l, hv, dv, lv, n, start, ds, ks, R, rfl, e _ _ hp, hl.ex e, hh.ex e, hR, dp_ex e hd, dp_ex e hm, hok, h60, hst, q⟩
theorem ok_law (T : Txt K mg) {f : Addr} {fd : FuncData} (F : FunD K "law" "law" (defArgs s_law) (defBody s_law) (defScope s_law) [] [] f fd) : FnOk P w K mg base CX0 6 f fd ["_law_script"] (sp_law K) := by
  refine F.ok sc_law (fun vs H Q E h => ?_) (fun cdv A outer s H vs Q E hr h => ?_)
  · obtain ⟨a, ns, rfl, _⟩ := h
    rfl
  · obtain ⟨a, ns, rfl, hS, hl63, q⟩ := h
    refine ⟨_, (PSs.nox (pss_cons (ps_set (i := 1) sc_law.nd rfl (Or.inl rfl) (pe_fn (ok_l_size (K := K) T) (hr.mono (by decide)) passL (by rfl) (pa_cons (pv 0) pa_nil)))
      (pss_cons (ps_set (i := 2) sc_law.nd rfl (Or.inl rfl) (pe_fn (ok_l_doors (K := K) T) (hr.mono (by decide)) passL (by rfl) (pa_cons (pv 0) (pa_cons (pv 1) pa_nil))))
      (pss_cons (ps_set (i := 3) sc_law.nd rfl (Or.inl rfl) (pe_fn (ok_l_lying (K := K) T) (hr.mono (by decide)) passL (by rfl) (pa_cons (pv 0) (pa_cons (pv 1) pa_nil))))
      (pss_cons (ps_set (i := 4) sc_law.nd rfl (Or.inl rfl) (pe_op op_mod (pe_fn (ok_l_cell_at (K := K) T) (hr.mono (by decide)) passL (by rfl) (pa_cons (pv 0) (pa_cons pe_int pa_nil))) (pv 1)))
      (pss_cons (ps_set (i := 5) sc_law.nd rfl (Or.inl rfl) (pe_fn (ok_l_goal (K := K) T) (hr.mono (by decide)) passL (by rfl) (pa_cons (pv 0) (pa_cons (pv 1) pa_nil))))
      (pss_cut (ps_if (PW.pt (pw_and (pt_cmpR (op_in_seq_K (K := K) rfl) (pe_op op_mod (pe_fn (ok_l_cell_at (K := K) T) (hr.mono (by decide)) passL (by rfl) (pa_cons (pv 0) (pa_cons pe_int pa_nil))) pe_int) (pe_tup (pa_cons pe_int (pa_cons pe_int pa_nil))) (by rfl)) (pw_and1 (pt_cmpR op_gt (pe_op op_mod (pe_fn (ok_l_cell_at (K := K) T) (hr.mono (by decide)) passL (by rfl) (pa_cons (pv 0) (pa_cons pe_int pa_nil))) pe_int) pe_int (nomark _)))))
        (pss_one (ps_set (i := 4) sc_law.nd rfl (Or.inl rfl) pe_int))
        pss_nil)
      (pss_cons (ps_if (pt_cmpR op_eq (pe_op op_mod (pe_fn (ok_l_cell_at (K := K) T) (hr.mono (by decide)) passL (by rfl) (pa_cons (pv 0) (pa_cons pe_int pa_nil))) pe_int) pe_int (nomark _))
        (pss_cons (ps_try_only (Wout := fun _ _ _ _ => False) (by rfl) (by rfl) ⟨by rfl, by decide, .inl T.e_NoRoom.gC⟩ takes0x (fun W pn xe tk po => (pss_cons (ps_set (i := 6) sc_law.nd rfl (Or.inl rfl) (pe_fnS (ok_l_far (K := K) T) (hr.mono (by decide)) (fun st => passAt tk st) (pa_cons (pe_fnS (ok_l_cell_at (K := K) T) (hr.mono (by decide)) (fun st => passAt tk st) (pa_cons (pv 0) (pa_cons pe_int pa_nil))) (pa_cons (pv 1) pa_nil))))
      (pss_cut (ps_if (pt_cmpR op_eq (pe_op op_mod (pe_fnS (ok_l_cell_at (K := K) T) (hr.mono (by decide)) (fun st => passAt tk st) (pa_cons (pv 0) (pa_cons pe_int pa_nil))) pe_int) pe_int (nomark _))
        (pss_one (ps_set (i := 4) sc_law.nd rfl (Or.inl rfl) (pv 6)))
        pss_nil)
      (pss_one (ps_expr (pe_fnS (ok_guide (K := K) T) (hr.mono (by decide)) (fun st => passAt tk st) (pa_cons (pe_tup (pa_cons (pv 1) (pa_cons (pv 2) (pa_cons (pv 3) pa_nil)))) (pa_cons (pv 4) (pa_cons (pe_ix (ix_list_K (K := K) rfl) (pe_lst (pa_cons (pv 6) (pa_cons (pv 5) pa_nil))) (pe_op op_mod (pe_fnS (ok_l_cell_at (K := K) T) (hr.mono (by decide)) (fun st => passAt tk st) (pa_cons (pv 0) (pa_cons pe_int pa_nil))) pe_int) (fun _ _ => rfl)) pa_nil))))))))) (fun a oe cls dd pn _ _ => (pss_one (ps_ret pe_bl))))
      (pss_one (ps_ret pe_bl)))
        pss_nil)
      (pss_cons (ps_set (i := 7) sc_law.nd rfl (Or.inl rfl) (pe_fn (ok_guide (K := K) T) (hr.mono (by decide)) passL (by rfl) (pa_cons (pe_tup (pa_cons (pv 1) (pa_cons (pe_callTy (call_list_of_K (K := K) rfl) (by rfl) T.n_list (by decide +kernel) (pa_cons (pv 2) pa_nil)) (pa_cons (pe_callTy (call_list_of_K (K := K) rfl) (by rfl) T.n_list (by decide +kernel) (pa_cons (pv 3) pa_nil)) pa_nil)))) (pa_cons (pv 4) (pa_cons (pv 5) pa_nil)))))
      (pss_cons (ps_set (i := 8) sc_law.nd rfl (Or.inl rfl) (pe_fn (ok_l_due (K := K) T) (hr.mono (by decide)) passL (by rfl) (pa_cons (pv 2) (pa_cons (pv 3) (pa_cons (pv 1) (pa_cons (pv 4) (pa_cons (pv 5) pa_nil)))))))
      (pss_cons (ps_if (PW.pt (pw_or (pt_not (pt_val (pe_callB (call_isi_K (K := K) rfl) (by rfl) T.n_isinstance (by decide +kernel) (pa_cons (pv 7) (pa_cons (pe_bltn (v := .ty "tuple") (u := .type "tuple") (by rfl) T.n_tuple (by decide +kernel) rfl) pa_nil))))) (pw_or1 (pt_cmpR op_lt (pe_callB (call_len_seq_K (K := K) rfl) (by rfl) T.n_len (by decide +kernel) (pa_cons (pv 7) pa_nil)) pe_int (nomark _)))))
        (pss_one (ps_ret pe_bl))
        pss_nil)
      (pss_cut (ps_if (pt_cmpR op_isN (pv 8) pe_non (nomark _))
        (pss_one (ps_set (i := 9) sc_law.nd rfl (Or.inl rfl) (pe_fn (ok_l_shut (K := K) T) (hr.mono (by decide)) passL (by rfl) (pa_cons (pv 7) (pa_cons (pv 2) (pa_cons (pv 3) (pa_cons (pv 4) pa_nil)))))))
        (pss_one (ps_set (i := 9) sc_law.nd rfl (Or.inl rfl) (pe_and (pe_cmpR op_eq (pe_ix (ix_tup_K (K := K) rfl) (pv 7) pe_int (fun _ _ => rfl)) pe_str (nomark _)) (pe_one (pe_fn (ok_l_row (K := K) T) (hr.mono (by decide)) passL (by rfl) (pa_cons (pe_ix (ix_tup_K (K := K) rfl) (pv 7) pe_int (fun _ _ => rfl)) (pa_cons (pv 8) pa_nil))))))))
      (pss_cons (ps_if (pt_not (pt_val (pv 9)))
        (pss_one (ps_ret pe_bl))
        pss_nil)
      (pss_cons (ps_set (i := 10) sc_law.nd rfl (Or.inl rfl) (pe_callTy (call_list_of_K (K := K) rfl) (by rfl) T.n_list (by decide +kernel) (pa_cons (pe_ix (ix_tup_K (K := K) rfl) (pv 7) pe_int (fun _ _ => rfl)) pa_nil)))
      (pss_cons (ps_expr (pe_bm0_K (K := K) rfl PySem.F.plainAttrs_list PySem.F.slot_list_clear PySem.F.type_list_clear mt_clear (pe_ix (ix_tup_K (K := K) rfl) (pv 7) pe_int (fun _ _ => rfl))))
      (pss_one (ps_ret (pe_cmpR (op_eqD_K (K := K) rfl hr.units) (pe_ix (ix_tup_K (K := K) rfl) (pe_fn (ok_guide (K := K) T) (hr.mono (by decide)) passL (by rfl) (pa_cons (pe_tup (pa_cons (pv 1) (pa_cons (pe_callTy (call_list_of_K (K := K) rfl) (by rfl) T.n_list (by decide +kernel) (pa_cons (pv 2) pa_nil)) (pa_cons (pe_callTy (call_list_of_K (K := K) rfl) (by rfl) T.n_list (by decide +kernel) (pa_cons (pv 3) pa_nil)) pa_nil)))) (pa_cons (pv 4) (pa_cons (pv 5) pa_nil)))) pe_int (fun _ _ => rfl)) (pv 10) (nomark _))))))))))))))))))), ?_⟩
    refine q_asgA (vs := [.ref a]) (ea_cons (ev_var rfl) ea_nil) fun H1 e1 => ⟨a, ns, rfl, ex_l e1 hS, fun n hz H2 e2 => ?_⟩
    have e02 := e1.trans e2
    have hn1 : 1 ≤ n ∧ n ≤ 60 := ⟨hz.1, hz.2.1⟩
    refine q_asgA (vs := [.ref a, .int n]) (ea_cons (ev_var rfl) (ea_cons (ev_var rfl) ea_nil)) fun H3 e3 => ⟨a, ns, n, rfl, ex_l (e02.trans e3) hS, hz, hl63, fun ds hok dp H4 nd0 e4 hdl => ?_⟩
    have e04 := (e02.trans e3).trans e4
    refine q_asgA (vs := [.ref a, .int n]) (ea_cons (ev_var rfl) (ea_cons (ev_var rfl) ea_nil)) fun H5 e5 => ⟨a, ns, n, rfl, ex_l (e04.trans e5) hS, hz, hl63, fun ks hks lp H6 nlp e6 hlp => ?_⟩
    have e06 := (e04.trans e5).trans e6
    have hdl6 := hdl.ex (e5.trans e6)
    obtain ⟨start0, erm, hst0⟩ : ∃ start, cellAt ns 1 % n = start ∧ Here n start := ⟨_, rfl, mod_here (n := n) (by omega) _⟩
    refine q_asg (v := .int start0) ?_ fun H7 e7 => ?_
    · rw [← erm]
      exact ev_op (ev_call0 (ea_cons (ev_var rfl) (ea_cons ev_c ea_nil)) (sv_l_cell_at (ex_l e06 hS) (by decide))) (ev_var rfl) (rv_I (by omega))
    have e07 := e06.trans e7
    refine q_asgA (vs := [.ref a, .int n]) (ea_cons (ev_var rfl) (ea_cons (ev_var rfl) ea_nil)) fun H8 e8 => ⟨a, ns, n, rfl, ex_l (e07.trans e8) hS, hz, fun goal hgo H9 e9 => ?_⟩
    have e09 := (e07.trans e8).trans e9
    have e69 := (e7.trans e8).trans e9
    have cell : ∀ {σ : L2.St} {H' : Hp} {E : XK} (k : Int), 0 ≤ k → Ex H9 H' → σ[0]? = some (some (.ref a)) → Ev (tCall (sp_l_cell_at K) [] E (tCons (tVar 0) (tCons (tC (.int k)) tNil))) σ H' (.int (cellAt ns k)) := fun k hk e h => ev_call0 (ea_cons (ev_var h) (ea_cons ev_c ea_nil)) (sv_l_cell_at (ex_l (e09.trans e) hS) hk)
    refine q_cut (M := fun σ' H' => Ex H9 H' ∧ ∃ start, Here n start ∧ σ' = [some (.ref a), some (.int n), some (.ref dp), some (.ref lp), some (.int start), some (.int goal), none, none, none, none, none]) ?_ fun σ' H10 hM => ?_
    · exact s_when (b := decide (cellAt ns 0 % 12 ∈ [6, 8]) && decide ((0 : Int) < cellAt ns 2 % 4)) (et_and (et_test (ev_in2 (ev_op (cell 0 (by decide) (Ex.refl _) rfl) ev_c (rv_I (by walk_at "mz side"))))) fun _ => et_test (ev_op (ev_op (cell 2 (by decide) (Ex.refl _) rfl) ev_c (rv_I (by walk_at "mz side"))) ev_c rv_I0)) (fun _ H10 e10 => s_asg (v := .int 0) ev_c fun H11 e11 => ⟨e10.trans e11, 0, ⟨by omega, by omega⟩, rfl⟩) (fun _ H10 e10 => ⟨e10, start0, hst0, rfl⟩)
    obtain ⟨e10, start, hst, rfl⟩ := hM
    have hdl10 := hdl6.ex (e69.trans e10)
    have hlp10 := hlp.ex (e69.trans e10)
    refine q_when (b := decide (cellAt ns 2 % 12 = 11)) (et_test (ev_op (ev_op (cell 2 (by decide) e10 rfl) ev_c (rv_I (by walk_at "mz side"))) ev_c rv_eqI)) (fun _ H11 e11 => ?_) (fun _ H11 e11 => ?_)
    · dsimp only [tSeq]
      have cellS : ∀ {σ : L2.St} {H' : Hp} {E : L2.St → XK} (k : Int), 0 ≤ k → Ex H9 H' → σ[0]? = some (some (.ref a)) → Ev (tCallS (sp_l_cell_at K) E (tCons (tVar 0) (tCons (tC (.int k)) tNil))) σ H' (.int (cellAt ns k)) := fun k hk e h => ev_callS (ea_cons (ev_var h) (ea_cons ev_c ea_nil)) (sv_l_cell_at (ex_l (e09.trans e) hS) hk)
      have e911 := e10.trans e11
      refine s_asgP (P := fun v _ => ∃ far : Int, v = .int far ∧ ¬ Here n far) (ep_callS (vs := [.int (cellAt ns 2), .int n]) (ea_cons (cellS 2 (by decide) e911 rfl) (ea_cons (ev_var rfl) ea_nil)) fun H12 e12 Q' E' q' => ⟨cellAt ns 2, n, rfl, hn1.1, fun far hfar H13 e13 => q' _ H13 e13 ⟨far, rfl, hfar⟩⟩) fun fv H12 e12 hfv => ?_
      obtain ⟨far, rfl, hfar⟩ := hfv
      have e912 := e911.trans e12
      refine q_cut (M := fun σ' H' => Ex H12 H' ∧ ∃ start2, (cellAt ns 1 % 2 = 1 → start2 = far) ∧ σ' = [some (.ref a), some (.int n), some (.ref dp), some (.ref lp), some (.int start2), some (.int goal), some (.int far), none, none, none, none]) ?_ fun σ' H13 hM => ?_
      · exact s_when (b := decide (cellAt ns 1 % 2 = 1)) (et_test (ev_op (ev_op (cellS 1 (by decide) e912 rfl) ev_c (rv_I (by walk_at "mz side"))) ev_c rv_eqI)) (fun _ H13 e13 => s_asg (v := .int far) (ev_var rfl) fun H14 e14 => ⟨e13.trans e14, far, fun _ => rfl, rfl⟩) (fun hb H13 e13 => ⟨e13, start, fun z => absurd z (of_decide_eq_false hb), rfl⟩)
      obtain ⟨e13, start2, hs2, rfl⟩ := hM
      have e913 := e912.trans e13
      have hdl13 := hdl10.ex (e11.trans (e12.trans e13))
      have hlp13 := hlp10.ex (e11.trans (e12.trans e13))
      obtain ⟨g2, eg2⟩ : ∃ g2, ([far, goal] : List Int).getD (cellAt ns 1 % 2).toNat 0 = g2 := ⟨_, rfl⟩
      have hbad : ¬ (Here n start2 ∧ Here n g2) := fun z => by
        by_cases c : cellAt ns 1 % 2 = 1
        · rw [hs2 c] at z
          exact hfar z.1
        · have c0 : cellAt ns 1 % 2 = 0 := by omega
          rw [c0] at eg2
          rw [← eg2] at z
          exact hfar z.2
      refine s_dropS (K := K) (ds := [mazeF n ds ks, .int start2, .int g2]) (ea_dc (ed_tup (ds := [.int n, .list (ds.map doorD), .list (ks.map keyD)]) (ea_dc (ed_int (ev_var rfl)) (ea_dc (ed_any (ev_var rfl) hdl13.dp) (ea_dc (ed_any (ev_var rfl) hlp13.dp) ea_dn))) (by simp)) (ea_dc (ed_int (ev_var rfl)) (ea_dc (ed_int ?_) ea_dn))) fun vs H14 e14 hvs => ?_
      · rw [← eg2]
        exact ev_ixInts (ea_tc (td_int (ev_var rfl)) (ea_tc (td_int (ev_var rfl)) ea_tn)) (ev_op (cellS 1 (by decide) e913 rfl) ev_c (rv_I (by walk_at "mz side"))) (by omega) (by simp; omega)
      obtain ⟨v, u, x, rfl, h1, h2, h3⟩ := dpAll3 hvs
      cases dp_int_inv h2
      cases dp_int_inv h3
      refine ⟨v, n, start2, g2, ds, ks, rfl, h1, hok, hn1.2, fun hs hg => absurd ⟨hs, hg⟩ hbad, fun _ H15 e15 => ?_⟩
      refine ⟨true, T.m_NoRoom_NoRoom, fun _ a na => ?_, fun z => by cases z⟩
      exact s_ret ev_c fun H16 e16 => q H16
    have hdl11 := hdl10.ex e11
    have hlp11 := hlp10.ex e11
    have hargs : ∀ {σ : L2.St} {H' : Hp}, Ex H11 H' → σ[1]? = some (some (.int n)) → σ[2]? = some (some (.ref dp)) → σ[3]? = some (some (.ref lp)) → σ[4]? = some (some (.int start)) → σ[5]? = some (some (.int goal)) → LstT H' dp (ds.map doorD) → LstT H' lp (ks.map keyD) → True := fun _ _ _ _ _ _ _ _ => True.intro
    refine q_asgC (K := K) (ds := [mazeF n ds ks, .int start, .int goal]) (ea_dc (ed_tup (ds := [.int n, .list (ds.map doorD), .list (ks.map keyD)]) (ea_dc (ed_int (ev_var rfl)) (ea_dc (ed_lt (lt_list (ev_var rfl) hdl11)) (ea_dc (ed_lt (lt_list (ev_var rfl) hlp11)) ea_dn))) (by simp)) (ea_dc (ed_int (ev_var rfl)) (ea_dc (ed_int (ev_var rfl)) ea_dn))) fun vs H12 e12 hvs => ?_
    obtain ⟨v, u, x, rfl, h1, h2, h3⟩ := dpAll3 hvs
    cases dp_int_inv h2
    cases dp_int_inv h3
    refine ⟨v, n, start, goal, ds, ks, rfl, h1, hok, hn1.2, fun _ _ => ⟨fun t r p l H13 hF nl e13 hp hl => ?_, fun t R p l hv H13 hN hR nl e13 hp hl hhv => ?_⟩, fun z => absurd ⟨hst, hgo⟩ z⟩
    · have e1113 := e12.trans e13
      have nl11 : H11 l = none := fresh_back e12 nl
      refine q_asgA (vs := [.ref dp, .ref lp, .int n, .int start, .int goal]) (ea_cons (ev_var rfl) (ea_cons (ev_var rfl) (ea_cons (ev_var rfl) (ea_cons (ev_var rfl) (ea_cons (ev_var rfl) ea_nil))))) fun H14 e14 => ⟨.ref dp, .ref lp, n, start, goal, ds, ks, rfl, (hdl11.ex (e1113.trans e14)).dp, (hlp11.ex (e1113.trans e14)).dp, hok, hn1.1, hn1.2, hst, fun t2 r2 l2 H15 hF2 e15 hl2 => ?_, fun H15 hno e15 => ?_⟩
      · have er := hF.uniq hF2
        subst er
        have e1315 := e14.trans e15
        have hp15 := e1315 _ _ hp
        have hl15 := hl.ex e1315
        have hdp15 : Dp K H15 (.ref p) (.tuple [.str "walk", intlD r]) := dp_walk hp15 hl15
        refine q_when (b := (!true) || decide ((([.str "walk", intlD r] : List PyData).length : Int) < 2)) (et_or (et_not (et_B (ev_isiD (K := K) (n := "tuple") (ed_any (ev_var rfl) hdp15) (fun v H1 _ h => ty_tup h) (by decide +kernel)))) fun _ => et_test (ev_op (ev_lenD (K := K) (ed_any (ev_var rfl) hdp15) (.inr rfl)) ev_c rv_I0)) (fun hb H16 e16 => ?_) (fun hb H16 e16 => ?_)
        · simp at hb
        refine q_cut (M := fun σ' H' => Ex H16 H' ∧ σ' = [some (.ref a), some (.int n), some (.ref dp), some (.ref lp), some (.int start), some (.int goal), none, some (.ref p), some (.ref l2), some (.bl true), none]) ?_ fun σ' H17 hM => ?_
        · refine tif_cases (b := false) (et_test (ev_is (ev_isN (ev_var rfl)) (by simp))) (fun z => Bool.noConfusion z) (fun _ H17 e17 => ?_)
          have e1517 := e16.trans e17
          have hp17 := e1517 _ _ hp15
          exact s_asg (v := .bl true) (ev_is (ev_andV (ev_op (ev_op (ev_var rfl) ev_c (rv_ixT (SqT.of hp17) (atI_nat (j := 0) rfl))) ev_c rv_eqS) fun _ => ev_call0 (ea_cons (ev_op (ev_var rfl) ev_c (rv_ixT (SqT.of hp17) (atI_nat (j := 1) rfl))) (ea_cons (ev_var rfl) ea_nil)) (sv_l_row (ns := r) (ms := r) (hl15.ex e1517).dp (hl2.ex e1517).dp)) (by simp)) fun H18 e18 => ⟨e17.trans e18, rfl⟩
        obtain ⟨e17, rfl⟩ := hM
        refine q_when (b := !true) (et_not (et_B (ev_var rfl))) (fun z => Bool.noConfusion z) (fun _ H18 e18 => ?_)
        have e1518 := (e16.trans e17).trans e18
        have hp18 := e1518 _ _ hp15
        have hl18 := hl15.ex e1518
        refine q_asgLT (lt_list (ev_op (ev_var rfl) ev_c (rv_ixT (SqT.of hp18) (atI_nat (j := 1) rfl))) hl18) fun kp H19 nk e19 hkp => ?_
        obtain ⟨xs, hxs, _⟩ := hl18.ex e19
        refine q_clear (ev_op (ev_var rfl) ev_c (rv_ixT (SqT.of (e19 _ _ hp18)) (atI_nat (j := 1) rfl))) hxs fun H20 e20 hx20 => ?_
        have hkl : kp ≠ l := fun z => by
          subst z
          obtain ⟨ys, hys⟩ := hl18.at
          rw [nk] at hys
          cases hys
        have eu : Ex H11 (upd H20 l (.lst [])) := Ex.mut (((e1113.trans e1315).trans e1518).trans (e19.trans e20)) nl11
        have hdu := hdl11.ex eu
        have hlu := hlp11.ex eu
        exact s_ret (v := .bl true) (ev_is (ev_eqD (d := intlD r) (e := intlD r) (ed_ixT (ds := [.str "walk", intlD r]) (ed_guideW (ea_dc (ed_tup (ds := [.int n, .list (ds.map doorD), .list (ks.map keyD)]) (ea_dc (ed_int (ev_var rfl)) (ea_dc (ed_lt (lt_list (ev_var rfl) hdu)) (ea_dc (ed_lt (lt_list (ev_var rfl) hlu)) ea_dn))) (by simp)) (ea_dc (ed_int (ev_var rfl)) (ea_dc (ed_int (ev_var rfl)) ea_dn))) hok hn1.2 hst hgo hF) ev_c atI1) (ed_any (ev_var rfl) ((hkp.ex e20).upd_ne hx20 hkl).dp) (sh_intl r) (sh_intl r)) (by rw [eqv_self (nb_intl r)])) fun H21 e21 => q H21
      · have h1 := first_lt hok.1 hst hF
        have h2 := hF.2
        rw [hno t h1] at h2
        cases h2
    · have e1113 := e12.trans e13
      have nl11 : H11 l = none := fresh_back e12 nl
      refine q_asgA (vs := [.ref dp, .ref lp, .int n, .int start, .int goal]) (ea_cons (ev_var rfl) (ea_cons (ev_var rfl) (ea_cons (ev_var rfl) (ea_cons (ev_var rfl) (ea_cons (ev_var rfl) ea_nil))))) fun H14 e14 => ⟨.ref dp, .ref lp, n, start, goal, ds, ks, rfl, (hdl11.ex (e1113.trans e14)).dp, (hlp11.ex (e1113.trans e14)).dp, hok, hn1.1, hn1.2, hst, fun t2 r2 l2 H15 hF2 e15 hl2 => (hF2.no hN).elim, fun H15 _ e15 => ?_⟩
      have e1315 := e14.trans e15
      have hp15 := e1315 _ _ hp
      have hl15 := hl.ex e1315
      have hh15 := hhv.ex e1315
      have hdp15 : Dp K H15 (.ref p) (.tuple [.str "shut", intlD R, intsD (heldOf ks R)]) := dp_shut hp15 hl15 hh15
      refine q_when (b := (!true) || decide ((([.str "shut", intlD R, intsD (heldOf ks R)] : List PyData).length : Int) < 2)) (et_or (et_not (et_B (ev_isiD (K := K) (n := "tuple") (ed_any (ev_var rfl) hdp15) (fun v H1 _ h => ty_tup h) (by decide +kernel)))) fun _ => et_test (ev_op (ev_lenD (K := K) (ed_any (ev_var rfl) hdp15) (.inr rfl)) ev_c rv_I0)) (fun hb H16 e16 => ?_) (fun hb H16 e16 => ?_)
      · simp at hb
      refine q_cut (M := fun σ' H' => Ex H16 H' ∧ σ' = [some (.ref a), some (.int n), some (.ref dp), some (.ref lp), some (.int start), some (.int goal), none, some (.ref p), some .non, some (.bl true), none]) ?_ fun σ' H17 hM => ?_
      · refine tif_cases (b := true) (et_test (ev_is (ev_isN (ev_var rfl)) (by simp))) (fun _ H17 e17 => ?_) (fun z => Bool.noConfusion z)
        have e1517 := e16.trans e17
        have e1117 := (e1113.trans e1315).trans e1517
        exact s_asg (v := .bl true) (ev_call0 (ea_cons (ev_var rfl) (ea_cons (ev_var rfl) (ea_cons (ev_var rfl) (ea_cons (ev_var rfl) ea_nil)))) (sv_l_shut (dv := .ref dp) (lv := .ref lp) (e1517 _ _ hp15) (hl15.ex e1517) (hh15.ex e1517) hR (hdl11.ex e1117).dp (hlp11.ex e1117).dp hok hn1.2 hst)) fun H18 e18 => ⟨e17.trans e18, rfl⟩
      obtain ⟨e17, rfl⟩ := hM
      refine q_when (b := !true) (et_not (et_B (ev_var rfl))) (fun z => Bool.noConfusion z) (fun _ H18 e18 => ?_)
      have e1518 := (e16.trans e17).trans e18
      have hp18 := e1518 _ _ hp15
      have hl18 := hl15.ex e1518
      refine q_asgLT (lt_list (ev_op (ev_var rfl) ev_c (rv_ixT (SqT.of hp18) (atI_nat (j := 1) rfl))) hl18) fun kp H19 nk e19 hkp => ?_
      obtain ⟨xs, hxs, _⟩ := hl18.ex e19
      refine q_clear (ev_op (ev_var rfl) ev_c (rv_ixT (SqT.of (e19 _ _ hp18)) (atI_nat (j := 1) rfl))) hxs fun H20 e20 hx20 => ?_
      have hkl : kp ≠ l := fun z => by
        subst z
        obtain ⟨ys, hys⟩ := hl18.at
        rw [nk] at hys
        cases hys
      have eu : Ex H11 (upd H20 l (.lst [])) := Ex.mut (((e1113.trans e1315).trans e1518).trans (e19.trans e20)) nl11
      have hdu := hdl11.ex eu
      have hlu := hlp11.ex eu
      exact s_ret (v := .bl true) (ev_is (ev_eqD (d := intlD R) (e := intlD R) (ed_ixT (ds := [.str "shut", intlD R, intsD (heldOf ks R)]) (ed_guideS (ea_dc (ed_tup (ds := [.int n, .list (ds.map doorD), .list (ks.map keyD)]) (ea_dc (ed_int (ev_var rfl)) (ea_dc (ed_lt (lt_list (ev_var rfl) hdu)) (ea_dc (ed_lt (lt_list (ev_var rfl) hlu)) ea_dn))) (by simp)) (ea_dc (ed_int (ev_var rfl)) (ea_dc (ed_int (ev_var rfl)) ea_dn))) hok hn1.2 hst hgo hN hR) ev_c atI1) (ed_any (ev_var rfl) ((hkp.ex e20).upd_ne hx20 hkl).dp) (sh_intl R) (sh_intl R)) (by rw [eqv_self (nb_intl R)])) fun H21 e21 => q H21
end

set_option maxHeartbeats 0

/-! ### the head -/
section
variable {K : PySem.W.Frag} {h : Heap} {mg : Str → Option Value}
def faL : List Fx := ([.fa (.free "abs"), .fa (.free "bool"), .fa (.free "int"), .fa (.free "isinstance"), .fa (.free "len"), .fa (.free "list"), .fa (.free "min"), .fa (.free "range"), .fa (.free "sorted"), .fa (.free "tuple"), .fa (.int "KINDS" 5), .fa (.glo "MazeError"), .fa (.exc "MazeError"), .fa (.glo "NoRoom"), .fa (.exc "NoRoom"), .fa (.exm "NoRoom" "MazeError" true), .fa (.exm "NoRoom" "NoRoom" true), .fa (.glo "need_room"), .fa (.glo "taken"), .fa (.glo "opens"), .fa (.glo "steps"), .fa (.glo "room_more"), .fa (.glo "come"), .fa (.glo "hand"), .fa (.glo "least"), .fa (.glo "onward"), .fa (.glo "guide"), .fa (.glo "_law_mix"), .fa (.glo "_law_whole"), .fa (.glo "_law_cell_at")] : List Fx) ++ ([.fa (.glo "_law_size"), .fa (.glo "_law_lock"), .fa (.glo "_law_rank"), .fa (.glo "_law_ranks"), .fa (.glo "_law_many"), .fa (.glo "_law_mixed"), .fa (.glo "_law_built"), .fa (.glo "_law_doors"), .fa (.glo "_law_lying"), .fa (.glo "_law_taken"), .fa (.glo "_law_steps"), .fa (.glo "_law_hand"), .fa (.glo "_law_row"), .fa (.glo "_law_due"), .fa (.glo "_law_rooms"), .fa (.glo "_law_shut"), .fa (.glo "_law_goal"), .fa (.glo "_law_far"), .fa (.glo "law")] : List Fx)
def fnL : List He.DefD := ([⟨("need_room", none), "need_room", "need_room", defArgs s_need_room, defBody s_need_room, defScope s_need_room, [], []⟩, ⟨("taken", none), "taken", "taken", defArgs s_taken, defBody s_taken, defScope s_taken, [], []⟩, ⟨("opens", none), "opens", "opens", defArgs s_opens, defBody s_opens, defScope s_opens, [], []⟩, ⟨("steps", none), "steps", "steps", defArgs s_steps, defBody s_steps, defScope s_steps, [], []⟩, ⟨("room_more", none), "room_more", "room_more", defArgs s_room_more, defBody s_room_more, defScope s_room_more, [], []⟩, ⟨("come", none), "come", "come", defArgs s_come, defBody s_come, defScope s_come, [], []⟩, ⟨("hand", none), "hand", "hand", defArgs s_hand, defBody s_hand, defScope s_hand, [], []⟩, ⟨("least", none), "least", "least", defArgs s_least, defBody s_least, defScope s_least, [], []⟩, ⟨("onward", none), "onward", "onward", defArgs s_onward, defBody s_onward, defScope s_onward, [], []⟩, ⟨("guide", none), "guide", "guide", defArgs s_guide, defBody s_guide, defScope s_guide, [], []⟩, ⟨("_law_mix", none), "_law_mix", "_law_mix", defArgs s_l_mix, defBody s_l_mix, defScope s_l_mix, [], []⟩, ⟨("_law_whole", none), "_law_whole", "_law_whole", defArgs s_l_whole, defBody s_l_whole, defScope s_l_whole, [], []⟩, ⟨("_law_cell_at", none), "_law_cell_at", "_law_cell_at", defArgs s_l_cell_at, defBody s_l_cell_at, defScope s_l_cell_at, [], []⟩, ⟨("_law_size", none), "_law_size", "_law_size", defArgs s_l_size, defBody s_l_size, defScope s_l_size, [], []⟩, ⟨("_law_lock", none), "_law_lock", "_law_lock", defArgs s_l_lock, defBody s_l_lock, defScope s_l_lock, [], []⟩, ⟨("_law_rank", none), "_law_rank", "_law_rank", defArgs s_l_rank, defBody s_l_rank, defScope s_l_rank, [], []⟩, ⟨("_law_ranks", none), "_law_ranks", "_law_ranks", defArgs s_l_ranks, defBody s_l_ranks, defScope s_l_ranks, [], []⟩, ⟨("_law_many", none), "_law_many", "_law_many", defArgs s_l_many, defBody s_l_many, defScope s_l_many, [], []⟩, ⟨("_law_mixed", none), "_law_mixed", "_law_mixed", defArgs s_l_mixed, defBody s_l_mixed, defScope s_l_mixed, [], []⟩, ⟨("_law_built", none), "_law_built", "_law_built", defArgs s_l_built, defBody s_l_built, defScope s_l_built, [], []⟩, ⟨("_law_doors", none), "_law_doors", "_law_doors", defArgs s_l_doors, defBody s_l_doors, defScope s_l_doors, [], []⟩, ⟨("_law_lying", none), "_law_lying", "_law_lying", defArgs s_l_lying, defBody s_l_lying, defScope s_l_lying, [], []⟩, ⟨("_law_taken", none), "_law_taken", "_law_taken", defArgs s_l_taken, defBody s_l_taken, defScope s_l_taken, [], []⟩, ⟨("_law_steps", none), "_law_steps", "_law_steps", defArgs s_l_steps, defBody s_l_steps, defScope s_l_steps, [], []⟩, ⟨("_law_hand", none), "_law_hand", "_law_hand", defArgs s_l_hand, defBody s_l_hand, defScope s_l_hand, [], []⟩, ⟨("_law_row", none), "_law_row", "_law_row", defArgs s_l_row, defBody s_l_row, defScope s_l_row, [], []⟩, ⟨("_law_due", none), "_law_due", "_law_due", defArgs s_l_due, defBody s_l_due, defScope s_l_due, [], []⟩, ⟨("_law_rooms", none), "_law_rooms", "_law_rooms", defArgs s_l_rooms, defBody s_l_rooms, defScope s_l_rooms, [], []⟩, ⟨("_law_shut", none), "_law_shut", "_law_shut", defArgs s_l_shut, defBody s_l_shut, defScope s_l_shut, [], []⟩, ⟨("_law_goal", none), "_law_goal", "_law_goal", defArgs s_l_goal, defBody s_l_goal, defScope s_l_goal, [], []⟩] : List He.DefD) ++ ([⟨("_law_far", none), "_law_far", "_law_far", defArgs s_l_far, defBody s_l_far, defScope s_l_far, [], []⟩, ⟨("law", none), "law", "law", defArgs s_law, defBody s_law, defScope s_law, [], []⟩] : List He.DefD)
theorem txt_of (X : K.In h) (G : h.Ns mainGlobals mg) (c : SaysX faL fnL K) : Txt K mg where
  n_abs := He.free_ok X G (c.fact 0 (f := .fa (.free "abs")) rfl)
  n_bool := He.free_ok X G (c.fact 1 (f := .fa (.free "bool")) rfl)
  n_int := He.free_ok X G (c.fact 2 (f := .fa (.free "int")) rfl)
  n_isinstance := He.free_ok X G (c.fact 3 (f := .fa (.free "isinstance")) rfl)
  n_len := He.free_ok X G (c.fact 4 (f := .fa (.free "len")) rfl)
  n_list := He.free_ok X G (c.fact 5 (f := .fa (.free "list")) rfl)
  n_min := He.free_ok X G (c.fact 6 (f := .fa (.free "min")) rfl)
  n_range := He.free_ok X G (c.fact 7 (f := .fa (.free "range")) rfl)
  n_sorted := He.free_ok X G (c.fact 8 (f := .fa (.free "sorted")) rfl)
  n_tuple := He.free_ok X G (c.fact 9 (f := .fa (.free "tuple")) rfl)
  i_KINDS := He.int_ok X G (c.fact 10 (f := .fa (.int "KINDS" 5)) rfl)
  e_MazeError := excT_ok X G (c.fact 11 (f := .fa (.glo "MazeError")) rfl) (c.fact 12 (f := .fa (.exc "MazeError")) rfl)
  e_NoRoom := excT_ok X G (c.fact 13 (f := .fa (.glo "NoRoom")) rfl) (c.fact 14 (f := .fa (.exc "NoRoom")) rfl)
  m_NoRoom_MazeError := He.exm_ok (c.fact 15 (f := .fa (.exm "NoRoom" "MazeError" true)) rfl)
  m_NoRoom_NoRoom := He.exm_ok (c.fact 16 (f := .fa (.exm "NoRoom" "NoRoom" true)) rfl)
  d_need_room := c.dfn X G 0 17 rfl rfl fun _ _ _ _ _ _ us hl => match us, hl with | [_, _], _ => rfl
  d_taken := c.dfn X G 1 18 rfl rfl fun _ _ _ _ _ _ us hl => match us, hl with | [_, _, _], _ => rfl
  d_opens := c.dfn X G 2 19 rfl rfl fun _ _ _ _ _ _ us hl => match us, hl with | [_, _], _ => rfl
  d_steps := c.dfn X G 3 20 rfl rfl fun _ _ _ _ _ _ us hl => match us, hl with | [_, _, _], _ => rfl
  d_room_more := c.dfn X G 4 21 rfl rfl fun _ _ _ _ _ _ us hl => match us, hl with | [_, _, _], _ => rfl
  d_come := c.dfn X G 5 22 rfl rfl fun _ _ _ _ _ _ us hl => match us, hl with | [_, _], _ => rfl
  d_hand := c.dfn X G 6 23 rfl rfl fun _ _ _ _ _ _ us hl => match us, hl with | [_, _], _ => rfl
  d_least := c.dfn X G 7 24 rfl rfl fun _ _ _ _ _ _ us hl => match us, hl with | [_, _], _ => rfl
  d_onward := c.dfn X G 8 25 rfl rfl fun _ _ _ _ _ _ us hl => match us, hl with | [_, _, _], _ => rfl
  d_guide := c.dfn X G 9 26 rfl rfl fun _ _ _ _ _ _ us hl => match us, hl with | [_, _, _], _ => rfl
  d_l_mix := c.dfn X G 10 27 rfl rfl fun _ _ _ _ _ _ us hl => match us, hl with | [_, _], _ => rfl
  d_l_whole := c.dfn X G 11 28 rfl rfl fun _ _ _ _ _ _ us hl => match us, hl with | [_], _ => rfl
  d_l_cell_at := c.dfn X G 12 29 rfl rfl fun _ _ _ _ _ _ us hl => match us, hl with | [_, _], _ => rfl
  d_l_size := c.dfn X G 13 30 rfl rfl fun _ _ _ _ _ _ us hl => match us, hl with | [_], _ => rfl
  d_l_lock := c.dfn X G 14 31 rfl rfl fun _ _ _ _ _ _ us hl => match us, hl with | [_], _ => rfl
  d_l_rank := c.dfn X G 15 32 rfl rfl fun _ _ _ _ _ _ us hl => match us, hl with | [_, _], _ => rfl
  d_l_ranks := c.dfn X G 16 33 rfl rfl fun _ _ _ _ _ _ us hl => match us, hl with | [_, _], _ => rfl
  d_l_many := c.dfn X G 17 34 rfl rfl fun _ _ _ _ _ _ us hl => match us, hl with | [_, _], _ => rfl
  d_l_mixed := c.dfn X G 18 35 rfl rfl fun _ _ _ _ _ _ us hl => match us, hl with | [_, _], _ => rfl
  d_l_built := c.dfn X G 19 36 rfl rfl fun _ _ _ _ _ _ us hl => match us, hl with | [_, _], _ => rfl
  d_l_doors := c.dfn X G 20 37 rfl rfl fun _ _ _ _ _ _ us hl => match us, hl with | [_, _], _ => rfl
  d_l_lying := c.dfn X G 21 38 rfl rfl fun _ _ _ _ _ _ us hl => match us, hl with | [_, _], _ => rfl
  d_l_taken := c.dfn X G 22 39 rfl rfl fun _ _ _ _ _ _ us hl => match us, hl with | [_, _, _], _ => rfl
  d_l_steps := c.dfn X G 23 40 rfl rfl fun _ _ _ _ _ _ us hl => match us, hl with | [_, _, _, _], _ => rfl
  d_l_hand := c.dfn X G 24 41 rfl rfl fun _ _ _ _ _ _ us hl => match us, hl with | [_, _], _ => rfl
  d_l_row := c.dfn X G 25 42 rfl rfl fun _ _ _ _ _ _ us hl => match us, hl with | [_, _], _ => rfl
  d_l_due := c.dfn X G 26 43 rfl rfl fun _ _ _ _ _ _ us hl => match us, hl with | [_, _, _, _, _], _ => rfl
  d_l_rooms := c.dfn X G 27 44 rfl rfl fun _ _ _ _ _ _ us hl => match us, hl with | [_, _, _], _ => rfl
  d_l_shut := c.dfn X G 28 45 rfl rfl fun _ _ _ _ _ _ us hl => match us, hl with | [_, _, _, _], _ => rfl
  d_l_goal := c.dfn X G 29 46 rfl rfl fun _ _ _ _ _ _ us hl => match us, hl with | [_, _], _ => rfl
  d_l_far := c.dfn X G 30 47 rfl rfl fun _ _ _ _ _ _ us hl => match us, hl with | [_, _], _ => rfl
  d_law := c.dfn X G 31 48 rfl rfl fun _ _ _ _ _ _ us hl => match us, hl with | [_], _ => rfl
end
abbrev Rrow : PySem.W.OpenRow := PySem.W.OpenLaw.row PySem.Challenge.rw_mazeguide_k10_the_least_walk
abbrev hkL : PySem.W.Hook := hookX 4 faL fnL
def looseL : List Str := (["need_room", "taken", "opens", "steps", "room_more", "come", "hand", "least", "onward", "guide", "_law_mix", "_law_whole", "_law_cell_at", "_law_size", "_law_lock", "_law_rank", "_law_ranks", "_law_many", "_law_mixed", "_law_built", "_law_doors", "_law_lying", "_law_taken", "_law_steps", "_law_hand", "_law_row", "_law_due", "_law_rooms", "_law_shut", "_law_goal"] : List Str) ++ (["_law_far", "MazeError", "NoRoom", "KINDS"] : List Str)
def obL (s : PySem.W.SharedT) : He.AlD := obsXG 4 faL fnL (HandSHeadRun.getT s)
theorem obL_eq (s : PySem.W.SharedT) : obL s = hkL.obs s.abs := obsXG_eq (HandSHeadRun.getT_eq s)
theorem runL (w : World) : HandSHeadRun.RunEq Rrow (PySem.W.view Rrow.prog [39]) hkL obL 6000 looseL w := by
  intro os
  kernel_rfl
theorem law_fn {P : Program} {w : World} {K : PySem.W.Frag} {h : Heap} {mg : Str → Option Value} {f : Addr} (X : K.In h) (G : h.Ns mainGlobals mg) (hfa : mg ("law" : Str) = some (.ref f)) (c : SaysX faL fnL K) :
    ∃ fd : FuncData, (∀ (s : Shared) (v : Value), BindsTo s fd ⟨[v], []⟩ [("_law_script", v)]) ∧ ∀ base : Heap, K.In base → base.Ns mainGlobals mg → FnOk P w K mg base CX0 6 f fd ["_law_script"] (sp_law K) := by
  have T : Txt K mg := txt_of X G c
  obtain ⟨fd, F⟩ := c.def_ 31 (d := ⟨("law", none), "law", "law", defArgs s_law, defBody s_law, defScope s_law, [], []⟩) rfl
  have e := hfa.symm.trans T.d_law.1
  cases e
  have b := FunD.bindsA (ps := ["_law_script"]) F fun _ _ _ _ _ _ us hl => match us, hl with | [_], _ => rfl
  exact ⟨fd, fun s v => b s [v] rfl, fun base _ _ => ok_law T F⟩
end Mz
open PySem PySem.W PySem.Calls PyProof.Rows
theorem PySem.Challenge.cw_mazeguide_k10_the_least_walk_holds : PySem.Challenge.rw_mazeguide_k10_the_least_walk.Holds := by
  w_on; o_law
  refine HandSHeadRun.head_any (r := OpenLaw.row PySem.Challenge.rw_mazeguide_k10_the_least_walk) (q := view (OpenLaw.row PySem.Challenge.rw_mazeguide_k10_the_least_walk).prog [39]) (H := Mz.hkL) (ob := Mz.obL) (M := 6000) (loose := Mz.looseL) (d := HandSHeadRun.topDef (OpenLaw.row PySem.Challenge.rw_mazeguide_k10_the_least_walk).prog 39) (kwd := []) Mz.obL_eq
    (by kernel_rfl) (fun s => by kernel_rfl) Mz.runL (by kernel_rfl) (by kernel_rfl) (by kernel_rfl) (by rfl) (by first | assumption | decide +kernel) (by decide +kernel) ⟨rfl, rfl, rfl, rfl, rfl, by decide +kernel⟩ ?hw ?hc
  case hw => w_witness2
  case hc =>
    refine L2.walk_ofE (l := PySem.Challenge.rw_mazeguide_k10_the_least_walk) (n := 63) (k := 6) (x := "_law_script") (CX := L2.CX0) rfl (by decide) (by kernel_rfl) ⟨rfl, by decide, by decide⟩ ?F (fun _ _ _ _ z => z)
    intro w mg fa h Y G hmg0
    obtain ⟨K, KX, c⟩ := Y
    have hmg : mg ("law" : PySem.Str) = some (.ref fa) := by
      have e : (HandSHeadRun.topDef (OpenLaw.row PySem.Challenge.rw_mazeguide_k10_the_least_walk).prog 39).name = ("law" : PySem.Str) := by kernel_rfl
      rw [← e]
      exact hmg0
    obtain ⟨fd, hb, hF⟩ := Mz.law_fn (P := (PySem.Challenge.rw_mazeguide_k10_the_least_walk).prog) (w := w) KX G hmg c
    exact ⟨K, fd, Mz.sp_law K, KX, hb, fun H a ns hl _ hS => ⟨a, ns, rfl, hS, hl, fun _ => rfl⟩, hF⟩
