import PyProof.Rows.All
import Wide.All
import OpenK.AllK
import Wide.FinOn
import PyProof.EqAt
import PyProof.EqKinds
import PyProof.TupleCall
import KE.KStateDown
import KE.KDictKeyed
import KE.KDictDisplayH
import KE.SortData
import KE.DataMinMax
import KE.IntTextLaws
import HandS.SortKw
import HandS.Codes
import HandS.ForMost
import HandS.ForExc
import HandS.Deep
import HandS.Walk
import HandS.TupLen
import HandS.FStr
import HandS.Conv
import HandS.TupAny
import HandS.IsInst
import HandS.ExcIs
import HandS.TryMany
import HandS.Defaults
import HandS.Head0
import HandS.Head1
import HandS.Head2
import HandS.HeadEnd
import HandS.HeadHook1
import HandS.HeadHook2
import HandS.Evl
import HandS.Text
import Lean
import PySem.Challenge.RW_mazeguide_k12_read
set_option Elab.async false
set_option linter.all false
set_option maxRecDepth 100000
set_option maxHeartbeats 4000000
namespace Mz
open PySem PySem.Spec PyProof.Rows L2

/-! ### a def that keeps its promise -/
/-- the def of the text at the module's name x -/
def Dfn (K : PySem.W.Frag) (mg : Str → Option Value) (x : Str) (st : Stmt) (ps : List Str) : Prop :=
  mg x = some (.ref (He.ga K x)) ∧ ∃ fd, FunD K x x (defArgs st) (defBody st) (defScope st) [] [] (He.ga K x) fd ∧ Binds K fd ps []
def Kept (P : Program) (w : World) (K : PySem.W.Frag) (mg : Str → Option Value) (base : Heap) (k : Nat) (x : Str) (ps : List Str) (sp : Sp) : Prop :=
  ∃ f fd, FnOk P w K mg base (L2.CX P w) k f fd ps sp ∧ mg x = some (.ref f) ∧ PySem.W.keepIn K (.ref f) = true ∧ Binds K fd ps []
section
variable {P : Program} {w : World} {K : PySem.W.Frag} {mg : Str → Option Value} {base : Heap}
theorem Dfn.kept {x : Str} {st : Stmt} {N ps : List Str} {k : Nat} {sp : Sp} (D : Dfn K mg x st ps) (S : FnScope N ps (defScope st)) (len : ∀ vs H Q E, sp vs H Q E → vs.length = ps.length)
    (hbody : ∀ (cdv : Value) (A : Around) (outer : List Env) (s : Shared) (H : Hp) (vs : List V) (Q : VK) (E : XK), Room k (A.deeper (envOfC x (defScope st) s.heap.objs.size (He.ga K x) cdv)) → sp vs H Q E →
      ∃ t, PSs (cxOf (L2.CX P w) P w K mg base N x (defScope st) (He.ga K x) cdv A outer s H E) (defBody st) t ∧ t { nx := fun _ H' => Q .non H', rt := Q } (start N vs) H) :
    Kept P w K mg base (k + 1) x ps sp := by
  obtain ⟨g, fd, F, b⟩ := D
  exact ⟨_, fd, F.ok S len hbody, g, F.kp, b⟩
end
section
variable {X : Cx} {k : Nat} {x : Str} {ps : List Str} {sp : Sp} {p pos : Pos} {e : Expr} {es : List Expr} {t : TA}
theorem pe_fn {E : XK} (F : Kept X.prog X.w X.K X.mg X.base k x ps sp) (hr : Room k X.A) (hx : Passes (L2.CX X.prog X.w) X E) (hg : Gl X x) (ha : PA X (e :: es) t)
    (hdb : (x == ("__debug__" : Str)) = false := by decide) (he : starEach (e :: es) X.env = (false, eval e X.env) :: starEach es X.env := by rfl) (hpl : (backTo pos (starEach es X.env)).any (·.1) = false := by rfl) :
    PE X (.Call (.Name x p) (e :: es) [] pos) (tCall sp [] E t) := by
  obtain ⟨f, fd, G, g, kp, b⟩ := F
  exact pe_call G hr hg g kp b .nil hx ha hdb he hpl
theorem pe_fnS {E : L2.St → XK} (F : Kept X.prog X.w X.K X.mg X.base k x ps sp) (hr : Room k X.A) (hx : ∀ st, PassesAt (L2.CX X.prog X.w) X st (E st)) (ha : PA X (e :: es) t) (hg : Gl X x := by rfl)
    (hdb : (x == ("__debug__" : Str)) = false := by decide) (he : starEach (e :: es) X.env = (false, eval e X.env) :: starEach es X.env := by rfl) (hpl : (backTo pos (starEach es X.env)).any (·.1) = false := by rfl) :
    PE X (.Call (.Name x p) (e :: es) [] pos) (tCallS sp E t) := by
  obtain ⟨f, fd, G, g, kp, b⟩ := F
  exact pe_callS G hr hg g kp b hx ha hdb he hpl
theorem passR {E : XK} (tk : L2.Takes X (fun cls d _ H => E cls d H)) : Passes (L2.CX X.prog X.w) X E := passes_call tk fun _ _ _ _ h => h
theorem takes0x : L2.Takes X (fun _ _ _ _ => False) := takes0
theorem pe_gint {i : Int} (h : ∃ tk, X.mg x = some (.int i tk)) (hg : Gl X x) (hd : (x == ("__debug__" : Str)) = false := by decide) : PE X (.Name x p) (tC (.int i)) := by
  obtain ⟨tk, h⟩ := h
  exact pe_glob hg h ⟨tk, rfl⟩ hd
theorem pe_gstr {z : Str} (h : ∃ tk, X.mg x = some (.str z tk)) (hg : Gl X x) (hd : (x == ("__debug__" : Str)) = false := by decide) : PE X (.Name x p) (tC (.str z)) := by
  obtain ⟨tk, h⟩ := h
  exact pe_glob hg h ⟨tk, rfl⟩ hd
theorem pe_gref {a : Addr} (h : X.mg x = some (.ref a)) (hg : Gl X x) (hd : (x == ("__debug__" : Str)) = false := by decide) : PE X (.Name x p) (tC (.ref a)) := pe_glob hg h rfl hd
end
theorem u65 {k : Nat} {A : Around} (hr : Room k A) : A.units + 65 < cLine := by have := hr.un; omega

/-! ### exception classes of the text -/
structure ExcT (K : PySem.W.Frag) (mg : Str → Option Value) (x : Str) : Prop where
  gC : mg x = some (.ref (He.ga K x))
  xC : PySem.W.excIn K (He.ga K x) [.type "ValueError", .type "Exception", .type "BaseException", .type "object"] "ValueError.__new__" = true
  kC : PySem.W.keepIn K (.ref (He.ga K x)) = true
  bC : PySem.W.subIn K (.ref (He.ga K x)) (.type "BaseException") = some true
  tC : PySem.W.typeIn K (.ref (He.ga K x)) = some (.type "type")
/-! ### the head's facts -/
inductive Fx where
  | fa (f : He.Fa)
  | excC (x : Str)
  | kit (x y : Str) (b : Bool)
  | kitT (x : Str) (n : String) (b : Bool)
def Fx.ok (K : PySem.W.Frag) : Fx → Bool
  | .fa f => f.ok K
  | .excC x => He.eqO (PySem.W.findIn K (.ref (He.ga K x)) "__getattribute__") (some (some (.builtin "BaseException.__getattribute__"))) && (He.eqO (PySem.W.findIn K (.ref (He.ga K x)) "__getattr__") (some none) && (decide (PySem.W.subIn K (.ref (He.ga K x)) (.type "BaseException") = some true) &&
      (PySem.W.hasDictIn K (He.ga K x) && (He.eqO (PySem.W.findIn K (.ref (He.ga K x)) "__class__") (some (some (.builtin "object.__class__"))) && (He.eqO (PySem.W.specialIn K (.builtin "object.__class__") "__get__") (some (some (.builtin "getset_descriptor.__get__"))) &&
        (decide (PySem.W.takesIn K (.builtin "object.__class__") = some true) && decide (PySem.W.mroIn K (He.ga K x) (.type "object") = some true)))))))
  | .kit x y b => decide (PySem.W.kitOne K (.ref (He.ga K x)) (.ref (He.ga K y)) = some b)
  | .kitT x n b => decide (PySem.W.kitOne K (.ref (He.ga K x)) (.type n) = some b)
theorem excC_ok {K : PySem.W.Frag} {x : Str} (c : (Fx.excC x).ok K = true) : ExcC K (He.ga K x) := by
  obtain ⟨h1, c⟩ := He.ba c
  obtain ⟨h2, c⟩ := He.ba c
  obtain ⟨h3, c⟩ := He.ba c
  obtain ⟨h4, c⟩ := He.ba c
  obtain ⟨h5, c⟩ := He.ba c
  obtain ⟨h6, c⟩ := He.ba c
  obtain ⟨h7, h8⟩ := He.ba c
  exact ⟨He.eqO_ok h1, He.eqO_ok h2, of_decide_eq_true h3, h4, He.eqO_ok h5, He.eqO_ok h6, of_decide_eq_true h7, of_decide_eq_true h8⟩
theorem excT_ok {K : PySem.W.Frag} {h : Heap} {mg : Str → Option Value} (X : K.In h) (G : h.Ns mainGlobals mg) {x : Str} (g : (He.Fa.glo x).ok K = true) (c : (He.Fa.exc x).ok K = true) : ExcT K mg x := by
  obtain ⟨h1, h2, h3, h4⟩ := He.exc_ok c
  exact ⟨He.glo_ok X G g, h1, h2, h3, h4⟩
def obsX (fa : List Fx) (fn : List He.DefD) (K : PySem.W.Frag) : He.AlD := ((fa.all fun f => f.ok K) && fn.all fun d => d.ok K, fn.map fun d => He.fnW K d.at_)
def SaysX (fa : List Fx) (fn : List He.DefD) (K : PySem.W.Frag) : Prop := obsX fa fn K = He.valD fn
def obsXG (n : Nat) (fa : List Fx) (fn : List He.DefD) (g : Addr → Option Obj) : He.AlD := obsX fa fn (He.frG g (He.asD g n))
def hookX (n : Nat) (fa : List Fx) (fn : List He.DefD) : PySem.W.Hook where
  α := He.AlD
  obs := fun s => obsXG n fa fn s.heap.get?
  val := fun _ => He.valD fn
  says := fun _ h => ∃ K : PySem.W.Frag, K.In h ∧ SaysX fa fn K
  of := fun _ _ e => ⟨_, He.frG_in, e⟩
  keeps := fun _ _ _ ⟨K, hK, c⟩ k => ⟨K, PySem.W.Frag.In.keeps hK k, c⟩
theorem obsXG_eq {n : Nat} {fa : List Fx} {fn : List He.DefD} {g : Addr → Option Obj} {s : Shared} (h : ∀ a, g a = s.heap.get? a) : obsXG n fa fn g = (hookX n fa fn).obs s := by
  have e : g = s.heap.get? := funext h
  rw [e]
  rfl
section
variable {fa : List Fx} {fn : List He.DefD} {K : PySem.W.Frag}
theorem SaysX.fact (c : SaysX fa fn K) (i : Nat) {f : Fx} (h : fa[i]? = some f := by rfl) : f.ok K = true := by
  have e : ((fa.all fun f => f.ok K) && fn.all fun d => d.ok K) = true := congrArg Prod.fst c
  have e1 := (He.ba e).1
  exact List.all_eq_true.mp e1 f (List.mem_of_getElem? h)
theorem SaysX.def_ (c : SaysX fa fn K) (i : Nat) {d : He.DefD} (h : fn[i]? = some d := by rfl) : ∃ fd, FunD K d.name d.qual d.params d.body d.scope (d.dvs K) (d.kws K) (He.fAd K d.at_) fd := by
  have e : ((fa.all fun f => f.ok K) && fn.all fun d => d.ok K) = true := congrArg Prod.fst c
  have e2 := List.all_eq_true.mp (He.ba e).2 d (List.mem_of_getElem? h)
  have e3 : (fn.map fun d => He.fnW K d.at_) = fn.map He.DefD.val := congrArg Prod.snd c
  have e4 : He.fnW K d.at_ = d.val := by
    have q := congrArg (fun l => l[i]?) e3
    simp only [List.getElem?_map, h, Option.map_some, Option.some.injEq] at q
    exact q
  exact He.DefD.funD e4 e2
theorem SaysX.dfn {mg : Str → Option Value} {h : Heap} (X : K.In h) (G : h.Ns mainGlobals mg) (c : SaysX fa fn K) {x : Str} {st : Stmt} {ps : List Str} (i j : Nat) (hd : fn[i]? = some ⟨(x, none), x, x, defArgs st, defBody st, defScope st, [], []⟩) (hj : fa[j]? = some (.fa (.glo x)))
    (hb : ∀ (kV doc pm : Value) (an : Option Addr) (cdv ct : Value) (us : List Value), us.length = ps.length → bindArgs (PySem.W.fnOf x x (defArgs st) (defBody st) (defScope st) .none kV doc pm an cdv ct) ⟨us, []⟩ = pure (ps.zip us)) : Dfn K mg x st ps := by
  obtain ⟨fd, F⟩ := c.def_ i hd
  exact ⟨He.glo_ok X G (c.fact j hj), fd, F, FunD.bindsN F hb⟩
end
/-- the law's end -/
theorem cx_end {P : Program} {w : World} (H : Hp) (s : Shared) (e : Value) (s' : Shared) (h : L2.CX P w [] H s (fun _ _ _ => False) e s') : False := by
  obtain ⟨_, _, _, _, _, _, _, _, _, _, _, _, z⟩ := h
  exact z
/-! ### a suite whose exception is of a class of the text -/
theorem pss_exc {X : Cx} {sts : List Stmt} {K : PySem.W.Frag} {cls : Value} {dd : Option Addr} {oe : Obj} {t : Addr → TS} (hz : Zc cls dd oe) (h : ∀ D, ExcC K D → Zc (.ref D) none oe → PSs X sts (t D)) :
    PSs X sts (fun Dn st H => ∃ D, (cls = .ref D ∧ dd = none ∧ ExcC K D) ∧ t D Dn st H) := ⟨fun pins s st H Dn I q => by
  obtain ⟨D, ⟨rfl, rfl, hx⟩, q⟩ := q
  exact (h D hx hz).run pins s st H Dn I q⟩
/-! ### xs.count(y), flat items -/
theorem countP_eqU {y : V} : ∀ {xs : List V} {us : List Value}, Vals xs us → xs.all flatV = true → us.countP (eqU y) = xs.countP fun z => eqV z y
  | _, _, .nil, _ => rfl
  | _, _, .cons r t, f => by
    simp only [List.all_cons, Bool.and_eq_true] at f
    rw [List.countP_cons, List.countP_cons, countP_eqU t f.2, eqU_of r f.1]
def rCntF (K : PySem.W.Frag) : V → List V → Hp → VK → Prop := fun x vs H Q => ∃ (p : Addr) (xs : List V) (y : V), x = .ref p ∧ vs = [y] ∧ SqL K H p xs ∧ flatV y = true ∧ xs.all flatV = true ∧ Q (.int (xs.countP (fun z => eqV z y) : Nat)) H
theorem mt_countF {X : Cx} : MtR X "list.count" (rCntF X.K) := by
  intro pins s st H x vs v us Q I rx rxs h
  obtain ⟨p, xs, y, rfl, rfl, hs, fy, fx, q⟩ := h
  cases rx
  obtain ⟨u, rfl, ru⟩ := rxs.one
  obtain ⟨its, rv, ⟨⟨cls, dd, data, sl⟩, n, ho, hc, hdn, hd⟩, hlen⟩ := I.list hs
  simp only at hc hd
  subst hc hd
  refine call_meets PySem.F.slot_list_count ⟨_, ho, rfl⟩ PySem.F.entry_list_count (PySem.F.args_list_count_2 _ _)
    (SeqAt.list_countAt p its.toArray n dd sl u (eqU y)) ⟨ho, fun z hz => mem_eqAt ru fy rv fx z (by simpa using hz), ?_⟩
  have ec : its.toArray.toList.countP (eqU y) = xs.countP fun z => eqV z y := countP_eqU rv fx
  refine ⟨.int (xs.countP (fun z => eqV z y) : Nat), H, I.tok _, ⟨s.toks, ?_⟩, q⟩
  show Value.int ((its.toArray.toList.countP (eqU y) : Nat) : Int) s.toks = Value.int ((xs.countP (fun z => eqV z y) : Nat) : Int) s.toks
  rw [ec]
theorem mt_countF_K {X : Cx} {K : PySem.W.Frag} (h : X.K = K) : MtR X "list.count" (rCntF K) := by subst h; exact mt_countF
/-! ### the same rules, the written part named (within a comprehension) -/
section
variable {X : Cx} {K : PySem.W.Frag}
theorem ix_list_K (h : X.K = K) : IxR X (rIxL K) := by subst h; exact ix_list
theorem ix_seq_K (h : X.K = K) : IxR X (rIx K) := by subst h; exact ix_seq
theorem sl_tupA_K (h : X.K = K) : SlR X (rSlA K) := by subst h; exact sl_tupA
theorem op_catA_K (h : X.K = K) : OpR X (binaryOp .Add) (rCatA K) := by subst h; exact op_catA
theorem cr_sorted_K (h : X.K = K) : CallR X (.builtin "sorted") (rSorted K) := by subst h; exact cr_sorted
theorem pi_list_K {tg l : Expr} {tl : TE} (h : X.K = K) (hl : PE X l tl) : PI X tg l (iList K tl) := by subst h; exact pi_list hl
theorem pi_tup_K {tg l : Expr} {tl : TE} (h : X.K = K) (hl : PE X l tl) : PI X tg l (iTup K tl) := by subst h; exact pi_tup hl
theorem pg_tup_K {es : List Expr} {k : Nat} {t : TGs} {n : Nat} {pos : Pos} (hK : X.K = K) (hc : X.calm = true) (h : PGs X es t) (hn : (assignEach es X.env).length = n := by rfl) (hst : (assignEach es X.env).findIdx? (·.1) = none := by rfl) : PG X (.Tuple es k pos) (gTup K n t) := by
  subst hK; exact pg_tup hc h hn hst
theorem pe_bm0_K {o : Expr} {to : TE} {name : Str} {apos cpos : Pos} {T id : String} {r : V → List V → Hp → VK → Prop} (hK : X.K = K) (pa : PlainAttrs T) (slot : Slot T name id) (hty : typeOf (.builtin id) = pure (.type "method_descriptor")) (hm : MtR X id r) (ho : PE X o to)
    (hbase : attributeBase o name X.env (eval o X.env) = eval o X.env := by rfl) (hline : (apos.endLine == cpos.line) = true := by rfl) : PE X (.Call (.Attribute o name apos) [] [] cpos) (tBM0 K T r to) := by
  subst hK; exact pe_bm0 pa slot hty hm ho hbase hline
theorem pe_bm_K {o e : Expr} {es : List Expr} {to : TE} {t : TA} {name : Str} {apos cpos : Pos} {T id : String} {r : V → List V → Hp → VK → Prop} (hK : X.K = K) (pa : PlainAttrs T) (slot : Slot T name id) (hty : typeOf (.builtin id) = pure (.type "method_descriptor")) (hm : MtR X id r) (ho : PE X o to) (ha : PA X (e :: es) t)
    (hbase : attributeBase o name X.env (eval o X.env) = eval o X.env := by rfl)
    (hfew : ((backTo cpos (starEach (e :: es) X.env)).all (fun x => !x.1) && (backToKw cpos (keywordEach [] X.env)).all (fun x => x.1.isSome) && decide ((e :: es).length + ([] : List Keyword).length + (if ([] : List Keyword).isEmpty then 0 else 1) < 30)) = true := by rfl)
    (hline : (apos.endLine == cpos.line) = true := by rfl) (hs : starEach (e :: es) X.env = (false, eval e X.env) :: starEach es X.env := by rfl) (hplain : (backTo cpos (starEach es X.env)).any (·.1) = false := by rfl) :
    PE X (.Call (.Attribute o name apos) (e :: es) [] cpos) (tBM K T r to t) := by
  subst hK; exact pe_bm pa slot hty hm ho ha hbase hfew hline hs hplain
theorem ix_tup_K (h : X.K = K) : IxR X (rIxT K) := by subst h; exact ix_tup
theorem sl_list_K (h : X.K = K) : SlR X (rSlL K) := by subst h; exact sl_list
theorem call_len_seq_K (h : X.K = K) : CallR X (.builtin "len") (fun xs H Q => ∃ p ys, xs = [.ref p] ∧ (SqL K H p ys ∨ SqT K H p ys) ∧ Q (.int ys.length) H) := by subst h; exact call_len_seq
theorem call_list_of_K (h : X.K = K) : CallR X (.type "list") (fun xs H Q => ∃ p ys, xs = [.ref p] ∧ (SqL K H p ys ∨ SqT K H p ys) ∧ ∀ l, H l = none → Q (.ref l) (upd H l (.lst ys))) := by subst h; exact call_list_of
theorem call_tuple_of_K (h : X.K = K) : CallR X (.type "tuple") (fun xs H Q => ∃ p ys, xs = [.ref p] ∧ ((SqL K H p ys ∧ ∀ l, H l = none → Q (.ref l) (upd H l (.tup ys))) ∨ (SqT K H p ys ∧ Q (.ref p) H))) := by subst h; exact call_tuple_of
theorem call_isi_K (h : X.K = K) : CallR X (.builtin "isinstance") (rIsi K) := by subst h; exact call_isi
theorem op_eqD_K (h : X.K = K) (hu : X.A.units + 64 < cLine) : OpR X (compareOp .Eq) (rEqD K) := by subst h; exact op_eqD hu
theorem op_neD_K (h : X.K = K) (hu : X.A.units + 64 < cLine) : OpR X (compareOp .NotEq) (rNeD K) := by subst h; exact op_neD hu
theorem op_inD_K (h : X.K = K) (hu : X.A.units + 65 < cLine) : OpR X (compareOp .In) (rInD K) := by subst h; exact op_inD hu
theorem op_notInD_K (h : X.K = K) (hu : X.A.units + 65 < cLine) : OpR X (compareOp .NotIn) (rNotInD K) := by subst h; exact op_notInD hu
theorem op_in_seq_K (h : X.K = K) : OpR X (compareOp .In) (rIn K false) := by subst h; exact op_in_seq
theorem op_notIn_seq_K (h : X.K = K) : OpR X (compareOp .NotIn) (rIn K true) := by subst h; exact op_notIn_seq
end
end Mz
namespace Mz
open PySem PySem.Spec PyProof.Rows L2 Evl

/-! ### data made of tuples alone: it stays while lists change -/
mutual
inductive Td (H : Hp) : V → PyData → Prop
  | non : Td H .non .none
  | bl (b : Bool) : Td H (.bl b) (.bool b)
  | int (i : Int) : Td H (.int i) (.int i)
  | str (x : Str) : Td H (.str x) (.str x)
  | tup {a : Addr} {xs : List V} {ds : List PyData} : H a = some (.tup xs) → TdAll H xs ds → Td H (.ref a) (.tuple ds)
inductive TdAll (H : Hp) : List V → List PyData → Prop
  | nil : TdAll H [] []
  | cons {v : V} {vs : List V} {d : PyData} {ds : List PyData} : Td H v d → TdAll H vs ds → TdAll H (v :: vs) (d :: ds)
end
section
variable {K : PySem.W.Frag} {H H' : Hp}
mutual
theorem Td.keep (k : ∀ b xs, H b = some (.tup xs) → H' b = some (.tup xs)) : ∀ {d : PyData} {v : V}, Td H v d → Td H' v d
  | .none, _, .non => .non
  | .bool _, _, .bl b => .bl b
  | .int _, _, .int i => .int i
  | .str _, _, .str x => .str x
  | .tuple ds, _, .tup h r => .tup (k _ _ h) (TdAll.keep k r)
theorem TdAll.keep (k : ∀ b xs, H b = some (.tup xs) → H' b = some (.tup xs)) : ∀ {ds : List PyData} {vs : List V}, TdAll H vs ds → TdAll H' vs ds
  | [], _, .nil => .nil
  | _ :: _, _, .cons h r => .cons (Td.keep k h) (TdAll.keep k r)
end
mutual
theorem Td.dp : ∀ {d : PyData} {v : V}, Td H v d → Dp K H v d
  | .none, _, .non => .non
  | .bool _, _, .bl b => .bl b
  | .int _, _, .int i => .int i
  | .str _, _, .str x => .str x
  | .tuple ds, _, .tup h r => .tup (SqT.of h) (TdAll.dp r)
theorem TdAll.dp : ∀ {ds : List PyData} {vs : List V}, TdAll H vs ds → DpAll K H vs ds
  | [], _, .nil => .nil
  | _ :: _, _, .cons h r => .cons (Td.dp h) (TdAll.dp r)
end
mutual
theorem dp_ex (e : Ex H H') : ∀ {d : PyData} {v : V}, Dp K H v d → Dp K H' v d
  | .none, _, .non => .non
  | .bool _, _, .bl b => .bl b
  | .int _, _, .int i => .int i
  | .str _, _, .str x => .str x
  | .list ds, _, .lst h r => .lst (ex_l e h) (dpAll_ex e r)
  | .tuple ds, _, .tup h r => .tup (ex_t e h) (dpAll_ex e r)
theorem dpAll_ex (e : Ex H H') : ∀ {ds : List PyData} {vs : List V}, DpAll K H vs ds → DpAll K H' vs ds
  | [], _, .nil => .nil
  | _ :: _, _, .cons h r => .cons (dp_ex e h) (dpAll_ex e r)
end
theorem Td.ex (e : Ex H H') {d : PyData} {v : V} (h : Td H v d) : Td H' v d := Td.keep (fun b xs q => e b _ q) h
theorem TdAll.ex (e : Ex H H') {ds : List PyData} {vs : List V} (h : TdAll H vs ds) : TdAll H' vs ds := TdAll.keep (fun b xs q => e b _ q) h
theorem upd_tups {l : Addr} {xs : List V} {o : HO} (h : H l = some (.lst xs)) : ∀ b ys, H b = some (.tup ys) → upd H l o b = some (.tup ys) := fun b ys q => by
  rw [upd_ne (ne_of q h (fun z => by cases z))]
  exact q
theorem Td.upd {l : Addr} {xs : List V} {o : HO} (h : H l = some (.lst xs)) {d : PyData} {v : V} (q : Td H v d) : Td (L2.upd H l o) v d := Td.keep (upd_tups h) q
theorem TdAll.upd {l : Addr} {xs : List V} {o : HO} (h : H l = some (.lst xs)) {ds : List PyData} {vs : List V} (q : TdAll H vs ds) : TdAll (L2.upd H l o) vs ds := TdAll.keep (upd_tups h) q
theorem TdAll.append {ds es : List PyData} : ∀ {vs us : List V}, TdAll H vs ds → TdAll H us es → TdAll H (vs ++ us) (ds ++ es) := by
  induction ds with
  | nil => intro vs us h q; cases h; exact q
  | cons d r ih => intro vs us h q; cases h with | cons a b => exact .cons a (ih b q)
theorem TdAll.len {ds : List PyData} : ∀ {vs : List V}, TdAll H vs ds → vs.length = ds.length := by
  induction ds with
  | nil => intro vs h; cases h; rfl
  | cons d r ih => intro vs h; cases h with | cons a b => simp [ih b]
theorem TdAll.get {ds : List PyData} : ∀ {vs : List V} {i : Nat} {d : PyData}, TdAll H vs ds → ds[i]? = some d → ∃ v, vs[i]? = some v ∧ Td H v d := by
  induction ds with
  | nil => intro vs i d h q; simp at q
  | cons d r ih =>
    intro vs i d' h q
    cases h with
    | cons a b =>
      cases i with
      | zero => simp at q; subst q; exact ⟨_, rfl, a⟩
      | succ i => simp at q; obtain ⟨v, e, t⟩ := ih b q; exact ⟨v, by simpa using e, t⟩
theorem TdAll.getV {ds : List PyData} : ∀ {vs : List V} {i : Nat} {v : V}, TdAll H vs ds → vs[i]? = some v → ∃ d, ds[i]? = some d ∧ Td H v d := by
  induction ds with
  | nil => intro vs i d h q; cases h; simp at q
  | cons d r ih =>
    intro vs i d' h q
    cases h with
    | cons a b =>
      cases i with
      | zero => simp at q; subst q; exact ⟨_, rfl, a⟩
      | succ i => simp at q; obtain ⟨v, e, t⟩ := ih b q; exact ⟨v, by simpa using e, t⟩
theorem dpAll_len {ds : List PyData} : ∀ {vs : List V}, DpAll K H vs ds → vs.length = ds.length := by
  induction ds with
  | nil => intro vs h; cases h; rfl
  | cons d r ih => intro vs h; cases h with | cons a b => simp [ih b]
theorem dpAll_getV {ds : List PyData} : ∀ {vs : List V} {i : Nat} {v : V}, DpAll K H vs ds → vs[i]? = some v → ∃ d, ds[i]? = some d ∧ Dp K H v d := by
  induction ds with
  | nil => intro vs i d h q; cases h; simp at q
  | cons d r ih =>
    intro vs i d' h q
    cases h with
    | cons a b =>
      cases i with
      | zero => simp at q; subst q; exact ⟨_, rfl, a⟩
      | succ i => simp at q; obtain ⟨v, e, t⟩ := ih b q; exact ⟨v, by simpa using e, t⟩
theorem dpAll_get {ds : List PyData} : ∀ {vs : List V} {i : Nat} {d : PyData}, DpAll K H vs ds → ds[i]? = some d → ∃ v, vs[i]? = some v ∧ Dp K H v d := by
  induction ds with
  | nil => intro vs i d h q; simp at q
  | cons d r ih =>
    intro vs i d' h q
    cases h with
    | cons a b =>
      cases i with
      | zero => simp at q; subst q; exact ⟨_, rfl, a⟩
      | succ i => simp at q; obtain ⟨v, e, t⟩ := ih b q; exact ⟨v, by simpa using e, t⟩
theorem dpAll_append {ds es : List PyData} : ∀ {vs us : List V}, DpAll K H vs ds → DpAll K H us es → DpAll K H (vs ++ us) (ds ++ es) := by
  induction ds with
  | nil => intro vs us h q; cases h; exact q
  | cons d r ih => intro vs us h q; cases h with | cons a b => exact .cons a (ih b q)
/-- ints -/
theorem td_ints : ∀ ns : List Int, TdAll H (ns.map V.int) (ns.map PyData.int)
  | [] => .nil
  | n :: r => .cons (.int n) (td_ints r)
theorem td_int_inv {v : V} {i : Int} (h : Td H v (.int i)) : v = .int i := by cases h; rfl
theorem dp_int_inv {v : V} {i : Int} (h : Dp K H v (.int i)) : v = .int i := by cases h; rfl
theorem dpAll_ints : ∀ {ns : List Int} {vs : List V}, DpAll K H vs (ns.map PyData.int) → vs = ns.map V.int
  | [], _, .nil => rfl
  | n :: r, _, .cons h q => by rw [dp_int_inv h, dpAll_ints q]; rfl
theorem tdAll_ints : ∀ {ns : List Int} {vs : List V}, TdAll H vs (ns.map PyData.int) → vs = ns.map V.int
  | [], _, .nil => rfl
  | n :: r, _, .cons h q => by rw [td_int_inv h, tdAll_ints q]; rfl
/-- a list that stands, of such data -/
def LstT (H : Hp) (p : Addr) (ds : List PyData) : Prop := ∃ xs, H p = some (.lst xs) ∧ TdAll H xs ds
theorem LstT.ex (e : Ex H H') {p : Addr} {ds : List PyData} (h : LstT H p ds) : LstT H' p ds := by
  obtain ⟨xs, a, b⟩ := h
  exact ⟨xs, e _ _ a, b.ex e⟩
theorem LstT.dp {p : Addr} {ds : List PyData} (h : LstT H p ds) : Dp K H (.ref p) (.list ds) := by
  obtain ⟨xs, a, b⟩ := h
  exact .lst (SqL.of a) b.dp
theorem LstT.push {p : Addr} {ds : List PyData} {d : PyData} {v : V} {xs : List V} (h : H p = some (.lst xs)) (b : TdAll H xs ds) (t : Td H v d) : LstT (L2.upd H p (.lst (xs ++ [v]))) p (ds ++ [d]) :=
  ⟨_, upd_same, TdAll.append (b.upd h) (.cons (t.upd h) .nil)⟩
end

theorem at0 {ds : List PyData} {d : PyData} {j : Nat} (h : ds[j]? = some d := by rfl) : atI ds (j : Int) = some d := atI_nat h
theorem atI0 {d : PyData} {r : List PyData} : atI (d :: r) 0 = some d := at0 (j := 0)
theorem atI1 {a d : PyData} {r : List PyData} : atI (a :: d :: r) 1 = some d := at0 (j := 1)
theorem atI2 {a b d : PyData} {r : List PyData} : atI (a :: b :: d :: r) 2 = some d := at0 (j := 2)
/-! ### what evaluates to data -/
def EvP (te : TE) (σ : L2.St) (H : Hp) (P : V → Hp → Prop) : Prop := ∀ H1, Ex H H1 → ∀ Q : VK, (∀ v H2, Ex H1 H2 → P v H2 → Q v H2) → te σ H1 Q
def EaP (ta : TA) (σ : L2.St) (H : Hp) (P : List V → Hp → Prop) : Prop := ∀ H1, Ex H H1 → ∀ Q : List V → Hp → Prop, (∀ v H2, Ex H1 H2 → P v H2 → Q v H2) → ta σ H1 Q
abbrev EvD (K : PySem.W.Frag) (te : TE) (σ : L2.St) (H : Hp) (d : PyData) : Prop := EvP te σ H fun v H' => Dp K H' v d
abbrev EvTd (te : TE) (σ : L2.St) (H : Hp) (d : PyData) : Prop := EvP te σ H fun v H' => Td H' v d
abbrev EaTd (ta : TA) (σ : L2.St) (H : Hp) (ds : List PyData) : Prop := EaP ta σ H fun vs H' => TdAll H' vs ds
abbrev EaD (K : PySem.W.Frag) (ta : TA) (σ : L2.St) (H : Hp) (ds : List PyData) : Prop := EaP ta σ H fun vs H' => DpAll K H' vs ds
/-- a new list of such data -/
def EvLT (te : TE) (σ : L2.St) (H : Hp) (ds : List PyData) : Prop := ∀ H1, Ex H H1 → ∀ Q : VK, (∀ p H2, H1 p = none → Ex H1 H2 → LstT H2 p ds → Q (.ref p) H2) → te σ H1 Q
section
variable {K : PySem.W.Frag} {σ : L2.St} {H H' : Hp} {ta tb te tx : TE} {t u : TT} {x y z v : V} {r : R2} {tr : TA} {D : Ends} {tu tw tz : TS} {P P' : V → Hp → Prop} {d : PyData} {ds : List PyData}
theorem EvP.mono (e : Ex H H') (h : EvP te σ H P) : EvP te σ H' P := fun H1 e1 => h H1 (e.trans e1)
theorem EvLT.mono (e : Ex H H') (h : EvLT te σ H ds) : EvLT te σ H' ds := fun H1 e1 => h H1 (e.trans e1)
theorem EvP.imp (h : EvP te σ H P) (k : ∀ v H2, Ex H H2 → P v H2 → P' v H2) : EvP te σ H P' := fun H1 e Q q => h H1 e Q fun v H2 e2 p => q v H2 e2 (k v H2 (e.trans e2) p)
theorem ep_ev (h : Ev te σ H v) (k : ∀ H2, Ex H H2 → P v H2) : EvP te σ H P := fun H1 e Q q => h H1 e Q fun H2 e2 => q v H2 e2 (k H2 (e.trans e2))
theorem td_int {i : Int} (h : Ev te σ H (.int i)) : EvTd te σ H (.int i) := ep_ev h fun _ _ => .int i
theorem td_non (h : Ev te σ H .non) : EvTd te σ H .none := ep_ev h fun _ _ => .non
theorem td_bl {b : Bool} (h : Ev te σ H (.bl b)) : EvTd te σ H (.bool b) := ep_ev h fun _ _ => .bl b
theorem td_str {b : Str} (h : Ev te σ H (.str b)) : EvTd te σ H (.str b) := ep_ev h fun _ _ => .str b
theorem td_any (h : Ev te σ H v) (t : Td H v d) : EvTd te σ H d := ep_ev h fun _ e => t.ex e
theorem ed_any (h : Ev te σ H v) (t : Dp K H v d) : EvD K te σ H d := ep_ev h fun _ e => dp_ex e t
theorem ed_td (h : EvTd te σ H d) : EvD K te σ H d := h.imp fun _ _ _ t => t.dp
theorem ev_of_td {i : Int} (h : EvTd te σ H (.int i)) : Ev te σ H (.int i) := fun H1 e Q q => h H1 e Q fun v H2 e2 p => by rw [td_int_inv p]; exact q H2 e2
theorem ev_of_ed {i : Int} (h : EvD K te σ H (.int i)) : Ev te σ H (.int i) := fun H1 e Q q => h H1 e Q fun v H2 e2 p => by rw [dp_int_inv p]; exact q H2 e2
theorem ed_lt (h : EvLT te σ H ds) : EvD K te σ H (.list ds) := fun H1 e Q q => h H1 e Q fun p H2 _ e2 l => q _ H2 e2 l.dp
theorem ea_tn : EaTd tNil σ H [] := fun H1 e Q q => q [] H1 (Ex.refl H1) .nil
theorem ea_tc (h : EvTd te σ H d) (hr : EaTd tr σ H ds) : EaTd (tCons te tr) σ H (d :: ds) := fun H1 e Q q => h H1 e _ fun v H2 e2 p => hr H2 (e.trans e2) _ fun vs H3 e3 ps => q _ H3 (e2.trans e3) (.cons (p.ex e3) ps)
theorem ea_dn : EaD K tNil σ H [] := fun H1 e Q q => q [] H1 (Ex.refl H1) .nil
theorem ea_dc (h : EvD K te σ H d) (hr : EaD K tr σ H ds) : EaD K (tCons te tr) σ H (d :: ds) := fun H1 e Q q => h H1 e _ fun v H2 e2 p => hr H2 (e.trans e2) _ fun vs H3 e3 ps => q _ H3 (e2.trans e3) (.cons (dp_ex e3 p) ps)
theorem td_tup (h : EaTd tr σ H ds) (hl : ds.length ≤ 100000) : EvTd (tTup tr) σ H (.tuple ds) := fun H1 e Q q => h H1 e _ fun vs H2 e2 p => ⟨sz_of (by rw [p.len]; exact hl), fun a na => q _ _ (e2.trans (Ex.new na)) (.tup upd_same (p.ex (Ex.new na)))⟩
theorem ed_tup (h : EaD K tr σ H ds) (hl : ds.length ≤ 100000) : EvD K (tTup tr) σ H (.tuple ds) := fun H1 e Q q => h H1 e _ fun vs H2 e2 p => ⟨sz_of (by rw [dpAll_len p]; exact hl), fun a na => q _ _ (e2.trans (Ex.new na)) (.tup (SqT.of upd_same) (dpAll_ex (Ex.new na) p))⟩
theorem lt_lst (h : EaTd tr σ H ds) (hl : ds.length ≤ 100000) : EvLT (tLst tr) σ H ds := fun H1 e Q q => h H1 e _ fun vs H2 e2 p => ⟨sz_of (by rw [p.len]; exact hl), fun a na => q _ _ (fresh_back e2 na) (e2.trans (Ex.new na)) ⟨vs, upd_same, p.ex (Ex.new na)⟩⟩
theorem ed_lst (h : EaD K tr σ H ds) (hl : ds.length ≤ 100000) : EvD K (tLst tr) σ H (.list ds) := fun H1 e Q q => h H1 e _ fun vs H2 e2 p => ⟨sz_of (by rw [dpAll_len p]; exact hl), fun a na => q _ _ (e2.trans (Ex.new na)) (.lst (SqL.of upd_same) (dpAll_ex (Ex.new na) p))⟩
/-! ### items -/
theorem td_ixT {i : Int} (ha : EvTd ta σ H (.tuple ds)) (hb : Ev tb σ H (.int i)) (h : atI ds i = some d) : EvTd (tOp (rIxT K) ta tb) σ H d := fun H1 e Q q => ha H1 e _ fun v H2 e2 p => hb H2 (e.trans e2) _ fun H3 e3 => by
  cases p with
  | tup ho hd =>
    rename_i xs
    obtain ⟨j, h1, h2, h3, _⟩ := atI_get h
    obtain ⟨w, h4, h5⟩ := hd.get h2
    refine ⟨_, xs, i, w, rfl, rfl, SqT.of (e3 _ _ ho), ?_, q w H3 (e2.trans e3) (h5.ex e3)⟩
    have : atI xs i = some w := by
      unfold atI at h ⊢
      rw [hd.len]
      cases e5 : ixN ds.length i with
      | none => rw [e5] at h; cases h
      | some k =>
        have hk := (ixN_seq e5).1
        rw [hk] at h1
        cases h1
        exact h4
    exact this
theorem ed_ixT {i : Int} (ha : EvD K ta σ H (.tuple ds)) (hb : Ev tb σ H (.int i)) (h : atI ds i = some d) : EvD K (tOp (rIxT K) ta tb) σ H d := fun H1 e Q q => ha H1 e _ fun v H2 e2 p => hb H2 (e.trans e2) _ fun H3 e3 => by
  cases p with
  | tup ho hd =>
    rename_i xs
    obtain ⟨j, h1, h2, h3, _⟩ := atI_get h
    obtain ⟨w, h4, h5⟩ := dpAll_get hd h2
    refine ⟨_, xs, i, w, rfl, rfl, ex_t e3 ho, ?_, q w H3 (e2.trans e3) (dp_ex e3 h5)⟩
    have : atI xs i = some w := by
      unfold atI at h ⊢
      rw [dpAll_len hd]
      cases e5 : ixN ds.length i with
      | none => rw [e5] at h; cases h
      | some k =>
        have hk := (ixN_seq e5).1
        rw [hk] at h1
        cases h1
        exact h4
    exact this
theorem ed_ixL {i : Int} (ha : EvD K ta σ H (.list ds)) (hb : Ev tb σ H (.int i)) (h : atI ds i = some d) : EvD K (tOp (rIxL K) ta tb) σ H d := fun H1 e Q q => ha H1 e _ fun v H2 e2 p => hb H2 (e.trans e2) _ fun H3 e3 => by
  cases p with
  | lst ho hd =>
    rename_i xs
    obtain ⟨j, h1, h2, h3, _⟩ := atI_get h
    obtain ⟨w, h4, h5⟩ := dpAll_get hd h2
    refine ⟨_, xs, i, w, rfl, rfl, ex_l e3 ho, ?_, q w H3 (e2.trans e3) (dp_ex e3 h5)⟩
    have : atI xs i = some w := by
      unfold atI at h ⊢
      rw [dpAll_len hd]
      cases e5 : ixN ds.length i with
      | none => rw [e5] at h; cases h
      | some k =>
        have hk := (ixN_seq e5).1
        rw [hk] at h1
        cases h1
        exact h4
    exact this
theorem td_ixL {i : Int} (ha : EvLT ta σ H ds) (hb : Ev tb σ H (.int i)) (h : atI ds i = some d) : EvTd (tOp (rIxL K) ta tb) σ H d := fun H1 e Q q => ha H1 e _ fun pp H2 _ e2 p => hb H2 (e.trans e2) _ fun H3 e3 => by
  obtain ⟨xs, ho, hd⟩ := p
  obtain ⟨j, h1, h2, h3, _⟩ := atI_get h
  obtain ⟨w, h4, h5⟩ := hd.get h2
  refine ⟨_, xs, i, w, rfl, rfl, SqL.of (e3 _ _ ho), ?_, q w H3 (e2.trans e3) (h5.ex e3)⟩
  have : atI xs i = some w := by
    unfold atI at h ⊢
    rw [hd.len]
    cases e5 : ixN ds.length i with
    | none => rw [e5] at h; cases h
    | some k =>
      have hk := (ixN_seq e5).1
      rw [hk] at h1
      cases h1
      exact h4
  exact this
/-! ### == and in, of data -/
theorem ev_eqD {e : PyData} (ha : EvD K ta σ H d) (hb : EvD K tb σ H e) (h1 : SeqAt.shaped d = true) (h2 : SeqAt.shaped e = true) : Ev (tOp (rEqD K) ta tb) σ H (.bl (PyData.eqv d e)) := fun H1 x Q q => ha H1 x _ fun v H2 x2 p => hb H2 (x.trans x2) _ fun w H3 x3 p2 => ⟨d, e, dp_ex x3 p, p2, h1, h2, q H3 (x2.trans x3)⟩
theorem ev_neD {e : PyData} (ha : EvD K ta σ H d) (hb : EvD K tb σ H e) (h1 : SeqAt.shaped d = true) (h2 : SeqAt.shaped e = true) : Ev (tOp (rNeD K) ta tb) σ H (.bl (!PyData.eqv d e)) := fun H1 x Q q => ha H1 x _ fun v H2 x2 p => hb H2 (x.trans x2) _ fun w H3 x3 p2 => ⟨d, e, dp_ex x3 p, p2, h1, h2, q H3 (x2.trans x3)⟩
theorem ev_inD {es : List PyData} (ha : EvD K ta σ H d) (hb : EvD K tb σ H (.list es)) (h1 : SeqAt.shaped d = true) (h2 : SeqAt.shaped (.list es) = true) : Ev (tOp (rInD K) ta tb) σ H (.bl (es.any fun z => PyData.eqv z d)) := fun H1 x Q q => ha H1 x _ fun v H2 x2 p => hb H2 (x.trans x2) _ fun w H3 x3 p2 => ⟨d, es, dp_ex x3 p, p2, h1, h2, q H3 (x2.trans x3)⟩
theorem ev_niD {es : List PyData} (ha : EvD K ta σ H d) (hb : EvD K tb σ H (.list es)) (h1 : SeqAt.shaped d = true) (h2 : SeqAt.shaped (.list es) = true) : Ev (tOp (rNotInD K) ta tb) σ H (.bl (!es.any fun z => PyData.eqv z d)) := fun H1 x Q q => ha H1 x _ fun v H2 x2 p => hb H2 (x.trans x2) _ fun w H3 x3 p2 => ⟨d, es, dp_ex x3 p, p2, h1, h2, q H3 (x2.trans x3)⟩
/-- an int in a tuple or list of ints -/
theorem inV_int (i : Int) : ∀ ns : List Int, inV (.int i) (ns.map V.int) = decide (i ∈ ns)
  | [] => by simp [inV]
  | n :: r => by
    have h := inV_int i r
    have e0 : inV (.int i) ((n :: r).map V.int) = ((n == i) || inV (.int i) (r.map V.int)) := rfl
    rw [e0, h]
    by_cases e : n = i
    · subst e; simp
    · have e2 : (n == i) = false := beq_false_of_ne e
      have e3 : ¬ i = n := fun z => e z.symm
      simp [e2, e3]
theorem flat_ints : ∀ ns : List Int, (ns.map V.int).all flatV = true
  | [] => rfl
  | _ :: r => by simp [flatV, flat_ints r]
theorem ev_inI {i : Int} {ns : List Int} (ha : Ev ta σ H (.int i)) (hb : EvD K tb σ H (.tuple (ns.map PyData.int)) ∨ EvD K tb σ H (.list (ns.map PyData.int))) : Ev (tOp (rIn K false) ta tb) σ H (.bl (decide (i ∈ ns))) := fun H1 x Q q => ha H1 x _ fun H2 x2 => by
  rcases hb with hb | hb
  · refine hb H2 (x.trans x2) _ fun w H3 x3 p2 => ?_
    cases p2 with
    | tup ho hd =>
      rename_i xs
      have e := dpAll_ints hd
      subst e
      refine ⟨_, _, rfl, .inr ho, rfl, flat_ints ns, ?_⟩
      show Q (.bl (inV (.int i) (ns.map V.int))) H3
      rw [inV_int]
      exact q H3 (x2.trans x3)
  · refine hb H2 (x.trans x2) _ fun w H3 x3 p2 => ?_
    cases p2 with
    | lst ho hd =>
      rename_i xs
      have e := dpAll_ints hd
      subst e
      refine ⟨_, _, rfl, .inl ho, rfl, flat_ints ns, ?_⟩
      show Q (.bl (inV (.int i) (ns.map V.int))) H3
      rw [inV_int]
      exact q H3 (x2.trans x3)
theorem ev_niI {i : Int} {ns : List Int} (ha : Ev ta σ H (.int i)) (hb : EvD K tb σ H (.tuple (ns.map PyData.int)) ∨ EvD K tb σ H (.list (ns.map PyData.int))) : Ev (tOp (rIn K true) ta tb) σ H (.bl (!decide (i ∈ ns))) := fun H1 x Q q => ha H1 x _ fun H2 x2 => by
  rcases hb with hb | hb
  · refine hb H2 (x.trans x2) _ fun w H3 x3 p2 => ?_
    cases p2 with
    | tup ho hd =>
      rename_i xs
      have e := dpAll_ints hd
      subst e
      refine ⟨_, _, rfl, .inr ho, rfl, flat_ints ns, ?_⟩
      show Q (.bl (!inV (.int i) (ns.map V.int))) H3
      rw [inV_int]
      exact q H3 (x2.trans x3)
  · refine hb H2 (x.trans x2) _ fun w H3 x3 p2 => ?_
    cases p2 with
    | lst ho hd =>
      rename_i xs
      have e := dpAll_ints hd
      subst e
      refine ⟨_, _, rfl, .inl ho, rfl, flat_ints ns, ?_⟩
      show Q (.bl (!inV (.int i) (ns.map V.int))) H3
      rw [inV_int]
      exact q H3 (x2.trans x3)
/-! ### built-ins -/
theorem ev_lenD (ha : EvD K ta σ H d) (h : d = .list ds ∨ d = .tuple ds) : Ev (tCB (fun xs H Q => ∃ p ys, xs = [.ref p] ∧ (SqL K H p ys ∨ SqT K H p ys) ∧ Q (.int ys.length) H) (tCons ta tNil)) σ H (.int (ds.length : Int)) := fun H1 x Q q => ha H1 x _ fun v H2 x2 p => by
  rcases h with rfl | rfl
  · cases p with
    | lst ho hd =>
      rename_i a xs
      refine ⟨a, xs, rfl, .inl ho, ?_⟩
      rw [dpAll_len hd]
      exact q H2 x2
  · cases p with
    | tup ho hd =>
      rename_i a xs
      refine ⟨a, xs, rfl, .inr ho, ?_⟩
      rw [dpAll_len hd]
      exact q H2 x2
theorem ev_lenS {a : Addr} {xs : List V} (ha : Ev ta σ H (.ref a)) (h : SqL K H a xs) : Ev (tCB (fun xs H Q => ∃ p ys, xs = [.ref p] ∧ (SqL K H p ys ∨ SqT K H p ys) ∧ Q (.int ys.length) H) (tCons ta tNil)) σ H (.int (xs.length : Int)) := fun H1 x Q q => ha H1 x _ fun H2 x2 => ⟨a, xs, rfl, .inl (ex_l (x.trans x2) h), q H2 x2⟩
/-- tuple(x) of data without lists -/
theorem td_tupleL (ha : EvLT ta σ H ds) : EvTd (tCB (fun xs H Q => ∃ p ys, xs = [.ref p] ∧ ((SqL K H p ys ∧ ∀ l, H l = none → Q (.ref l) (upd H l (.tup ys))) ∨ (SqT K H p ys ∧ Q (.ref p) H))) (tCons ta tNil)) σ H (.tuple ds) := fun H1 x Q q => ha H1 x _ fun p H2 _ x2 ⟨xs, ho, hd⟩ =>
  ⟨p, xs, rfl, .inl ⟨SqL.of ho, fun l hl => q _ _ (x2.trans (Ex.new hl)) (.tup upd_same (hd.ex (Ex.new hl)))⟩⟩
theorem td_tupleV {a : Addr} (ha : Ev ta σ H (.ref a)) (h : LstT H a ds) : EvTd (tCB (fun xs H Q => ∃ p ys, xs = [.ref p] ∧ ((SqL K H p ys ∧ ∀ l, H l = none → Q (.ref l) (upd H l (.tup ys))) ∨ (SqT K H p ys ∧ Q (.ref p) H))) (tCons ta tNil)) σ H (.tuple ds) := fun H1 x Q q => ha H1 x _ fun H2 x2 => by
  obtain ⟨xs, ho, hd⟩ := h.ex (x.trans x2)
  exact ⟨a, xs, rfl, .inl ⟨SqL.of ho, fun l hl => q _ _ (x2.trans (Ex.new hl)) (.tup upd_same (hd.ex (Ex.new hl)))⟩⟩
theorem lt_list {a : Addr} (ha : Ev ta σ H (.ref a)) (h : LstT H a ds) : EvLT (tCB (fun xs H Q => ∃ p ys, xs = [.ref p] ∧ (SqL K H p ys ∨ SqT K H p ys) ∧ ∀ l, H l = none → Q (.ref l) (upd H l (.lst ys))) (tCons ta tNil)) σ H ds := fun H1 x Q q => ha H1 x _ fun H2 x2 => by
  obtain ⟨xs, ho, hd⟩ := h.ex (x.trans x2)
  exact ⟨a, xs, rfl, .inl (SqL.of ho), fun l hl => q _ _ (fresh_back x2 hl) (x2.trans (Ex.new hl)) ⟨xs, upd_same, hd.ex (Ex.new hl)⟩⟩
theorem ev_abs {i : Int} (ha : Ev ta σ H (.int i)) : Ev (tCB (fun xs H Q => ∃ i, xs = [.int i] ∧ Q (.int (if i < 0 then -i else i)) H) (tCons ta tNil)) σ H (.int (if i < 0 then -i else i)) := fun H1 x Q q => ha H1 x _ fun H2 x2 => ⟨i, rfl, q H2 x2⟩
theorem ev_isN (ha : Ev ta σ H x) : Ev (tOp (fun x y H Q => y = .non ∧ Q (.bl (decide (x = .non))) H) ta (tC .non)) σ H (.bl (decide (x = .non))) := fun H1 e Q q => ha H1 e _ fun H2 e2 => ⟨rfl, q H2 e2⟩
theorem ev_notN (ha : Ev ta σ H x) : Ev (tOp (fun x y H Q => y = .non ∧ Q (.bl (!decide (x = .non))) H) ta (tC .non)) σ H (.bl (!decide (x = .non))) := fun H1 e Q q => ha H1 e _ fun H2 e2 => ⟨rfl, q H2 e2⟩
theorem rv_isN : RV (fun x y H Q => y = .non ∧ Q (.bl (decide (x = .non))) H) x .non H (.bl (decide (x = .non))) := fun H1 e Q q => ⟨rfl, q H1 (Ex.refl H1)⟩
theorem rv_notN : RV (fun x y H Q => y = .non ∧ Q (.bl (!decide (x = .non))) H) x .non H (.bl (!decide (x = .non))) := fun H1 e Q q => ⟨rfl, q H1 (Ex.refl H1)⟩
theorem rv_eqI {i j : Int} : RV rEq (.int i) (.int j) H (.bl (decide (i = j))) := fun H1 e Q q => ⟨rfl, by
  have e2 : decide (V.int i = V.int j) = decide (i = j) := by simp
  rw [e2]
  exact q H1 (Ex.refl H1)⟩
theorem rv_neI {i j : Int} : RV rNe (.int i) (.int j) H (.bl (!decide (i = j))) := fun H1 e Q q => ⟨rfl, by
  have e2 : decide (V.int i = V.int j) = decide (i = j) := by simp
  rw [e2]
  exact q H1 (Ex.refl H1)⟩
/-! ### calls -/
theorem ta_cons {Q : List V → Hp → Prop} (h : ta σ H fun x H1 => tr σ H1 fun xs H2 => Q (x :: xs) H2) : tCons ta tr σ H Q := h
theorem ep_call {sp : Sp} {dvs : List V} {E : XK} {tr : TA} {Pa : List V → Hp → Prop} (h : EaP tr σ H Pa) (hs : ∀ vs H1, Ex H H1 → Pa vs H1 → ∀ Q : VK, (∀ v H2, Ex H1 H2 → P v H2 → Q v H2) → sp (vs ++ dvs) H1 Q E) : EvP (tCall sp dvs E tr) σ H P := fun H1 e Q q => h H1 e _ fun vs H2 e2 p => hs vs H2 (e.trans e2) p Q fun v H3 e3 p3 => q v H3 (e2.trans e3) p3
theorem ev_call0 {sp : Sp} {vs : List V} {E : XK} {tr : TA} (h : EvA tr σ H vs) (hs : SpV sp vs H z) : Ev (tCall sp [] E tr) σ H z := ev_call h (by rw [List.append_nil]; exact hs)
theorem ep_call0 {sp : Sp} {E : XK} {tr : TA} {Pa : List V → Hp → Prop} (h : EaP tr σ H Pa) (hs : ∀ vs H1, Ex H H1 → Pa vs H1 → ∀ Q : VK, (∀ v H2, Ex H1 H2 → P v H2 → Q v H2) → sp vs H1 Q E) : EvP (tCall sp [] E tr) σ H P :=
  ep_call h fun vs H1 e p Q q => by rw [List.append_nil]; exact hs vs H1 e p Q q
theorem ea_ep1 (h : EvP te σ H P) : EaP (tCons te tNil) σ H (fun vs H' => ∃ v, vs = [v] ∧ P v H') := fun H1 e Q q => h H1 e _ fun v H2 e2 p => q [v] H2 e2 ⟨v, rfl, p⟩
/-! ### statements -/
theorem tif_cases {b : Bool} (h : EvT t σ H b) (h1 : b = true → ∀ H1, Ex H H1 → tu D σ H1) (h2 : b = false → ∀ H1, Ex H H1 → tw D σ H1) : tIfS t tu tw D σ H := s_if h h1 h2
theorem s_asgP {i : Nat} (h : EvP te σ H P) (k : ∀ v H1, Ex H H1 → P v H1 → D.nx (σ.set i (some v)) H1) : tAsg te (gName i) D σ H := h H (Ex.refl H) _ fun v H1 e p => k v H1 e p
theorem q_asgP {i : Nat} (h : EvP te σ H P) (k : ∀ v H1, Ex H H1 → P v H1 → tz D (σ.set i (some v)) H1) : tSeq (tAsg te (gName i)) tz D σ H := h H (Ex.refl H) _ fun v H1 e p => k v H1 e p
theorem s_asgLT {i : Nat} (h : EvLT te σ H ds) (k : ∀ p H1, H p = none → Ex H H1 → LstT H1 p ds → D.nx (σ.set i (some (.ref p))) H1) : tAsg te (gName i) D σ H := h H (Ex.refl H) _ fun v H1 n e p => k v H1 n e p
theorem q_asgLT {i : Nat} (h : EvLT te σ H ds) (k : ∀ p H1, H p = none → Ex H H1 → LstT H1 p ds → tz D (σ.set i (some (.ref p))) H1) : tSeq (tAsg te (gName i)) tz D σ H := h H (Ex.refl H) _ fun v H1 n e p => k v H1 n e p
theorem s_retP (h : EvP te σ H P) (k : ∀ v H1, Ex H H1 → P v H1 → D.rt v H1) : tRet te D σ H := h H (Ex.refl H) _ fun v H1 e p => k v H1 e p
theorem s_retLT (h : EvLT te σ H ds) (k : ∀ p H1, H p = none → Ex H H1 → LstT H1 p ds → D.rt (.ref p) H1) : tRet te D σ H := h H (Ex.refl H) _ fun v H1 n e p => k v H1 n e p
theorem s_appT {l : Addr} (hl : LstT H l ds) (ha : Ev ta σ H (.ref l)) (h : EvTd te σ H d) (hz : ds.length < 100000) (k : ∀ H1 xs v, Ex H H1 → H1 l = some (.lst xs) → LstT (upd H1 l (.lst (xs ++ [v]))) l (ds ++ [d]) → D.nx σ (upd H1 l (.lst (xs ++ [v])))) :
    tDrop (tBM K "list" rAppend ta (tCons te tNil)) D σ H := by
  obtain ⟨xs, ho, hd⟩ := hl
  refine ha H (Ex.refl H) _ fun H1 e1 => ⟨Or.inl ⟨rfl, xs, sq_of (e1 l _ ho)⟩, h H1 e1 _ fun v H2 e2 p => ⟨l, xs, v, rfl, rfl, e2 l _ (e1 l _ ho), sz_lt (by rw [hd.len]; exact hz), ?_⟩⟩
  exact k H2 xs v (e1.trans e2) (e2 l _ (e1 l _ ho)) (LstT.push (e2 l _ (e1 l _ ho)) (hd.ex (e1.trans e2)) p)
theorem q_appT {l : Addr} (hl : LstT H l ds) (ha : Ev ta σ H (.ref l)) (h : EvTd te σ H d) (hz : ds.length < 100000) (k : ∀ H1 xs v, Ex H H1 → H1 l = some (.lst xs) → LstT (upd H1 l (.lst (xs ++ [v]))) l (ds ++ [d]) → tz D σ (upd H1 l (.lst (xs ++ [v])))) :
    tSeq (tDrop (tBM K "list" rAppend ta (tCons te tNil))) tz D σ H := s_appT (D := { D with nx := tz D }) hl ha h hz k
/-! ### comprehensions whose items are such data -/
def Ct (H : Hp) (f : Nat → Bool) (v : Nat → PyData) (Dl : Addr) (i : Nat) (H' : Hp) : Prop := H Dl = none ∧ Ex H H' ∧ LstT H' Dl (((List.range i).filter f).map v)
theorem len_filt (f : Nat → Bool) (v : Nat → PyData) (n : Nat) : (((List.range n).filter f).map v).length ≤ n := by
  rw [List.length_map]
  exact Nat.le_trans (List.length_filter_le _ _) (by simp)
theorem filt_yes {f : Nat → Bool} {v : Nat → PyData} {n : Nat} (h : f n = true) : ((List.range (n + 1)).filter f).map v = ((List.range n).filter f).map v ++ [v n] := by
  rw [List.range_succ, List.filter_append, List.map_append]
  simp [h]
theorem filt_no {f : Nat → Bool} {v : Nat → PyData} {n : Nat} (h : f n = false) : ((List.range (n + 1)).filter f).map v = ((List.range n).filter f).map v := by
  rw [List.range_succ, List.filter_append, List.map_append]
  simp [h]
theorem ct_turn {f : Nat → Bool} {v : Nat → PyData} {Dl : Addr} {i : Nat} {σ2 : L2.St} (p : Ct H f v Dl i H') (hi : i < 50000) (ht : EvT t σ2 H (f i)) (he : f i = true → EvTd te σ2 H (v i)) :
    t σ2 H' fun b H3 => if b = true then te σ2 H3 fun y H4 => ∃ acc, H4 Dl = some (.lst acc) ∧ acc.length < sizeLine ∧ Ct H f v Dl (i + 1) (upd H4 Dl (.lst (acc ++ [y]))) else Ct H f v Dl (i + 1) H3 := by
  obtain ⟨p1, p2, xs, p3, p4⟩ := p
  refine ht H' p2 _ fun H3 e3 => ?_
  cases hf : f i with
  | true =>
    show te σ2 H3 fun y H4 => ∃ acc, H4 Dl = some (.lst acc) ∧ acc.length < sizeLine ∧ Ct H f v Dl (i + 1) (upd H4 Dl (.lst (acc ++ [y])))
    refine he hf H3 (p2.trans e3) _ fun y H4 e4 q4 => ⟨xs, e4 Dl _ (e3 Dl _ p3), sz_lt (by have := len_filt f v i; rw [p4.len]; omega), p1, Ex.mut ((p2.trans e3).trans e4) p1, ?_⟩
    rw [filt_yes hf]
    exact LstT.push (e4 Dl _ (e3 Dl _ p3)) (p4.ex (e3.trans e4)) q4
  | false =>
    show Ct H f v Dl (i + 1) H3
    refine ⟨p1, p2.trans e3, ?_⟩
    rw [filt_no hf]
    exact ⟨xs, e3 Dl _ p3, p4.ex e3⟩
theorem lt_lcR1 {tr : TA} {j : Nat} {vs : List Nat} {n : Int} (f : Nat → Bool) (v : Nat → PyData) (h : EvA tr σ H [.int n]) (hn : n ≤ 40000) (hw : ∀ x, wipe ((wipe σ vs).set j (some x)) vs = wipe σ vs)
    (ht : ∀ (i : Nat) H1, Ex H H1 → (i : Int) < n → EvT t ((wipe σ vs).set j (some (.int (i : Int)))) H1 (f i)) (he : ∀ (i : Nat) H1, Ex H H1 → (i : Int) < n → f i = true → EvTd te ((wipe σ vs).set j (some (.int (i : Int)))) H1 (v i)) (hn0 : -100000 ≤ n := by omega) :
    EvLT (tLc (iRng1 tr) (gName j) t te vs) σ H (((List.range n.toNat).filter f).map v) := fun H0 e Q q => h H0 e _ fun H1 e1 => ⟨n, rfl, by omega, by omega, fun Dl hD =>
  lc_range (lo := 0) (n := n.toNat) (Ct H1 f v Dl) ⟨hD, Ex.new hD, ⟨[], upd_same, .nil⟩⟩ (fun i H' hi p => by
    have e0 : (0 : Int) + (i : Int) = (i : Int) := Int.zero_add _
    show wipe ((wipe σ vs).set j (some (.int ((0 : Int) + (i : Int))))) vs = wipe σ vs ∧ t ((wipe σ vs).set j (some (.int ((0 : Int) + (i : Int))))) H' fun b H3 => if b = true then te ((wipe σ vs).set j (some (.int ((0 : Int) + (i : Int))))) H3 fun y H4 => ∃ acc, H4 Dl = some (.lst acc) ∧ acc.length < sizeLine ∧ Ct H1 f v Dl (i + 1) (upd H4 Dl (.lst (acc ++ [y]))) else Ct H1 f v Dl (i + 1) H3
    rw [e0]
    exact ⟨hw _, ct_turn p (by omega) (ht i H1 (e.trans e1) (by omega)) (fun hf => he i H1 (e.trans e1) (by omega) hf)⟩) (fun H' p => q Dl H' (fresh_back e1 p.1) (e1.trans p.2.1) p.2.2)⟩
theorem lt_lcR2 {tr : TA} {j : Nat} {vs : List Nat} {lo n : Int} (f : Nat → Bool) (v : Nat → PyData) (h : EvA tr σ H [.int lo, .int n]) (hn : 0 ≤ lo ∧ lo ≤ 100000 ∧ -100000 ≤ n ∧ n ≤ 40000) (hw : ∀ x, wipe ((wipe σ vs).set j (some x)) vs = wipe σ vs)
    (ht : ∀ (i : Nat) H1, Ex H H1 → lo + (i : Int) < n → EvT t ((wipe σ vs).set j (some (.int (lo + (i : Int))))) H1 (f i)) (he : ∀ (i : Nat) H1, Ex H H1 → lo + (i : Int) < n → f i = true → EvTd te ((wipe σ vs).set j (some (.int (lo + (i : Int))))) H1 (v i)) :
    EvLT (tLc (iRng2 tr) (gName j) t te vs) σ H (((List.range (n - lo).toNat).filter f).map v) := fun H0 e Q q => h H0 e _ fun H1 e1 => ⟨lo, n, rfl, ⟨by omega, by omega, by omega, by omega⟩, fun Dl hD =>
  lc_range (lo := lo) (n := (n - lo).toNat) (Ct H1 f v Dl) ⟨hD, Ex.new hD, ⟨[], upd_same, .nil⟩⟩ (fun i H' hi p =>
    ⟨hw _, ct_turn p (by omega) (ht i H1 (e.trans e1) (by omega)) (fun hf => he i H1 (e.trans e1) (by omega) hf)⟩) (fun H' p => q Dl H' (fresh_back e1 p.1) (e1.trans p.2.1) p.2.2)⟩
end
section
variable {K : PySem.W.Frag} {σ : L2.St} {H H' : Hp} {ta tb te tx : TE} {t u : TT} {x y z v : V} {r : R2} {tr : TA} {D : Ends} {tu tw tz : TS} {P P' : V → Hp → Prop} {d : PyData} {ds : List PyData}
theorem filt_all {n : Nat} (v : Nat → PyData) : ((List.range n).filter fun _ => true).map v = (List.range n).map v := by rw [List.filter_eq_self.mpr (fun _ _ => rfl)]
theorem et_yes0 : EvT tYes σ H true := fun H1 _ Q q => q H1 (Ex.refl H1)
theorem lt_mapR1 {j : Nat} {vs : List Nat} {n : Int} (v : Nat → PyData) (h : EvA tr σ H [.int n]) (hn : n ≤ 40000) (hw : ∀ x, wipe ((wipe σ vs).set j (some x)) vs = wipe σ vs)
    (he : ∀ (i : Nat) H1, Ex H H1 → (i : Int) < n → EvTd te ((wipe σ vs).set j (some (.int (i : Int)))) H1 (v i)) (hn0 : -100000 ≤ n := by omega) :
    EvLT (tLc (iRng1 tr) (gName j) tYes te vs) σ H ((List.range n.toNat).map v) := by
  have h2 := lt_lcR1 (t := tYes) (te := te) (fun _ => true) v h hn hw (fun _ _ _ _ => et_yes0) (fun i H1 e hi _ => he i H1 e hi) hn0
  rw [filt_all] at h2
  exact h2
theorem lt_mapR2 {j : Nat} {vs : List Nat} {lo n : Int} (v : Nat → PyData) (h : EvA tr σ H [.int lo, .int n]) (hn : 0 ≤ lo ∧ lo ≤ 100000 ∧ -100000 ≤ n ∧ n ≤ 40000) (hw : ∀ x, wipe ((wipe σ vs).set j (some x)) vs = wipe σ vs)
    (he : ∀ (i : Nat) H1, Ex H H1 → lo + (i : Int) < n → EvTd te ((wipe σ vs).set j (some (.int (lo + (i : Int))))) H1 (v i)) :
    EvLT (tLc (iRng2 tr) (gName j) tYes te vs) σ H ((List.range (n - lo).toNat).map v) := by
  have h2 := lt_lcR2 (t := tYes) (te := te) (fun _ => true) v h hn hw (fun _ _ _ _ => et_yes0) (fun i H1 e hi _ => he i H1 e hi)
  rw [filt_all] at h2
  exact h2
theorem atI_getD {i : Int} (h0 : 0 ≤ i) (h1 : i < (ds.length : Int)) : atI ds i = some (ds.getD i.toNat .none) := by
  have hl : i.toNat < ds.length := by omega
  have := at0 (ds := ds) (j := i.toNat) (d := ds.getD i.toNat .none) (by rw [List.getD_eq_getElem?_getD, List.getElem?_eq_getElem hl]; rfl)
  rw [show ((i.toNat : Nat) : Int) = i by omega] at this
  exact this
/-- an item of a written list of ints -/
theorem ev_ixInts {xs : List Int} {i : Int} (h : EaTd tr σ H (xs.map PyData.int)) (hb : Ev tb σ H (.int i)) (h0 : 0 ≤ i) (h1 : i < (xs.length : Int)) (hl : xs.length ≤ 100000 := by first | decide | simp) : Ev (tOp (rIxL K) (tLst tr) tb) σ H (.int (xs.getD i.toNat 0)) := by
  refine ev_of_td (td_ixL (lt_lst h (by rw [List.length_map]; exact hl)) hb ?_)
  have hl2 : i.toNat < xs.length := by omega
  have := at0 (ds := xs.map PyData.int) (j := i.toNat) (d := .int (xs.getD i.toNat 0)) (by rw [List.getElem?_map, List.getD_eq_getElem?_getD, List.getElem?_eq_getElem hl2]; rfl)
  rw [show ((i.toNat : Nat) : Int) = i by omega] at this
  exact this
theorem ev_callP {sp : Sp} {E : XK} {Pa : List V → Hp → Prop} (h : EaP tr σ H Pa) (hs : ∀ vs H1, Ex H H1 → Pa vs H1 → SpV sp vs H1 z) : Ev (tCall sp [] E tr) σ H z := fun H1 e Q q => h H1 e _ fun vs H2 e2 p => by
  show sp (vs ++ []) H2 Q E
  rw [List.append_nil]
  exact hs vs H2 (e.trans e2) p H2 (Ex.refl H2) Q (fun H3 e3 => q H3 (e2.trans e3)) E
/-- arguments, one by one -/
theorem dpAll1 {vs : List V} {d : PyData} (h : DpAll K H vs [d]) : ∃ v, vs = [v] ∧ Dp K H v d := by
  cases h with | cons a b => cases b; exact ⟨_, rfl, a⟩
theorem dpAll2 {vs : List V} {d e : PyData} (h : DpAll K H vs [d, e]) : ∃ v u, vs = [v, u] ∧ Dp K H v d ∧ Dp K H u e := by
  cases h with | cons a b => cases b with | cons b c => cases c; exact ⟨_, _, rfl, a, b⟩
theorem dpAll3 {vs : List V} {d e f : PyData} (h : DpAll K H vs [d, e, f]) : ∃ v u x, vs = [v, u, x] ∧ Dp K H v d ∧ Dp K H u e ∧ Dp K H x f := by
  cases h with | cons a b => cases b with | cons b c => cases c with | cons c d => cases d; exact ⟨_, _, _, rfl, a, b, c⟩
theorem dpAll4 {vs : List V} {d e f g : PyData} (h : DpAll K H vs [d, e, f, g]) : ∃ v u x y, vs = [v, u, x, y] ∧ Dp K H v d ∧ Dp K H u e ∧ Dp K H x f ∧ Dp K H y g := by
  cases h with | cons a b => cases b with | cons b c => cases c with | cons c d => cases d with | cons d e => cases e; exact ⟨_, _, _, _, rfl, a, b, c, d⟩
theorem ed_int {i : Int} (h : Ev te σ H (.int i)) : EvD K te σ H (.int i) := ep_ev h fun _ _ => .int i
end
section
variable {K : PySem.W.Frag} {σ : L2.St} {H H' : Hp} {ta tb te tx : TE} {D : Ends} {tz : TS} {d : PyData} {ds es : List PyData}
theorem TdAll.set {v : V} (h : Td H v d) : ∀ {ds : List PyData} {vs : List V} (j : Nat), TdAll H vs ds → TdAll H (vs.set j v) (ds.set j d)
  | [], _, _, .nil => .nil
  | _ :: _, _, 0, .cons _ b => .cons h b
  | _ :: _, _, j + 1, .cons a b => .cons a (TdAll.set h j b)
/-- xs[j] = e -/
theorem s_setT {l : Addr} {i : Int} {j : Nat} (hl : LstT H l ds) (h : EvTd te σ H d) (ho : Ev ta σ H (.ref l)) (hi : Ev tb σ H (.int i)) (ei : i = (j : Int)) (hj : j < ds.length) (k : ∀ H1 xs v, Ex H H1 → H1 l = some (.lst xs) → LstT (upd H1 l (.lst (xs.set j v))) l (ds.set j d) → D.nx σ (upd H1 l (.lst (xs.set j v)))) :
    tAsg te (gSub ta tb rSetL) D σ H := by
  obtain ⟨xs, hx, hd⟩ := hl
  subst ei
  refine h H (Ex.refl H) _ fun v H1 e1 p => ho H1 e1 _ fun H2 e2 => hi H2 (e1.trans e2) _ fun H3 e3 => ?_
  have e13 := (e1.trans e2).trans e3
  have hx3 := e13 _ _ hx
  refine ⟨l, xs, (j : Int), j, rfl, rfl, hx3, ixN_nat (by rw [hd.len]; exact hj), k H3 xs v e13 hx3 ⟨_, upd_same, ?_⟩⟩
  exact TdAll.upd hx3 (TdAll.set (p.ex (e2.trans e3)) j (hd.ex e13))
theorem q_setT {l : Addr} {i : Int} {j : Nat} (hl : LstT H l ds) (h : EvTd te σ H d) (ho : Ev ta σ H (.ref l)) (hi : Ev tb σ H (.int i)) (ei : i = (j : Int)) (hj : j < ds.length) (k : ∀ H1 xs v, Ex H H1 → H1 l = some (.lst xs) → LstT (upd H1 l (.lst (xs.set j v))) l (ds.set j d) → tz D σ (upd H1 l (.lst (xs.set j v)))) :
    tSeq (tAsg te (gSub ta tb rSetL)) tz D σ H := s_setT (D := { D with nx := tz D }) hl h ho hi ei hj k
/-- list + list -/
theorem lt_cat {l : Addr} (ha : Ev ta σ H (.ref l)) (hl : LstT H l ds) (hb : EvLT tb σ H es) (hz : ds.length + es.length ≤ 100000) : EvLT (tOp rCat ta tb) σ H (ds ++ es) := fun H1 e Q q => ha H1 e _ fun H2 e2 => hb H2 (e.trans e2) _ fun p H3 np e3 hp => by
  obtain ⟨xs, hx, hd⟩ := hl.ex ((e.trans e2).trans e3)
  obtain ⟨ys, hy, he⟩ := hp
  refine ⟨l, p, xs, ys, rfl, rfl, hx, hy, sz_of (by rw [hd.len, he.len]; exact hz), fun r nr => q r _ (fresh_back (e2.trans e3) nr) ((e2.trans e3).trans (Ex.new nr)) ⟨_, upd_same, (TdAll.append hd he).ex (Ex.new nr)⟩⟩
theorem lt_cat2 (ha : EvLT ta σ H ds) (hb : EvLT tb σ H es) (hz : ds.length + es.length ≤ 100000) : EvLT (tOp rCat ta tb) σ H (ds ++ es) := fun H1 e Q q => ha H1 e _ fun l H2 nl e2 hl => hb H2 (e.trans e2) _ fun p H3 np e3 hp => by
  obtain ⟨xs, hx, hd⟩ := hl.ex e3
  obtain ⟨ys, hy, he⟩ := hp
  refine ⟨l, p, xs, ys, rfl, rfl, hx, hy, sz_of (by rw [hd.len, he.len]; exact hz), fun r nr => q r _ (fresh_back (e2.trans e3) nr) ((e2.trans e3).trans (Ex.new nr)) ⟨_, upd_same, (TdAll.append hd he).ex (Ex.new nr)⟩⟩
end
section
variable {K : PySem.W.Frag} {σ : L2.St} {H H' : Hp} {ta tb te tx tl : TE} {D : Ends} {tz tu : TS} {d : PyData} {ds es : List PyData} {tr : TA} {g : TG}
/-! ### loops over data -/
theorem s_forD (h : EvD K tl σ H (.list ds)) (Pv : Hp → Nat → L2.St → Hp → Prop) (h0 : ∀ H1, Ex H H1 → Pv H1 0 σ H1) (hx : ∀ H1 i σ' H', Pv H1 i σ' H' → Ex H1 H')
    (hs : ∀ H1, Ex H H1 → ∀ i d x σ' H', ds[i]? = some d → Dp K H' x d → Pv H1 i σ' H' → g x σ' H' fun σ2 H2 => tu { D with nx := Pv H1 (i + 1), ct := Pv H1 (i + 1), bk := D.nx } σ2 H2)
    (hd : ∀ H1, Ex H H1 → ∀ σ' H', Pv H1 ds.length σ' H' → D.nx σ' H') : tFor (iList K tl) g tu D σ H := by
  refine h H (Ex.refl H) _ fun v H1 e1 p => ?_
  cases p with
  | lst ho hda =>
    rename_i a xs
    have hlen := dpAll_len hda
    refine ⟨a, rfl, ⟨xs, ho⟩, for_list (K := K) (a := a) (xs := xs) (Pv H1) (h0 H1 e1) (fun i σ' H' _ p => ex_l (hx H1 i σ' H' p) ho) (fun i x σ' H' hx' p => ?_) (fun σ' H' p => hd H1 e1 σ' H' (by rw [← hlen]; exact p))⟩
    obtain ⟨d, hd1, hd2⟩ := dpAll_getV hda hx'
    exact hs H1 e1 i d x σ' H' hd1 (dp_ex (hx H1 i σ' H' p) hd2) p
theorem s_forU (h : EvD K tl σ H (.tuple ds)) (Pv : Hp → Nat → L2.St → Hp → Prop) (h0 : ∀ H1, Ex H H1 → Pv H1 0 σ H1) (hx : ∀ H1 i σ' H', Pv H1 i σ' H' → Ex H1 H')
    (hs : ∀ H1, Ex H H1 → ∀ i d x σ' H', ds[i]? = some d → Dp K H' x d → Pv H1 i σ' H' → g x σ' H' fun σ2 H2 => tu { D with nx := Pv H1 (i + 1), ct := Pv H1 (i + 1), bk := D.nx } σ2 H2)
    (hd : ∀ H1, Ex H H1 → ∀ σ' H', Pv H1 ds.length σ' H' → D.nx σ' H') : tFor (iTup K tl) g tu D σ H := by
  refine h H (Ex.refl H) _ fun v H1 e1 p => ?_
  cases p with
  | tup ho hda =>
    rename_i a xs
    have hlen := dpAll_len hda
    refine ⟨a, rfl, ⟨xs, ho⟩, for_tup (K := K) (a := a) (xs := xs) (Pv H1) (h0 H1 e1) (fun i σ' H' _ p => ex_t (hx H1 i σ' H' p) ho) (fun i x σ' H' hx' p => ?_) (fun σ' H' p => hd H1 e1 σ' H' (by rw [← hlen]; exact p))⟩
    obtain ⟨d, hd1, hd2⟩ := dpAll_getV hda hx'
    exact hs H1 e1 i d x σ' H' hd1 (dp_ex (hx H1 i σ' H' p) hd2) p
theorem q_forD (h : EvD K tl σ H (.list ds)) (Pv : Hp → Nat → L2.St → Hp → Prop) (h0 : ∀ H1, Ex H H1 → Pv H1 0 σ H1) (hx : ∀ H1 i σ' H', Pv H1 i σ' H' → Ex H1 H')
    (hs : ∀ H1, Ex H H1 → ∀ i d x σ' H', ds[i]? = some d → Dp K H' x d → Pv H1 i σ' H' → g x σ' H' fun σ2 H2 => tu { D with nx := Pv H1 (i + 1), ct := Pv H1 (i + 1), bk := tz D } σ2 H2)
    (hd : ∀ H1, Ex H H1 → ∀ σ' H', Pv H1 ds.length σ' H' → tz D σ' H') : tSeq (tFor (iList K tl) g tu) tz D σ H := s_forD (D := { D with nx := tz D }) h Pv h0 hx hs hd
theorem q_forU (h : EvD K tl σ H (.tuple ds)) (Pv : Hp → Nat → L2.St → Hp → Prop) (h0 : ∀ H1, Ex H H1 → Pv H1 0 σ H1) (hx : ∀ H1 i σ' H', Pv H1 i σ' H' → Ex H1 H')
    (hs : ∀ H1, Ex H H1 → ∀ i d x σ' H', ds[i]? = some d → Dp K H' x d → Pv H1 i σ' H' → g x σ' H' fun σ2 H2 => tu { D with nx := Pv H1 (i + 1), ct := Pv H1 (i + 1), bk := tz D } σ2 H2)
    (hd : ∀ H1, Ex H H1 → ∀ σ' H', Pv H1 ds.length σ' H' → tz D σ' H') : tSeq (tFor (iTup K tl) g tu) tz D σ H := s_forU (D := { D with nx := tz D }) h Pv h0 hx hs hd
/-! ### a call whose value is dropped; arguments of data -/
theorem s_dropC {sp : Sp} {E : XK} (h : EaD K tr σ H ds) (k : ∀ vs H1, Ex H H1 → DpAll K H1 vs ds → sp vs H1 (fun _ H2 => D.nx σ H2) E) : tDrop (tCall sp [] E tr) D σ H := h H (Ex.refl H) _ fun vs H1 e1 p => by
  show sp (vs ++ []) H1 _ E
  rw [List.append_nil]
  exact k vs H1 e1 p
theorem q_dropC {sp : Sp} {E : XK} (h : EaD K tr σ H ds) (k : ∀ vs H1, Ex H H1 → DpAll K H1 vs ds → sp vs H1 (fun _ H2 => tz D σ H2) E) : tSeq (tDrop (tCall sp [] E tr)) tz D σ H := s_dropC (D := { D with nx := tz D }) h k
/-- x = f(..) -/
theorem s_asgC {sp : Sp} {E : XK} {i : Nat} (h : EaD K tr σ H ds) (k : ∀ vs H1, Ex H H1 → DpAll K H1 vs ds → sp vs H1 (fun v H2 => D.nx (σ.set i (some v)) H2) E) : tAsg (tCall sp [] E tr) (gName i) D σ H := h H (Ex.refl H) _ fun vs H1 e1 p => by
  show sp (vs ++ []) H1 _ E
  rw [List.append_nil]
  exact k vs H1 e1 p
theorem q_asgC {sp : Sp} {E : XK} {i : Nat} (h : EaD K tr σ H ds) (k : ∀ vs H1, Ex H H1 → DpAll K H1 vs ds → sp vs H1 (fun v H2 => tz D (σ.set i (some v)) H2) E) : tSeq (tAsg (tCall sp [] E tr) (gName i)) tz D σ H := s_asgC (D := { D with nx := tz D }) h k
theorem s_retC {sp : Sp} {E : XK} (h : EaD K tr σ H ds) (k : ∀ vs H1, Ex H H1 → DpAll K H1 vs ds → sp vs H1 D.rt E) : tRet (tCall sp [] E tr) D σ H := h H (Ex.refl H) _ fun vs H1 e1 p => by
  show sp (vs ++ []) H1 _ E
  rw [List.append_nil]
  exact k vs H1 e1 p
/-! ### slices of tuples -/
theorem dpAll_drop : ∀ {ds : List PyData} {vs : List V} (n : Nat), DpAll K H vs ds → DpAll K H (vs.drop n) (ds.drop n)
  | _, _, 0, h => h
  | [], _, n + 1, .nil => .nil
  | _ :: _, _, n + 1, .cons _ b => dpAll_drop n b
theorem dpAll_take : ∀ {ds : List PyData} {vs : List V} (n : Nat), DpAll K H vs ds → DpAll K H (vs.take n) (ds.take n)
  | _, _, 0, _ => by simp only [List.take_zero]; exact .nil
  | [], _, n + 1, .nil => .nil
  | _ :: _, _, n + 1, .cons a b => .cons a (dpAll_take n b)
def cutD (ds : List PyData) (lo hi : Option Int) : List PyData := (ds.drop (HT.sIx ds.length 0 lo)).take (HT.sIx ds.length ds.length hi - HT.sIx ds.length 0 lo)
theorem ed_slU {lo hi : Option Int} {t1 t2 : TO} (h : EvD K te σ H (.tuple ds)) (h1 : EvO t1 σ H lo) (h2 : EvO t2 σ H hi) : EvD K (tSl (rSlA K) te t1 t2) σ H (.tuple (cutD ds lo hi)) := fun H1 e Q q => h H1 e _ fun v H2 e2 p => h1 H2 (e.trans e2) _ fun H3 e3 => h2 H3 ((e.trans e2).trans e3) _ fun H4 e4 => by
  have p4 := dp_ex (e3.trans e4) p
  have e24 := (e2.trans e3).trans e4
  cases p4 with
  | tup ho hd =>
    rename_i a xs
    have hlen := dpAll_len hd
    refine ⟨a, xs, rfl, ho, fun hw => ?_, fun hw r nr => ?_⟩
    · have ec : cutD ds lo hi = ds := by
        unfold cutD
        rw [← hlen, hw.1, hw.2, List.drop_zero, hlen, Nat.sub_zero, List.take_length]
      exact q _ H4 e24 (by rw [ec]; exact .tup ho hd)
    · refine q _ _ (e24.trans (Ex.new nr)) (.tup (SqT.of upd_same) ?_)
      unfold cutD cutV
      rw [hlen]
      exact dpAll_ex (Ex.new nr) (dpAll_take _ (dpAll_drop _ hd))
/-! ### xs.count(True) of a list of truth values -/
theorem td_bls : ∀ bs : List Bool, TdAll H (bs.map V.bl) (bs.map PyData.bool)
  | [] => .nil
  | b :: r => .cons (.bl b) (td_bls r)
theorem tdAll_bls : ∀ {bs : List Bool} {vs : List V}, TdAll H vs (bs.map PyData.bool) → vs = bs.map V.bl
  | [], _, .nil => rfl
  | b :: r, _, .cons h q => by
    cases h
    rw [tdAll_bls q]
    rfl
theorem count_bls (bs : List Bool) : (bs.map V.bl).countP (fun z => eqV z (.bl true)) = bs.countP id := by
  induction bs with
  | nil => rfl
  | cons b r ih =>
    rw [List.map_cons, List.countP_cons, List.countP_cons, ih]
    cases b <;> rfl
theorem flat_bls : ∀ bs : List Bool, (bs.map V.bl).all flatV = true
  | [] => rfl
  | _ :: r => by simp [flatV, flat_bls r]
theorem ev_countT {l : Addr} {bs : List Bool} (ha : Ev ta σ H (.ref l)) (hl : LstT H l (bs.map PyData.bool)) : Ev (tBM K "list" (rCntF K) ta (tCons (tC (.bl true)) tNil)) σ H (.int (bs.countP id : Nat)) := fun H1 e Q q => ha H1 e _ fun H2 e2 => by
  obtain ⟨xs, hx, hd⟩ := hl.ex (e.trans e2)
  have ex := tdAll_bls hd
  subst ex
  refine ⟨.inl ⟨rfl, _, SqL.of hx⟩, l, _, _, rfl, rfl, SqL.of hx, rfl, flat_bls bs, ?_⟩
  rw [count_bls]
  exact q H2 e2
end
section
variable {K : PySem.W.Frag} {σ : L2.St} {H H' : Hp} {ta tb te : TE} {d : PyData} {ds : List PyData}
theorem lt_listU (ha : EvTd ta σ H (.tuple ds)) : EvLT (tCB (fun xs H Q => ∃ p ys, xs = [.ref p] ∧ (SqL K H p ys ∨ SqT K H p ys) ∧ ∀ l, H l = none → Q (.ref l) (upd H l (.lst ys))) (tCons ta tNil)) σ H ds := fun H1 x Q q => ha H1 x _ fun v H2 x2 p => by
  cases p with
  | tup ho hd =>
    rename_i a xs
    exact ⟨a, xs, rfl, .inr (SqT.of ho), fun l hl => q _ _ (fresh_back x2 hl) (x2.trans (Ex.new hl)) ⟨xs, upd_same, hd.ex (Ex.new hl)⟩⟩
theorem td_ixLV {l : Addr} {i : Int} (ha : Ev ta σ H (.ref l)) (hl : LstT H l ds) (hb : Ev tb σ H (.int i)) (h : atI ds i = some d) : EvTd (tOp (rIxL K) ta tb) σ H d := fun H1 e Q q => ha H1 e _ fun H2 e2 => hb H2 (e.trans e2) _ fun H3 e3 => by
  obtain ⟨xs, ho, hd⟩ := hl.ex ((e.trans e2).trans e3)
  obtain ⟨j, h1, h2, h3, _⟩ := atI_get h
  obtain ⟨w, h4, h5⟩ := hd.get h2
  refine ⟨_, xs, i, w, rfl, rfl, SqL.of ho, ?_, q w H3 (e2.trans e3) h5⟩
  have : atI xs i = some w := by
    unfold atI at h ⊢
    rw [hd.len]
    cases e5 : ixN ds.length i with
    | none => rw [e5] at h; cases h
    | some k =>
      have hk := (ixN_seq e5).1
      rw [hk] at h1
      cases h1
      exact h4
  exact this
theorem LstT.upd_ne {l p : Addr} {xs : List V} {o : HO} (h : LstT H p ds) (hl : H l = some (.lst xs)) (ne : p ≠ l) : LstT (L2.upd H l o) p ds := by
  obtain ⟨ys, a, b⟩ := h
  exact ⟨ys, by rw [L2.upd_ne ne]; exact a, b.upd hl⟩
theorem ev_inW {i : Int} {ns : List Int} (ha : Ev ta σ H (.int i)) (hb : EvTd tb σ H (.tuple (ns.map PyData.int))) : Ev (tOp (rIn K false) ta tb) σ H (.bl (decide (i ∈ ns))) := ev_inI ha (.inl (ed_td hb))
theorem ev_niW {i : Int} {ns : List Int} (ha : Ev ta σ H (.int i)) (hb : EvTd tb σ H (.tuple (ns.map PyData.int))) : Ev (tOp (rIn K true) ta tb) σ H (.bl (!decide (i ∈ ns))) := ev_niI ha (.inl (ed_td hb))
end
section
variable {K : PySem.W.Frag} {σ : L2.St} {H H' : Hp} {ta tb te : TE} {d : PyData} {ds : List PyData} {tr : TA} {v : V} {P : V → Hp → Prop} {R : List V → Hp → Prop}
/-! ### arguments and tuples, part by part -/
theorem ea_pn (h : ∀ H1, Ex H H1 → R [] H1) : EaP tNil σ H R := fun H1 e Q q => q [] H1 (Ex.refl H1) (h H1 e)
theorem ea_pc (h : EvP te σ H P) (k : ∀ v H1, Ex H H1 → P v H1 → EaP tr σ H1 (fun vs H' => R (v :: vs) H')) : EaP (tCons te tr) σ H R := fun H1 e Q q => h H1 e _ fun v H2 e2 p => k v H2 (e.trans e2) p H2 (Ex.refl H2) _ fun vs H3 e3 r => q _ H3 (e2.trans e3) r
theorem ea_pv (h : Ev te σ H v) (k : ∀ H1, Ex H H1 → EaP tr σ H1 (fun vs H' => R (v :: vs) H')) : EaP (tCons te tr) σ H R := fun H1 e Q q => h H1 e _ fun H2 e2 => k H2 (e.trans e2) H2 (Ex.refl H2) _ fun vs H3 e3 r => q _ H3 (e2.trans e3) r
theorem ea_pl (h : EvLT te σ H ds) (k : ∀ p H1, Ex H H1 → H p = none → LstT H1 p ds → EaP tr σ H1 (fun vs H' => R (.ref p :: vs) H')) : EaP (tCons te tr) σ H R := fun H1 e Q q => h H1 e _ fun p H2 np e2 r => k p H2 (e.trans e2) (fresh_back e np) r H2 (Ex.refl H2) _ fun vs H3 e3 r => q _ H3 (e2.trans e3) r
theorem ep_tupP (h : EaP tr σ H R) (hl : ∀ vs H', R vs H' → vs.length ≤ 100000) : EvP (tTup tr) σ H (fun v H' => ∃ p vs H0, v = .ref p ∧ H' p = some (.tup vs) ∧ Ex H H0 ∧ Ex H0 H' ∧ R vs H0) := fun H1 e Q q => h H1 e _ fun vs H2 e2 r => ⟨sz_of (hl vs H2 r), fun p np => q _ _ (e2.trans (Ex.new np)) ⟨p, vs, H2, rfl, upd_same, e.trans e2, Ex.new np, r⟩⟩
end
theorem et_yes {σ : L2.St} {H : Hp} : EvT tYes σ H true := fun H1 _ Q q => q H1 (Ex.refl H1)
end Mz
namespace Mz
open PySem PySem.Spec PyProof.Rows L2 Evl
def topS (i : Nat) : Stmt := PySem.Challenge.pw_mazeguide_k12_read.main.body.getD i (.Pass ⟨0, 0, 0, 0⟩)
abbrev s_need_room : Stmt := topS 13
theorem sc_need_room : FnScope ["maze", "room"] ["maze", "room"] (defScope s_need_room) := ⟨rfl, rfl, rfl, by decide +kernel, rfl, by decide +kernel, by decide +kernel⟩
abbrev s_need_kind : Stmt := topS 14
theorem sc_need_kind : FnScope ["kind"] ["kind"] (defScope s_need_kind) := ⟨rfl, rfl, rfl, by decide +kernel, rfl, by decide +kernel, by decide +kernel⟩
abbrev s_checked : Stmt := topS 15
theorem sc_checked : FnScope ["maze", "door", "lying"] ["maze"] (defScope s_checked) := ⟨rfl, rfl, rfl, by decide +kernel, rfl, by decide +kernel, by decide +kernel⟩
abbrev s_number_of : Stmt := topS 18
theorem sc_number_of : FnScope ["word", "sign"] ["word"] (defScope s_number_of) := ⟨rfl, rfl, rfl, by decide +kernel, rfl, by decide +kernel, by decide +kernel⟩
abbrev s_door_of : Stmt := topS 19
theorem sc_door_of : FnScope ["words", "lock"] ["words"] (defScope s_door_of) := ⟨rfl, rfl, rfl, by decide +kernel, rfl, by decide +kernel, by decide +kernel⟩
abbrev s_key_of : Stmt := topS 20
theorem sc_key_of : FnScope ["words"] ["words"] (defScope s_key_of) := ⟨rfl, rfl, rfl, by decide +kernel, rfl, by decide +kernel, by decide +kernel⟩
abbrev s_read : Stmt := topS 21
theorem sc_read : FnScope ["text", "rows", "words", "many", "doors", "lying", "row"] ["text"] (defScope s_read) := ⟨rfl, rfl, rfl, by decide +kernel, rfl, by decide +kernel, by decide +kernel⟩
abbrev s_l_mix : Stmt := topS 23
theorem sc_l_mix : FnScope ["_law_cell", "_law_k", "_law_number_here"] ["_law_cell", "_law_k"] (defScope s_l_mix) := ⟨rfl, rfl, rfl, by decide +kernel, rfl, by decide +kernel, by decide +kernel⟩
abbrev s_l_whole : Stmt := topS 24
theorem sc_l_whole : FnScope ["_law_found"] ["_law_found"] (defScope s_l_whole) := ⟨rfl, rfl, rfl, by decide +kernel, rfl, by decide +kernel, by decide +kernel⟩
abbrev s_l_cell_at : Stmt := topS 25
theorem sc_l_cell_at : FnScope ["_law_script", "_law_k"] ["_law_script", "_law_k"] (defScope s_l_cell_at) := ⟨rfl, rfl, rfl, by decide +kernel, rfl, by decide +kernel, by decide +kernel⟩
abbrev s_l_sign_by : Stmt := topS 26
theorem sc_l_sign_by : FnScope ["_law_cell", "_law_some"] ["_law_cell"] (defScope s_l_sign_by) := ⟨rfl, rfl, rfl, by decide +kernel, rfl, by decide +kernel, by decide +kernel⟩
abbrev s_l_odd : Stmt := topS 27
theorem sc_l_odd : FnScope ["_law_cell", "_law_some"] ["_law_cell"] (defScope s_l_odd) := ⟨rfl, rfl, rfl, by decide +kernel, rfl, by decide +kernel, by decide +kernel⟩
abbrev s_l_number : Stmt := topS 28
theorem sc_l_number : FnScope ["_law_word", "_law_sign"] ["_law_word"] (defScope s_l_number) := ⟨rfl, rfl, rfl, by decide +kernel, rfl, by decide +kernel, by decide +kernel⟩
abbrev s_l_part : Stmt := topS 29
theorem sc_l_part : FnScope ["_law_row", "_law_words", "_law_told_here", "_law_word"] ["_law_row"] (defScope s_l_part) := ⟨rfl, rfl, rfl, by decide +kernel, rfl, by decide +kernel, by decide +kernel⟩
abbrev s_l_due : Stmt := topS 30
theorem sc_l_due : FnScope ["_law_rows_here", "_law_words", "_law_size", "_law_made", "_law_doors", "_law_lying", "_law_part_here", "_law_row"] ["_law_rows_here"] (defScope s_l_due) := ⟨rfl, rfl, rfl, by decide +kernel, rfl, by decide +kernel, by decide +kernel⟩
abbrev s_l_told : Stmt := topS 31
theorem sc_l_told : FnScope ["_law_line"] ["_law_line"] (defScope s_l_told) := ⟨rfl, rfl, rfl, by decide +kernel, rfl, by decide +kernel, by decide +kernel⟩
abbrev s_l_refused : Stmt := topS 32
theorem sc_l_refused : FnScope ["_law_line", "e", "_law_kinds"] ["_law_line"] (defScope s_l_refused) := ⟨rfl, rfl, rfl, by decide +kernel, rfl, by decide +kernel, by decide +kernel⟩
abbrev s_l_alike : Stmt := topS 33
theorem sc_l_alike : FnScope ["_law_found", "_law_due_here", "_law_part_here", "_law_number_here"] ["_law_found", "_law_due_here"] (defScope s_l_alike) := ⟨rfl, rfl, rfl, by decide +kernel, rfl, by decide +kernel, by decide +kernel⟩
abbrev s_l_rows : Stmt := topS 34
theorem sc_l_rows : FnScope ["_law_script", "_law_size", "_law_made", "_law_cell", "_law_one", "_law_other", "_law_lock", "_law_some", "_law_doors", "_law_lying", "_law_pick", "_law_row"] ["_law_script"] (defScope s_l_rows) := ⟨rfl, rfl, rfl, by decide +kernel, rfl, by decide +kernel, by decide +kernel⟩
abbrev s_law : Stmt := topS 35
theorem sc_law : FnScope ["_law_script", "_law_rows_here", "_law_spoil", "_law_at", "_law_words", "_law_cut", "_law_sign", "_law_row", "_law_line", "_law_due_here", "_law_found"] ["_law_script"] (defScope s_law) := ⟨rfl, rfl, rfl, by decide +kernel, rfl, by decide +kernel, by decide +kernel⟩
structure Txt (K : PySem.W.Frag) (mg : Str → Option Value) : Prop where
  n_ValueError : mg "ValueError" = none
  n_abs : mg "abs" = none
  n_bool : mg "bool" = none
  n_int : mg "int" = none
  n_isinstance : mg "isinstance" = none
  n_len : mg "len" = none
  n_list : mg "list" = none
  n_max : mg "max" = none
  n_str : mg "str" = none
  n_tuple : mg "tuple" = none
  i_MOST_ROOMS : ∃ tk, mg "MOST_ROOMS" = some (.int 60 tk)
  i_MOST_DOORS : ∃ tk, mg "MOST_DOORS" = some (.int 90 tk)
  i_MOST_KEYS : ∃ tk, mg "MOST_KEYS" = some (.int 60 tk)
  i_KINDS : ∃ tk, mg "KINDS" = some (.int 5 tk)
  i_FIGURES : ∃ tk, mg "FIGURES" = some (.str "0123456789" tk)
  e_MazeError : ExcT K mg "MazeError"
  e_NoMaze : ExcT K mg "NoMaze"
  e_NoRoom : ExcT K mg "NoRoom"
  e_NoKey : ExcT K mg "NoKey"
  e_TooMany : ExcT K mg "TooMany"
  e_NoDoor : ExcT K mg "NoDoor"
  e_Shut : ExcT K mg "Shut"
  x_NoMaze : ExcC K (He.ga K "NoMaze")
  m_NoMaze_MazeError : PySem.W.exmOne K (.ref (He.ga K "NoMaze")) (.ref (He.ga K "MazeError")) = some true
  k_NoMaze_MazeError : PySem.W.kitOne K (.ref (He.ga K "NoMaze")) (.ref (He.ga K "MazeError")) = some true
  m_NoMaze_NoMaze : PySem.W.exmOne K (.ref (He.ga K "NoMaze")) (.ref (He.ga K "NoMaze")) = some true
  k_NoMaze_NoMaze : PySem.W.kitOne K (.ref (He.ga K "NoMaze")) (.ref (He.ga K "NoMaze")) = some true
  m_NoMaze_NoRoom : PySem.W.exmOne K (.ref (He.ga K "NoMaze")) (.ref (He.ga K "NoRoom")) = some false
  k_NoMaze_NoRoom : PySem.W.kitOne K (.ref (He.ga K "NoMaze")) (.ref (He.ga K "NoRoom")) = some false
  m_NoMaze_NoKey : PySem.W.exmOne K (.ref (He.ga K "NoMaze")) (.ref (He.ga K "NoKey")) = some false
  k_NoMaze_NoKey : PySem.W.kitOne K (.ref (He.ga K "NoMaze")) (.ref (He.ga K "NoKey")) = some false
  m_NoMaze_TooMany : PySem.W.exmOne K (.ref (He.ga K "NoMaze")) (.ref (He.ga K "TooMany")) = some false
  k_NoMaze_TooMany : PySem.W.kitOne K (.ref (He.ga K "NoMaze")) (.ref (He.ga K "TooMany")) = some false
  m_NoMaze_NoDoor : PySem.W.exmOne K (.ref (He.ga K "NoMaze")) (.ref (He.ga K "NoDoor")) = some false
  k_NoMaze_NoDoor : PySem.W.kitOne K (.ref (He.ga K "NoMaze")) (.ref (He.ga K "NoDoor")) = some false
  m_NoMaze_Shut : PySem.W.exmOne K (.ref (He.ga K "NoMaze")) (.ref (He.ga K "Shut")) = some false
  k_NoMaze_Shut : PySem.W.kitOne K (.ref (He.ga K "NoMaze")) (.ref (He.ga K "Shut")) = some false
  k_NoMaze_ValueError : PySem.W.kitOne K (.ref (He.ga K "NoMaze")) (.type "ValueError") = some true
  x_NoRoom : ExcC K (He.ga K "NoRoom")
  m_NoRoom_MazeError : PySem.W.exmOne K (.ref (He.ga K "NoRoom")) (.ref (He.ga K "MazeError")) = some true
  k_NoRoom_MazeError : PySem.W.kitOne K (.ref (He.ga K "NoRoom")) (.ref (He.ga K "MazeError")) = some true
  m_NoRoom_NoMaze : PySem.W.exmOne K (.ref (He.ga K "NoRoom")) (.ref (He.ga K "NoMaze")) = some false
  k_NoRoom_NoMaze : PySem.W.kitOne K (.ref (He.ga K "NoRoom")) (.ref (He.ga K "NoMaze")) = some false
  m_NoRoom_NoRoom : PySem.W.exmOne K (.ref (He.ga K "NoRoom")) (.ref (He.ga K "NoRoom")) = some true
  k_NoRoom_NoRoom : PySem.W.kitOne K (.ref (He.ga K "NoRoom")) (.ref (He.ga K "NoRoom")) = some true
  m_NoRoom_NoKey : PySem.W.exmOne K (.ref (He.ga K "NoRoom")) (.ref (He.ga K "NoKey")) = some false
  k_NoRoom_NoKey : PySem.W.kitOne K (.ref (He.ga K "NoRoom")) (.ref (He.ga K "NoKey")) = some false
  m_NoRoom_TooMany : PySem.W.exmOne K (.ref (He.ga K "NoRoom")) (.ref (He.ga K "TooMany")) = some false
  k_NoRoom_TooMany : PySem.W.kitOne K (.ref (He.ga K "NoRoom")) (.ref (He.ga K "TooMany")) = some false
  m_NoRoom_NoDoor : PySem.W.exmOne K (.ref (He.ga K "NoRoom")) (.ref (He.ga K "NoDoor")) = some false
  k_NoRoom_NoDoor : PySem.W.kitOne K (.ref (He.ga K "NoRoom")) (.ref (He.ga K "NoDoor")) = some false
  m_NoRoom_Shut : PySem.W.exmOne K (.ref (He.ga K "NoRoom")) (.ref (He.ga K "Shut")) = some false
  k_NoRoom_Shut : PySem.W.kitOne K (.ref (He.ga K "NoRoom")) (.ref (He.ga K "Shut")) = some false
  k_NoRoom_ValueError : PySem.W.kitOne K (.ref (He.ga K "NoRoom")) (.type "ValueError") = some true
  x_NoKey : ExcC K (He.ga K "NoKey")
  m_NoKey_MazeError : PySem.W.exmOne K (.ref (He.ga K "NoKey")) (.ref (He.ga K "MazeError")) = some true
  k_NoKey_MazeError : PySem.W.kitOne K (.ref (He.ga K "NoKey")) (.ref (He.ga K "MazeError")) = some true
  m_NoKey_NoMaze : PySem.W.exmOne K (.ref (He.ga K "NoKey")) (.ref (He.ga K "NoMaze")) = some false
  k_NoKey_NoMaze : PySem.W.kitOne K (.ref (He.ga K "NoKey")) (.ref (He.ga K "NoMaze")) = some false
  m_NoKey_NoRoom : PySem.W.exmOne K (.ref (He.ga K "NoKey")) (.ref (He.ga K "NoRoom")) = some false
  k_NoKey_NoRoom : PySem.W.kitOne K (.ref (He.ga K "NoKey")) (.ref (He.ga K "NoRoom")) = some false
  m_NoKey_NoKey : PySem.W.exmOne K (.ref (He.ga K "NoKey")) (.ref (He.ga K "NoKey")) = some true
  k_NoKey_NoKey : PySem.W.kitOne K (.ref (He.ga K "NoKey")) (.ref (He.ga K "NoKey")) = some true
  m_NoKey_TooMany : PySem.W.exmOne K (.ref (He.ga K "NoKey")) (.ref (He.ga K "TooMany")) = some false
  k_NoKey_TooMany : PySem.W.kitOne K (.ref (He.ga K "NoKey")) (.ref (He.ga K "TooMany")) = some false
  m_NoKey_NoDoor : PySem.W.exmOne K (.ref (He.ga K "NoKey")) (.ref (He.ga K "NoDoor")) = some false
  k_NoKey_NoDoor : PySem.W.kitOne K (.ref (He.ga K "NoKey")) (.ref (He.ga K "NoDoor")) = some false
  m_NoKey_Shut : PySem.W.exmOne K (.ref (He.ga K "NoKey")) (.ref (He.ga K "Shut")) = some false
  k_NoKey_Shut : PySem.W.kitOne K (.ref (He.ga K "NoKey")) (.ref (He.ga K "Shut")) = some false
  k_NoKey_ValueError : PySem.W.kitOne K (.ref (He.ga K "NoKey")) (.type "ValueError") = some true
  x_TooMany : ExcC K (He.ga K "TooMany")
  m_TooMany_MazeError : PySem.W.exmOne K (.ref (He.ga K "TooMany")) (.ref (He.ga K "MazeError")) = some true
  k_TooMany_MazeError : PySem.W.kitOne K (.ref (He.ga K "TooMany")) (.ref (He.ga K "MazeError")) = some true
  m_TooMany_NoMaze : PySem.W.exmOne K (.ref (He.ga K "TooMany")) (.ref (He.ga K "NoMaze")) = some false
  k_TooMany_NoMaze : PySem.W.kitOne K (.ref (He.ga K "TooMany")) (.ref (He.ga K "NoMaze")) = some false
  m_TooMany_NoRoom : PySem.W.exmOne K (.ref (He.ga K "TooMany")) (.ref (He.ga K "NoRoom")) = some false
  k_TooMany_NoRoom : PySem.W.kitOne K (.ref (He.ga K "TooMany")) (.ref (He.ga K "NoRoom")) = some false
  m_TooMany_NoKey : PySem.W.exmOne K (.ref (He.ga K "TooMany")) (.ref (He.ga K "NoKey")) = some false
  k_TooMany_NoKey : PySem.W.kitOne K (.ref (He.ga K "TooMany")) (.ref (He.ga K "NoKey")) = some false
  m_TooMany_TooMany : PySem.W.exmOne K (.ref (He.ga K "TooMany")) (.ref (He.ga K "TooMany")) = some true
  k_TooMany_TooMany : PySem.W.kitOne K (.ref (He.ga K "TooMany")) (.ref (He.ga K "TooMany")) = some true
  m_TooMany_NoDoor : PySem.W.exmOne K (.ref (He.ga K "TooMany")) (.ref (He.ga K "NoDoor")) = some false
  k_TooMany_NoDoor : PySem.W.kitOne K (.ref (He.ga K "TooMany")) (.ref (He.ga K "NoDoor")) = some false
  m_TooMany_Shut : PySem.W.exmOne K (.ref (He.ga K "TooMany")) (.ref (He.ga K "Shut")) = some false
  k_TooMany_Shut : PySem.W.kitOne K (.ref (He.ga K "TooMany")) (.ref (He.ga K "Shut")) = some false
  k_TooMany_ValueError : PySem.W.kitOne K (.ref (He.ga K "TooMany")) (.type "ValueError") = some true
  d_need_room : Dfn K mg "need_room" s_need_room ["maze", "room"]
  d_need_kind : Dfn K mg "need_kind" s_need_kind ["kind"]
  d_checked : Dfn K mg "checked" s_checked ["maze"]
  d_number_of : Dfn K mg "number_of" s_number_of ["word"]
  d_door_of : Dfn K mg "door_of" s_door_of ["words"]
  d_key_of : Dfn K mg "key_of" s_key_of ["words"]
  d_read : Dfn K mg "read" s_read ["text"]
  d_l_mix : Dfn K mg "_law_mix" s_l_mix ["_law_cell", "_law_k"]
  d_l_whole : Dfn K mg "_law_whole" s_l_whole ["_law_found"]
  d_l_cell_at : Dfn K mg "_law_cell_at" s_l_cell_at ["_law_script", "_law_k"]
  d_l_sign_by : Dfn K mg "_law_sign_by" s_l_sign_by ["_law_cell"]
  d_l_odd : Dfn K mg "_law_odd" s_l_odd ["_law_cell"]
  d_l_number : Dfn K mg "_law_number" s_l_number ["_law_word"]
  d_l_part : Dfn K mg "_law_part" s_l_part ["_law_row"]
  d_l_due : Dfn K mg "_law_due" s_l_due ["_law_rows_here"]
  d_l_told : Dfn K mg "_law_told" s_l_told ["_law_line"]
  d_l_refused : Dfn K mg "_law_refused" s_l_refused ["_law_line"]
  d_l_alike : Dfn K mg "_law_alike" s_l_alike ["_law_found", "_law_due_here"]
  d_l_rows : Dfn K mg "_law_rows" s_l_rows ["_law_script"]
  d_law : Dfn K mg "law" s_law ["_law_script"]
end Mz
namespace Mz
open PySem PySem.Spec PyProof.Rows L2 Evl
/-! ### the tactics of the readings -/
local macro_rules | `(tactic| walk_at "mz side") => `(tactic| first
  | assumption
  | omega
  | decide
  | exact Or.inl ⟨by omega, by omega⟩
  | exact Or.inr ⟨by omega, by omega⟩
  | exact ⟨by omega, by omega⟩
  | exact ⟨by decide, by decide, by decide⟩)
local macro_rules | `(tactic| walk_at "mz ev1") => `(tactic| first
  | exact ev_c
  | exact ev_var rfl
  | with_reducible apply ev_op
  | with_reducible exact rv_I0
  | ((with_reducible refine rv_I ?_); walk_at "mz side")
  | with_reducible exact rv_eqI
  | with_reducible exact rv_neI
  | with_reducible exact rv_isN
  | with_reducible exact rv_notN
  | with_reducible apply ev_un
  | with_reducible exact ru_neg
  | with_reducible apply ev_abs
  | with_reducible apply et_test
  | with_reducible apply et_B
  | with_reducible apply et_not
  | with_reducible apply et_and
  | with_reducible apply et_or
  | with_reducible apply ev_andV
  | with_reducible apply ev_orV
  | with_reducible apply ev_notV
  | with_reducible exact ea_nil
  | with_reducible apply ea_cons
  | with_reducible exact ea_tn
  | with_reducible apply ea_tc
  | with_reducible refine td_tup ?_ (by first | decide | simp)
  | with_reducible exact et_yes
  | ((with_reducible show ((_ : Bool) = (_ : Bool)) → _); intro _))
local macro_rules | `(tactic| walk_at "mz ev") => `(tactic| repeat' walk_at "mz ev1")
/-! ### data of a heap that stands below -/
section
variable {K : PySem.W.Frag} {σ : L2.St} {H H' H0 : Hp} {ta tb te tl : TE} {t : TT} {tu tz : TS} {D : Ends} {g : TG} {d : PyData} {ds : List PyData} {v : V} {tr : TA}
theorem ev_of_tdN (h : EvTd te σ H .none) : Ev te σ H .non := fun H1 e Q q => h H1 e Q fun v H2 e2 p => by cases p; exact q H2 e2
theorem ev_of_edN (h : EvD K te σ H .none) : Ev te σ H .non := fun H1 e Q q => h H1 e Q fun v H2 e2 p => by cases p; exact q H2 e2
theorem atI_len {α β : Type} {xs : List α} {ys : List β} (hl : xs.length = ys.length) {i : Int} {y : β} {j : Nat} (h : atI ys i = some y) (h1 : ixN ys.length i = some j) {x : α} (hx : xs[j]? = some x) : atI xs i = some x := by
  unfold atI
  rw [hl, h1]
  exact hx
/-- an item of data that stands -/
theorem dp_item {i : Int} (h : Dp K H0 v (.tuple ds)) (hi : atI ds i = some d) : ∃ u, Dp K H0 u d ∧ ∀ {ta tb : TE} {σ : L2.St} {H : Hp}, Ex H0 H → Ev ta σ H v → Ev tb σ H (.int i) → Ev (tOp (rIxT K) ta tb) σ H u := by
  cases h with
  | tup ho hd =>
    rename_i a xs
    obtain ⟨j, h1, h2, h3, _⟩ := atI_get hi
    obtain ⟨w, h4, h5⟩ := dpAll_get hd h2
    have hat : atI xs i = some w := by
      unfold atI at hi ⊢
      rw [dpAll_len hd]
      cases e5 : ixN ds.length i with
      | none => rw [e5] at hi; cases hi
      | some k =>
        have hk := (ixN_seq e5).1
        rw [hk] at h1
        cases h1
        exact h4
    exact ⟨w, h5, fun e h1 h2 => ev_op h1 h2 (rv_ixT (ex_t e ho) hat)⟩
theorem dp_itemL {i : Int} (h : Dp K H0 v (.list ds)) (hi : atI ds i = some d) : ∃ u, Dp K H0 u d ∧ ∀ {ta tb : TE} {σ : L2.St} {H : Hp}, Ex H0 H → Ev ta σ H v → Ev tb σ H (.int i) → Ev (tOp (rIxL K) ta tb) σ H u := by
  cases h with
  | lst ho hd =>
    rename_i a xs
    obtain ⟨j, h1, h2, h3, _⟩ := atI_get hi
    obtain ⟨w, h4, h5⟩ := dpAll_get hd h2
    have hat : atI xs i = some w := by
      unfold atI at hi ⊢
      rw [dpAll_len hd]
      cases e5 : ixN ds.length i with
      | none => rw [e5] at hi; cases hi
      | some k =>
        have hk := (ixN_seq e5).1
        rw [hk] at h1
        cases h1
        exact h4
    exact ⟨w, h5, fun e h1 h2 => ev_op h1 h2 (rv_ixL (ex_l e ho) hat)⟩
/-- loops over it -/
theorem s_forV (h : Ev tl σ H v) (hv : Dp K H0 v (.list ds)) (e0 : Ex H0 H) (Pv : Nat → L2.St → Hp → Prop) (h0 : ∀ H1, Ex H H1 → Pv 0 σ H1) (hx : ∀ i σ' H', Pv i σ' H' → Ex H0 H')
    (hs : ∀ i d x σ' H', ds[i]? = some d → Dp K H0 x d → Pv i σ' H' → g x σ' H' fun σ2 H2 => tu { D with nx := Pv (i + 1), ct := Pv (i + 1), bk := D.nx } σ2 H2)
    (hd : ∀ σ' H', Pv ds.length σ' H' → D.nx σ' H') : tFor (iList K tl) g tu D σ H := by
  cases hv with
  | lst ho hda =>
    rename_i a xs
    have hlen := dpAll_len hda
    refine s_forL h (ex_l e0 ho) Pv h0 (fun i σ' H' _ p => ex_l (hx i σ' H' p) ho) (fun i x σ' H' hx' p => ?_) (fun σ' H' p => hd σ' H' (by rw [← hlen]; exact p))
    obtain ⟨d, hd1, hd2⟩ := dpAll_getV hda hx'
    exact hs i d x σ' H' hd1 hd2 p
theorem q_forV (h : Ev tl σ H v) (hv : Dp K H0 v (.list ds)) (e0 : Ex H0 H) (Pv : Nat → L2.St → Hp → Prop) (h0 : ∀ H1, Ex H H1 → Pv 0 σ H1) (hx : ∀ i σ' H', Pv i σ' H' → Ex H0 H')
    (hs : ∀ i d x σ' H', ds[i]? = some d → Dp K H0 x d → Pv i σ' H' → g x σ' H' fun σ2 H2 => tu { D with nx := Pv (i + 1), ct := Pv (i + 1), bk := tz D } σ2 H2)
    (hd : ∀ σ' H', Pv ds.length σ' H' → tz D σ' H') : tSeq (tFor (iList K tl) g tu) tz D σ H := s_forV (D := { D with nx := tz D }) h hv e0 Pv h0 hx hs hd
/-- comprehensions over it -/
theorem filt_take {α β : Type} {xs : List α} {i : Nat} {a : α} (h : xs[i]? = some a) (p : α → Bool) (w : α → β) : ((xs.take (i + 1)).filter p).map w = ((xs.take i).filter p).map w ++ (if p a = true then [w a] else []) := by
  have e : xs.take (i + 1) = xs.take i ++ [a] := by rw [List.take_succ, h]; rfl
  rw [e, List.filter_append, List.map_append]
  by_cases hp : p a = true
  · simp [hp]
  · simp [hp]
theorem lt_lcV {α : Type} {Dd : α → PyData} {xs : List α} {lv : V} {vs : List Nat} (p : α → Bool) (w : α → PyData) (h : Ev tl σ H lv) (hl : Dp K H lv (.list (xs.map Dd))) (hn : xs.length ≤ 40000)
    (hg : ∀ a, a ∈ xs → ∀ x H1, Ex H H1 → Dp K H x (Dd a) → ∀ Q : L2.St → Hp → Prop, (∀ σ2, wipe σ2 vs = wipe σ vs → EvT t σ2 H1 (p a) → (p a = true → EvTd te σ2 H1 (w a)) → Q σ2 H1) → g x (wipe σ vs) H1 Q) :
    EvLT (tLc (iList K tl) g t te vs) σ H ((xs.filter p).map w) := fun H1 e Q q => h H1 e _ fun H2 e2 => by
  cases hl with
  | lst ho hda =>
    rename_i a ys
    have hlen := dpAll_len hda
    rw [List.length_map] at hlen
    have e02 := e.trans e2
    refine ⟨a, rfl, ⟨ys, ex_l e02 ho⟩, fun Dl hD => lc_list (K := K) (a := a) (xs := ys) (fun i H' => H2 Dl = none ∧ Ex H2 H' ∧ LstT H' Dl (((xs.take i).filter p).map w)) ⟨hD, Ex.new hD, ⟨[], upd_same, .nil⟩⟩ (fun i H' _ pp => ex_l (e02.trans pp.2.1) ho) (fun i x H' hx pp => ?_) (fun H' pp => ?_)⟩
    · obtain ⟨p1, p2, zs, p3, p4⟩ := pp
      obtain ⟨d, hd1, hd2⟩ := dpAll_getV hda hx
      rw [List.getElem?_map] at hd1
      obtain ⟨b, hb, rfl⟩ := Option.map_eq_some_iff.mp hd1
      have hil : i < xs.length := (List.getElem?_eq_some_iff.mp hb).1
      refine hg b (List.mem_of_getElem? hb) x H' (e02.trans p2) hd2 _ fun σ2 hw ht he => ⟨hw, ht H' (Ex.refl H') _ fun H3 e3 => ?_⟩
      cases hf : p b with
      | true =>
        show te σ2 H3 fun y H4 => ∃ acc, H4 Dl = some (.lst acc) ∧ acc.length < sizeLine ∧ (H2 Dl = none ∧ Ex H2 (upd H4 Dl (.lst (acc ++ [y]))) ∧ LstT (upd H4 Dl (.lst (acc ++ [y]))) Dl (((xs.take (i + 1)).filter p).map w))
        refine he hf H3 e3 _ fun y H4 e4 q4 => ⟨zs, e4 Dl _ (e3 Dl _ p3), sz_lt ?_, p1, Ex.mut ((p2.trans e3).trans e4) p1, ?_⟩
        · rw [p4.len, List.length_map]
          have h1 := List.length_filter_le p (xs.take i)
          have h2 := List.length_take_le i xs
          omega
        · rw [filt_take hb, if_pos hf]
          exact LstT.push (e4 Dl _ (e3 Dl _ p3)) (p4.ex (e3.trans e4)) q4
      | false =>
        show H2 Dl = none ∧ Ex H2 H3 ∧ LstT H3 Dl (((xs.take (i + 1)).filter p).map w)
        refine ⟨p1, p2.trans e3, ?_⟩
        rw [filt_take hb, if_neg (by rw [hf]; simp), List.append_nil]
        exact ⟨zs, e3 Dl _ p3, p4.ex e3⟩
    · obtain ⟨p1, p2, p3⟩ := pp
      rw [hlen, List.take_length] at p3
      exact q Dl H' (fresh_back e2 p1) (e2.trans p2) p3
/-- clear -/
theorem q_clear {l : Addr} {xs : List V} (ha : Ev ta σ H (.ref l)) (hl : H l = some (.lst xs)) (k : ∀ H1, Ex H H1 → H1 l = some (.lst xs) → tz D σ (upd H1 l (.lst []))) : tSeq (tDrop (tBM0 K "list" rClear ta)) tz D σ H := ha H (Ex.refl H) _ fun H1 e1 => ⟨Or.inl ⟨rfl, xs, sq_of (e1 l _ hl)⟩, l, xs, rfl, rfl, e1 l _ hl, k H1 e1 (e1 l _ hl)⟩
end
section
variable {K : PySem.W.Frag} {σ : L2.St} {H H' H0 : Hp} {ta tb te tl : TE} {v : V} {tr : TA}
theorem rv_eqB {a b : Bool} : RV rEq (.bl a) (.bl b) H (.bl (decide (a = b))) := fun H1 e Q q => ⟨rfl, by
  have e2 : decide (V.bl a = V.bl b) = decide (a = b) := by simp
  rw [e2]
  exact q H1 (Ex.refl H1)⟩
theorem rv_neB {a b : Bool} : RV rNe (.bl a) (.bl b) H (.bl (!decide (a = b))) := fun H1 e Q q => ⟨rfl, by
  have e2 : decide (V.bl a = V.bl b) = decide (a = b) := by simp
  rw [e2]
  exact q H1 (Ex.refl H1)⟩
theorem rv_eqS {a b : Str} : RV rEq (.str a) (.str b) H (.bl (decide (a = b))) := fun H1 e Q q => ⟨rfl, by
  have e2 : decide (V.str a = V.str b) = decide (a = b) := by simp
  rw [e2]
  exact q H1 (Ex.refl H1)⟩
theorem rv_neS {a b : Str} : RV rNe (.str a) (.str b) H (.bl (!decide (a = b))) := fun H1 e Q q => ⟨rfl, by
  have e2 : decide (V.str a = V.str b) = decide (a = b) := by simp
  rw [e2]
  exact q H1 (Ex.refl H1)⟩
end

/-! ### the data of mazes -/
abbrev Key2 := Int × Int
abbrev Door := Int × Int × Option Int
def lockD : Option Int → PyData
  | none => .none
  | some k => .int k
def doorD (d : Door) : PyData := .tuple [.int d.1, .int d.2.1, lockD d.2.2]
def keyD (k : Key2) : PyData := .tuple [.int k.1, .int k.2]
def intsD (ns : List Int) : PyData := .tuple (ns.map PyData.int)
mutual
def nb : PyData → Bool
  | .none => true
  | .int _ => true
  | .list xs => nbAll xs
  | .tuple xs => nbAll xs
  | _ => false
def nbAll : List PyData → Bool
  | [] => true
  | x :: xs => nb x && nbAll xs
end
mutual
theorem nb_lay : ∀ d : PyData, nb d = true → d.canLay0 = true
  | .none, _ => by simp only [PyData.canLay0]
  | .int _, _ => by simp only [PyData.canLay0]
  | .bool _, h => by simp [nb] at h
  | .str _, h => by simp [nb] at h
  | .dict _, h => by simp [nb] at h
  | .list xs, h => by simp only [PyData.canLay0]; exact nb_layAll xs (by simpa only [nb] using h)
  | .tuple xs, h => by simp only [PyData.canLay0]; exact nb_layAll xs (by simpa only [nb] using h)
theorem nb_layAll : ∀ ds : List PyData, nbAll ds = true → PyData.canLayAll0 ds = true
  | [], _ => by simp only [PyData.canLayAll0]
  | x :: xs, h => by
    simp only [nbAll, Bool.and_eq_true] at h
    simp only [PyData.canLayAll0, Bool.and_eq_true]
    exact ⟨nb_lay x h.1, nb_layAll xs h.2⟩
end
mutual
theorem eqv_nb : ∀ d e : PyData, nb d = true → nb e = true → (PyData.eqv d e = true ↔ d = e)
  | .none, .none, _, _ => by simp [PyData.eqv]
  | .none, .int _, _, _ => by simp [PyData.eqv]
  | .none, .list _, _, _ => by simp [PyData.eqv]
  | .none, .tuple _, _, _ => by simp [PyData.eqv]
  | .int _, .none, _, _ => by simp [PyData.eqv]
  | .int i, .int j, _, _ => by simp [PyData.eqv]
  | .int _, .list _, _, _ => by simp [PyData.eqv]
  | .int _, .tuple _, _, _ => by simp [PyData.eqv]
  | .list _, .none, _, _ => by simp [PyData.eqv]
  | .list _, .int _, _, _ => by simp [PyData.eqv]
  | .list xs, .list ys, h, q => by
    simp only [PyData.eqv, PyData.list.injEq]
    exact eqv_nbAll xs ys (by simpa only [nb] using h) (by simpa only [nb] using q)
  | .list _, .tuple _, _, _ => by simp [PyData.eqv]
  | .tuple _, .none, _, _ => by simp [PyData.eqv]
  | .tuple _, .int _, _, _ => by simp [PyData.eqv]
  | .tuple _, .list _, _, _ => by simp [PyData.eqv]
  | .tuple xs, .tuple ys, h, q => by
    simp only [PyData.eqv, PyData.tuple.injEq]
    exact eqv_nbAll xs ys (by simpa only [nb] using h) (by simpa only [nb] using q)
  | .bool _, _, h, _ => by simp [nb] at h
  | .str _, _, h, _ => by simp [nb] at h
  | .dict _, _, h, _ => by simp [nb] at h
  | .none, .bool _, _, h => by simp [nb] at h
  | .none, .str _, _, h => by simp [nb] at h
  | .none, .dict _, _, h => by simp [nb] at h
  | .int _, .bool _, _, h => by simp [nb] at h
  | .int _, .str _, _, h => by simp [nb] at h
  | .int _, .dict _, _, h => by simp [nb] at h
  | .list _, .bool _, _, h => by simp [nb] at h
  | .list _, .str _, _, h => by simp [nb] at h
  | .list _, .dict _, _, h => by simp [nb] at h
  | .tuple _, .bool _, _, h => by simp [nb] at h
  | .tuple _, .str _, _, h => by simp [nb] at h
  | .tuple _, .dict _, _, h => by simp [nb] at h
theorem eqv_nbAll : ∀ ds es : List PyData, nbAll ds = true → nbAll es = true → (PyData.eqvAll ds es = true ↔ ds = es)
  | [], [], _, _ => by simp [PyData.eqvAll]
  | [], _ :: _, _, _ => by simp [PyData.eqvAll]
  | _ :: _, [], _, _ => by simp [PyData.eqvAll]
  | x :: xs, y :: ys, h, q => by
    simp only [nbAll, Bool.and_eq_true] at h q
    simp only [PyData.eqvAll, Bool.and_eq_true, List.cons.injEq, eqv_nb x y h.1 q.1, eqv_nbAll xs ys h.2 q.2]
end
theorem eqv_self {d : PyData} (h : nb d = true) : PyData.eqv d d = true := (eqv_nb d d h h).mpr rfl
theorem eqv_dec {d e : PyData} {p : Prop} [Decidable p] (h : nb d = true) (q : nb e = true) (k : d = e ↔ p) : PyData.eqv d e = decide p := by
  by_cases c : p
  · rw [decide_eq_true c]
    exact (eqv_nb d e h q).mpr (k.mpr c)
  · rw [decide_eq_false c]
    cases z : PyData.eqv d e with
    | false => rfl
    | true => exact absurd (k.mp ((eqv_nb d e h q).mp z)) c
theorem nbAll_iff : ∀ {ds : List PyData}, nbAll ds = true ↔ ∀ d ∈ ds, nb d = true
  | [] => by simp [nbAll]
  | x :: xs => by simp [nbAll, nbAll_iff (ds := xs)]
theorem nbAll_map {α : Type} {f : α → PyData} (h : ∀ a, nb (f a) = true) (l : List α) : nbAll (l.map f) = true := nbAll_iff.mpr fun d hd => by
  obtain ⟨a, _, rfl⟩ := List.mem_map.mp hd
  exact h a
/-- depth -/
theorem depthAll_le {n : Nat} : ∀ {ds : List PyData}, (∀ d ∈ ds, d.depth ≤ n) → PyData.depthAll ds ≤ n
  | [], _ => by simp [PyData.depthAll]
  | x :: xs, h => by
    have h1 := h x (by simp)
    have h2 := depthAll_le (ds := xs) fun d hd => h d (by simp [hd])
    simp only [PyData.depthAll]
    omega
theorem depth_tuple {n : Nat} {ds : List PyData} (h : ∀ d ∈ ds, d.depth ≤ n) : PyData.depth (.tuple ds) ≤ n + 1 := by
  have := depthAll_le h
  simp only [PyData.depth]
  omega
theorem depth_list {n : Nat} {ds : List PyData} (h : ∀ d ∈ ds, d.depth ≤ n) : PyData.depth (.list ds) ≤ n + 1 := by
  have := depthAll_le h
  simp only [PyData.depth]
  omega
theorem depth_int (i : Int) : PyData.depth (.int i) = 0 := by simp [PyData.depth]
theorem depth_map {α : Type} {n : Nat} {f : α → PyData} (h : ∀ a, (f a).depth ≤ n) (l : List α) : ∀ d ∈ l.map f, d.depth ≤ n := fun d hd => by
  obtain ⟨a, _, rfl⟩ := List.mem_map.mp hd
  exact h a
theorem shaped_of {d : PyData} (h : nb d = true) (k : d.depth ≤ 64) : SeqAt.shaped d = true := by
  show (d.canLay0 && decide (d.depth ≤ 64)) = true
  rw [Bool.and_eq_true]
  exact ⟨nb_lay d h, decide_eq_true k⟩
theorem nb_lock (l : Option Int) : nb (lockD l) = true := by cases l <;> simp [lockD, nb]
theorem nb_door (d : Door) : nb (doorD d) = true := by simp [doorD, nb, nbAll, nb_lock]
theorem nb_key (k : Key2) : nb (keyD k) = true := by simp [keyD, nb, nbAll]
theorem nb_intD (i : Int) : nb (.int i) = true := by simp [nb]
theorem nb_ints (ns : List Int) : nb (intsD ns) = true := by simp only [intsD, nb]; exact nbAll_map nb_intD ns
theorem dep_lock (l : Option Int) : (lockD l).depth = 0 := by cases l <;> simp [lockD, PyData.depth]
theorem dep_door (d : Door) : (doorD d).depth ≤ 1 := by simp [doorD, PyData.depth, PyData.depthAll, dep_lock]
theorem dep_key (k : Key2) : (keyD k).depth ≤ 1 := by simp [keyD, PyData.depth, PyData.depthAll]
theorem dep_ints (ns : List Int) : (intsD ns).depth ≤ 1 := depth_tuple (depth_map (fun i => by simp [PyData.depth]) ns)
theorem sh_key (k : Key2) : SeqAt.shaped (keyD k) = true := shaped_of (nb_key k) (by have := dep_key k; omega)
theorem sh_ints (ns : List Int) : SeqAt.shaped (intsD ns) = true := shaped_of (nb_ints ns) (by have := dep_ints ns; omega)
theorem nb_keys (ks : List Key2) : nb (.list (ks.map keyD)) = true := by simp only [nb]; exact nbAll_map nb_key ks
theorem sh_keys (ks : List Key2) : SeqAt.shaped (.list (ks.map keyD)) = true := shaped_of (nb_keys ks) (by have := depth_list (depth_map dep_key ks); omega)
theorem nb_doors (ks : List Door) : nb (.list (ks.map doorD)) = true := by simp only [nb]; exact nbAll_map nb_door ks
theorem sh_doors (ks : List Door) : SeqAt.shaped (.list (ks.map doorD)) = true := shaped_of (nb_doors ks) (by have := depth_list (depth_map dep_door ks); omega)
theorem keyD_inj {a b : Key2} : keyD a = keyD b ↔ a = b := by
  obtain ⟨a1, a2⟩ := a
  obtain ⟨b1, b2⟩ := b
  simp [keyD]
theorem eqv_key (a b : Key2) : PyData.eqv (keyD a) (keyD b) = decide (a = b) := eqv_dec (nb_key a) (nb_key b) keyD_inj
theorem any_key (k : Key2) : ∀ ks : List Key2, ((ks.map keyD).any fun z => PyData.eqv z (keyD k)) = decide (k ∈ ks)
  | [] => by simp
  | a :: r => by
    have h := any_key k r
    rw [List.map_cons, List.any_cons, h, eqv_key]
    by_cases e : a = k
    · subst e; simp
    · have e2 : ¬ k = a := fun z => e z.symm
      simp [e, e2]
theorem map_inj {α β : Type} {f : α → β} (h : ∀ a b, f a = f b → a = b) : ∀ {l m : List α}, l.map f = m.map f → l = m
  | [], [], _ => rfl
  | [], _ :: _, e => by simp at e
  | _ :: _, [], e => by simp at e
  | a :: l, b :: m, e => by
    simp only [List.map_cons, List.cons.injEq] at e
    rw [h a b e.1, map_inj h e.2]
theorem intsD_inj {a b : List Int} : intsD a = intsD b ↔ a = b := by
  refine ⟨fun e => ?_, fun e => by rw [e]⟩
  simp only [intsD, PyData.tuple.injEq] at e
  exact map_inj (fun a b z => by simpa using z) e
theorem eqv_ints (a b : List Int) : PyData.eqv (intsD a) (intsD b) = decide (a = b) := eqv_dec (nb_ints a) (nb_ints b) intsD_inj
/-- the kinds of which p tells True, ascending -/
def kindsOf (p : Nat → Bool) : List Int := ((List.range 5).filter p).map fun (i : Nat) => (i : Int)
theorem kindsOf_data (p : Nat → Bool) : ((List.range 5).filter p).map (fun (i : Nat) => PyData.int (i : Int)) = (kindsOf p).map PyData.int := by
  unfold kindsOf
  rw [List.map_map]
  rfl
def keysIn (ks : List Key2) (room : Int) : List Int := kindsOf fun i => decide ((room, (i : Int)) ∈ ks)
def takenF (ks : List Key2) (room : Int) (held : List Int) : List Int := kindsOf fun i => decide ((i : Int) ∈ held) || decide ((room, (i : Int)) ∈ ks)
def mazeD (n : Int) (dd : List PyData) (ks : List Key2) : PyData := .tuple [.int n, .list dd, .list (ks.map keyD)]
/-- the room is there -/
abbrev Here (n room : Int) : Prop := 0 ≤ room ∧ room < n
/-- a cell of the script -/
def cellAt (ns : List Int) (k : Int) : Int := if k < ns.length then ns.getD k.toNat 0 else 0

section
variable {P : Program} {w : World} {K : PySem.W.Frag} {mg : Str → Option Value} {base : Heap}
/-! ### isinstance -/
theorem rc_isi {H : Hp} {x c : V} {t u : Value} {b : Bool} (kc : ClsV c u) (ty : ∀ H1, Ex H H1 → TyX K H1 x t) (hk : PySem.W.kitOne K t u = some b) : RC (rIsi K) [x, c] H (.bl b) := fun H1 e Q q => ⟨x, c, t, u, b, rfl, kc, ty H1 e, hk, q H1 (Ex.refl H1)⟩
theorem ty_tup {H : Hp} {v : V} {ds : List PyData} (h : Dp K H v (.tuple ds)) : TyX K H v (.type "tuple") := by
  cases h with
  | tup h _ =>
    rcases h with (h | ⟨o, h⟩) | ⟨o, its, n, h, hc, _⟩
    · exact .base (.tup h)
    · exact .fTuple h
    · exact .kTuple h hc
theorem ty_lst {H : Hp} {v : V} {ds : List PyData} (h : Dp K H v (.list ds)) : TyX K H v (.type "list") := by
  cases h with
  | lst h _ =>
    rcases h with (h | ⟨o, h⟩) | ⟨o, its, n, h, hc, _⟩
    · exact .base (.lst h)
    · exact .base (.frz h)
    · exact .kList h hc
theorem ev_isi {σ : L2.St} {H : Hp} {ta : TE} {v : V} {n m : String} {b : Bool} (h : Ev ta σ H v) (ty : ∀ H1, Ex H H1 → TyX K H1 v (.type n)) (hk : kitB n m = some b) : Ev (tCB (rIsi K) (tCons ta (tCons (tC (.ty m)) tNil))) σ H (.bl b) :=
  ev_cb (ea_cons h (ea_cons ev_c ea_nil)) (rc_isi (.ty m) ty (kit_ty hk))
theorem ev_isiD {σ : L2.St} {H : Hp} {ta : TE} {d : PyData} {n m : String} {b : Bool} (h : EvD K ta σ H d) (ty : ∀ v H1, Ex H H1 → Dp K H1 v d → TyX K H1 v (.type n)) (hk : kitB n m = some b) : Ev (tCB (rIsi K) (tCons ta (tCons (tC (.ty m)) tNil))) σ H (.bl b) := fun H1 e Q q =>
  h H1 e _ fun v H2 e2 p => ⟨v, .ty m, .type n, .type m, b, rfl, .ty m, ty v H2 (e.trans e2) p, kit_ty hk, q H2 e2⟩
theorem ev_isE {st : L2.St} {H : Hp} {ta : TE} {a D : Addr} {c : V} {cv : Value} {b : Bool} (h : Ev ta st H (.ref a)) (hc : ∀ u, L2.RelV c u → u = cv) (hk : PySem.W.kitOne K (.ref D) cv = some b) : Ev (tCB (rIsE K D a) (tCons ta (tCons (tC c) tNil))) st H (.bl b) :=
  ev_cb (ea_cons h (ea_cons ev_c ea_nil)) fun H1 _ Q q => ⟨c, cv, b, rfl, hc, hk, q H1 (Ex.refl H1)⟩
end

def mix (c k : Int) : Int := (c + 7919 * k + 1) * 48271 % 1000003 * ((c + 7919 * k + 1) * 48271 % 1000003) % 999983
theorem mix_pos (c k : Int) : 0 ≤ mix c k := Int.emod_nonneg _ (by decide)
theorem mix_lt (c k : Int) : mix c k < 999983 := Int.emod_lt_of_pos _ (by decide)
def sp_l_mix (K : PySem.W.Frag) : Sp := fun vs H Q _ => ∃ c k : Int, vs = [.int c, .int k] ∧ ∀ H2, Ex H H2 → Q (.int (mix c k)) H2
section
variable {P : Program} {w : World} {K : PySem.W.Frag} {mg : Str → Option Value} {base : Heap}
theorem ok_l_mix (T : Txt K mg) : Kept P w K mg base 1 "_law_mix" ["_law_cell", "_law_k"] (sp_l_mix K) := by
  refine T.d_l_mix.kept sc_l_mix (fun vs H Q E h => ?_) (fun cdv A outer s H vs Q E hr h => ?_)
  · obtain ⟨c, k, rfl, _⟩ := h
    rfl
  · obtain ⟨c, k, rfl, q⟩ := h
    refine ⟨_, (pss_cons (ps_set (i := 2) sc_l_mix.nd rfl (Or.inl rfl) (pe_op op_mod (pe_op op_mul (pe_op op_add (pe_op op_add (pv 0) (pe_op op_mul pe_int (pv 1))) pe_int) pe_int) pe_int))
      (pss_one (ps_ret (pe_op op_mod (pe_op op_mul (pv 2) (pv 2)) pe_int)))), ?_⟩
    refine q_asg (v := .int ((c + 7919 * k + 1) * 48271 % 1000003)) ?_ fun H1 e1 => ?_
    · walk_at "mz ev"
    refine s_ret (v := .int (mix c k)) ?_ fun H2 e2 => q _ (e1.trans e2)
    unfold mix
    walk_at "mz ev"
theorem sv_l_mix {H : Hp} {c k : Int} : SpV (sp_l_mix K) [.int c, .int k] H (.int (mix c k)) := fun H1 e Q q E => ⟨c, k, rfl, q⟩
end

section
variable {P : Program} {w : World} {K : PySem.W.Frag} {mg : Str → Option Value} {base : Heap}
/-! ### a cell of the script -/
def sp_l_cell_at (K : PySem.W.Frag) : Sp := fun vs H Q _ => ∃ (a : Addr) (ns : List Int) (k : Int), vs = [.ref a, .int k] ∧ SqL K H a (ns.map V.int) ∧ 0 ≤ k ∧ ∀ H2, Ex H H2 → Q (.int (cellAt ns k)) H2
theorem ok_l_cell_at (T : Txt K mg) : Kept P w K mg base 1 "_law_cell_at" ["_law_script", "_law_k"] (sp_l_cell_at K) := by
  refine T.d_l_cell_at.kept sc_l_cell_at (fun vs H Q E h => ?_) (fun cdv A outer s H vs Q E hr h => ?_)
  · obtain ⟨a, ns, k, rfl, _⟩ := h
    rfl
  · obtain ⟨a, ns, k, rfl, hS, h0, q⟩ := h
    refine ⟨_, (pss_cons (ps_if (pt_cmpR op_lt (pv 1) (pe_callB (call_len_seq_K (K := K) rfl) (by rfl) T.n_len (by decide +kernel) (pa_cons (pv 0) pa_nil)) (nomark _))
        (pss_one (ps_ret (pe_ix (ix_list_K (K := K) rfl) (pv 0) (pv 1) (fun _ _ => rfl))))
        pss_nil)
      (pss_one (ps_ret pe_int))), ?_⟩
    refine q_when (et_test (ev_op (ev_var rfl) (ev_lenS (ev_var rfl) hS) rv_I0)) (fun hb H1 e1 => ?_) (fun hb H1 e1 => ?_)
    · have hb' : k < (ns.map V.int).length := of_decide_eq_true hb
      rw [List.length_map] at hb'
      have e : (ns.map V.int)[k.toNat]? = some (.int (cellAt ns k)) := by
        have hl : k.toNat < ns.length := by omega
        rw [List.getElem?_map, List.getElem?_eq_getElem hl]
        simp [cellAt, hb', List.getD, List.getElem?_eq_getElem hl]
      refine s_ret (v := .int (cellAt ns k)) (ev_op (ev_var rfl) (ev_var rfl) (rv_ixL (ex_l e1 hS) ?_)) fun H2 e2 => q _ (e1.trans e2)
      exact at_of (by omega) e
    · have hb' : ¬ k < (ns.map V.int).length := of_decide_eq_false hb
      rw [List.length_map] at hb'
      have e : cellAt ns k = 0 := by simp [cellAt, hb']
      refine s_ret (v := .int 0) ev_c fun H2 e2 => ?_
      have := q _ (e1.trans e2)
      rw [e] at this
      exact this
theorem sv_l_cell_at {H : Hp} {a : Addr} {ns : List Int} {k : Int} (hS : SqL K H a (ns.map V.int)) (h0 : 0 ≤ k) : SpV (sp_l_cell_at K) [.ref a, .int k] H (.int (cellAt ns k)) := fun H1 e Q q E => ⟨a, ns, k, rfl, ex_l e hS, h0, q⟩
end

section
variable {P : Program} {w : World} {K : PySem.W.Frag} {mg : Str → Option Value} {base : Heap}
/-! ### a whole number -/
def sp_l_whole (K : PySem.W.Frag) : Sp := fun vs H Q _ => ∃ i : Int, vs = [.int i] ∧ ∀ H2, Ex H H2 → Q (.bl true) H2
theorem ok_l_whole (T : Txt K mg) : Kept P w K mg base 1 "_law_whole" ["_law_found"] (sp_l_whole K) := by
  refine T.d_l_whole.kept sc_l_whole (fun vs H Q E h => ?_) (fun cdv A outer s H vs Q E hr h => ?_)
  · obtain ⟨i, rfl, _⟩ := h
    rfl
  · obtain ⟨i, rfl, q⟩ := h
    refine ⟨_, (pss_one (ps_ret (pe_and (pe_callB (call_isi_K (K := K) rfl) (by rfl) T.n_isinstance (by decide +kernel) (pa_cons (pv 0) (pa_cons (pe_bltn (v := .ty "int") (u := .type "int") (by rfl) T.n_int (by decide +kernel) rfl) pa_nil))) (pe_one (pe_not (pe_callB (call_isi_K (K := K) rfl) (by rfl) T.n_isinstance (by decide +kernel) (pa_cons (pv 0) (pa_cons (pe_bltn (v := .ty "bool") (u := .type "bool") (by rfl) T.n_bool (by decide +kernel) rfl) pa_nil)))))))), ?_⟩
    refine s_ret (v := .bl (true && !false)) (ev_andV (ev_isi (n := "int") (ev_var rfl) (fun _ _ => .base (.int i)) (by decide +kernel)) fun _ => ev_notV (ev_isi (n := "int") (ev_var rfl) (fun _ _ => .base (.int i)) (by decide +kernel))) fun H1 e1 => q _ e1
theorem sv_l_whole {H : Hp} {i : Int} : SpV (sp_l_whole K) [.int i] H (.bl true) := fun H1 e Q q E => ⟨i, rfl, q⟩
end

/-! ### of laws -/
section
variable {K : PySem.W.Frag}
theorem cut_ints (ns : List Int) (lo hi : Option Int) : ∃ ms : List Int, cutV (ns.map V.int) lo hi = ms.map V.int ∧ ms.length ≤ ns.length := by
  refine ⟨(ns.drop (HT.sIx ns.length 0 lo)).take (HT.sIx ns.length ns.length hi - HT.sIx ns.length 0 lo), ?_, ?_⟩
  · unfold cutV
    simp [List.map_take, List.map_drop]
  · rw [List.length_take, List.length_drop]
    omega
theorem mod_here {n : Int} (h : 0 < n) (x : Int) : Here n (x % n) := ⟨Int.emod_nonneg _ (by omega), Int.emod_lt_of_pos _ h⟩
def sp_law (K : PySem.W.Frag) : Sp := fun vs H Q _ => ∃ (a : Addr) (ns : List Int), vs = [.ref a] ∧ SqL K H a (ns.map V.int) ∧ ns.length ≤ 63 ∧ ∀ H', Q (.bl true) H'
end

section
variable {P : Program} {w : World} {K : PySem.W.Frag} {mg : Str → Option Value} {base : Heap}
/-! ### need_room -/
abbrev cNoRoom (K : PySem.W.Frag) : Value := .ref (He.ga K "NoRoom")
def sp_need_room (K : PySem.W.Frag) : Sp := fun vs H Q E => ∃ (v : V) (n room : Int) (rest : List PyData), vs = [v, .int room] ∧ Dp K H v (.tuple (.int n :: rest)) ∧ (Here n room → ∀ H2, Ex H H2 → Q .non H2) ∧ (¬ Here n room → ∀ H2, Ex H H2 → E (cNoRoom K) none H2)
theorem ok_need_room (T : Txt K mg) : Kept P w K mg base 1 "need_room" ["maze", "room"] (sp_need_room K) := by
  refine T.d_need_room.kept sc_need_room (fun vs H Q E h => ?_) (fun cdv A outer s H vs Q E hr h => ?_)
  · obtain ⟨v, n, room, rest, rfl, _⟩ := h
    rfl
  · obtain ⟨v, n, room, rest, rfl, hv, q, qe⟩ := h
    refine ⟨_, (pss_one (ps_if (PW.pt (pw_or (pt_cmpR op_lt (pv 1) pe_int (nomark _)) (pw_or1 (pt_cmpR op_ge (pv 1) (pe_ix (ix_tup_K (K := K) rfl) (pv 0) pe_int (fun _ _ => rfl)) (nomark _)))))
        (pss_one (ps_raise rfl (takes_of rfl rfl rfl rfl) (pmk_own PySem.F.excBase_ValueError T.e_NoRoom.xC T.e_NoRoom.gC T.e_NoRoom.kC (raises_own T.e_NoRoom.bC T.e_NoRoom.tC) rfl)))
        pss_nil)), ?_⟩
    refine s_when (b := decide (room < 0) || decide (n ≤ room)) (et_or (et_test (ev_op (ev_var rfl) ev_c rv_I0)) fun _ => et_test (ev_op (ev_var rfl) (ev_of_ed (ed_ixT (ed_any (ev_var rfl) hv) ev_c atI0)) rv_I0)) (fun hb H1 e1 => ?_) (fun hb H1 e1 => ?_)
    · refine qe (fun z => ?_) H1 e1
      obtain ⟨z1, z2⟩ := z
      simp at hb
      omega
    · refine q ?_ H1 e1
      simp at hb
      exact ⟨by omega, by omega⟩
end

/-! ### what is refused, and of which class -/
inductive Ref3 where
  | room | key | many
def chkD (n : Int) (d : Door) : Option Ref3 :=
  if ¬ Here n d.1 then some .room else if ¬ Here n d.2.1 then some .room else match d.2.2 with
    | none => none
    | some k => if Here 5 k then none else some .key
def chkK (n : Int) (k : Key2) : Option Ref3 := if ¬ Here n k.1 then some .room else if Here 5 k.2 then none else some .key
def chk (n : Int) (ds : List Door) (ks : List Key2) : Option Ref3 :=
  if n < 1 then some .room else if 60 < n ∨ 90 < (ds.length : Int) ∨ 60 < (ks.length : Int) then some .many else (ds.findSome? (chkD n)).or (ks.findSome? (chkK n))
def codeS : Option Ref3 → Str
  | none => ""
  | some .room => "room"
  | some .key => "key"
  | some .many => "many"
def clsR (K : PySem.W.Frag) : Ref3 → Value
  | .room => .ref (He.ga K "NoRoom")
  | .key => .ref (He.ga K "NoKey")
  | .many => .ref (He.ga K "TooMany")
theorem fs_succ {α β : Type} {f : α → Option β} {l : List α} {i : Nat} {a : α} (h : l[i]? = some a) : (l.take (i + 1)).findSome? f = ((l.take i).findSome? f).or (f a) := by
  rw [List.take_succ, h, List.findSome?_append]
  cases (l.take i).findSome? f <;> simp
theorem fs_hit {α β : Type} {f : α → Option β} {l : List α} {i : Nat} {a : α} {r : β} (h : l[i]? = some a) (h0 : (l.take i).findSome? f = none) (hr : f a = some r) : l.findSome? f = some r := by
  have e : l = l.take (i + 1) ++ l.drop (i + 1) := (List.take_append_drop (i + 1) l).symm
  rw [e, List.findSome?_append, fs_succ h, h0, hr]
  rfl
def mazeF (n : Int) (ds : List Door) (ks : List Key2) : PyData := mazeD n (ds.map doorD) ks
section
variable {P : Program} {w : World} {K : PySem.W.Frag} {mg : Str → Option Value} {base : Heap}
/-! ### need_kind -/
def sp_need_kind (K : PySem.W.Frag) : Sp := fun vs H Q E => ∃ k : Int, vs = [.int k] ∧ (Here 5 k → ∀ H2, Ex H H2 → Q .non H2) ∧ (¬ Here 5 k → ∀ H2, Ex H H2 → E (.ref (He.ga K "NoKey")) none H2)
theorem ok_need_kind (T : Txt K mg) : Kept P w K mg base 1 "need_kind" ["kind"] (sp_need_kind K) := by
  refine T.d_need_kind.kept sc_need_kind (fun vs H Q E h => ?_) (fun cdv A outer s H vs Q E hr h => ?_)
  · obtain ⟨k, rfl, _⟩ := h
    rfl
  · obtain ⟨k, rfl, q, qe⟩ := h
    refine ⟨_, (pss_one (ps_if (PW.pt (pw_or (pt_cmpR op_lt (pv 0) pe_int (nomark _)) (pw_or1 (pt_cmpR op_ge (pv 0) (pe_gint T.i_KINDS (by rfl)) (nomark _)))))
        (pss_one (ps_raise rfl (takes_of rfl rfl rfl rfl) (pmk_own PySem.F.excBase_ValueError T.e_NoKey.xC T.e_NoKey.gC T.e_NoKey.kC (raises_own T.e_NoKey.bC T.e_NoKey.tC) rfl)))
        pss_nil)), ?_⟩
    refine s_when (b := decide (k < 0) || decide (5 ≤ k)) (by walk_at "mz ev") (fun hb H1 e1 => ?_) (fun hb H1 e1 => ?_)
    · refine qe (fun z => ?_) H1 e1
      obtain ⟨z1, z2⟩ := z
      simp at hb
      omega
    · refine q ?_ H1 e1
      simp at hb
      exact ⟨by omega, by omega⟩
/-! ### checked -/
def sp_checked (K : PySem.W.Frag) : Sp := fun vs H Q E => ∃ (v : V) (n : Int) (ds : List Door) (ks : List Key2), vs = [v] ∧ Dp K H v (mazeF n ds ks) ∧ (chk n ds ks = none → ∀ H2, Ex H H2 → Q v H2) ∧ (∀ r, chk n ds ks = some r → ∀ H2, Ex H H2 → E (clsR K r) none H2)
theorem ev_lockN {st : L2.St} {H : Hp} {ta : TE} {l : Option Int} (h : EvD K ta st H (lockD l)) : Ev (tOp (fun x y H Q => y = .non ∧ Q (.bl (!decide (x = .non))) H) ta (tC .non)) st H (.bl l.isSome) := fun H1 e Q q => h H1 e _ fun v H2 e2 p => by
  cases l with
  | none =>
    cases p
    exact ⟨rfl, q H2 e2⟩
  | some k =>
    cases p
    exact ⟨rfl, q H2 e2⟩
theorem ok_checked (T : Txt K mg) : Kept P w K mg base 2 "checked" ["maze"] (sp_checked K) := by
  refine T.d_checked.kept sc_checked (fun vs H Q E h => ?_) (fun cdv A outer s H vs Q E hr h => ?_)
  · obtain ⟨v, n, ds, ks, rfl, _⟩ := h
    rfl
  · obtain ⟨v, n, ds, ks, rfl, hv, q, qe⟩ := h
    refine ⟨_, (pss_cons (ps_if (pt_cmpR op_lt (pe_ix (ix_tup_K (K := K) rfl) (pv 0) pe_int (fun _ _ => rfl)) pe_int (nomark _))
        (pss_one (ps_raise rfl (takes_of rfl rfl rfl rfl) (pmk_own PySem.F.excBase_ValueError T.e_NoRoom.xC T.e_NoRoom.gC T.e_NoRoom.kC (raises_own T.e_NoRoom.bC T.e_NoRoom.tC) rfl)))
        pss_nil)
      (pss_cons (ps_if (PW.pt (pw_or (pt_cmpR op_gt (pe_ix (ix_tup_K (K := K) rfl) (pv 0) pe_int (fun _ _ => rfl)) (pe_gint T.i_MOST_ROOMS (by rfl)) (nomark _)) (pw_or (pt_cmpR op_gt (pe_callB (call_len_seq_K (K := K) rfl) (by rfl) T.n_len (by decide +kernel) (pa_cons (pe_ix (ix_tup_K (K := K) rfl) (pv 0) pe_int (fun _ _ => rfl)) pa_nil)) (pe_gint T.i_MOST_DOORS (by rfl)) (nomark _)) (pw_or1 (pt_cmpR op_gt (pe_callB (call_len_seq_K (K := K) rfl) (by rfl) T.n_len (by decide +kernel) (pa_cons (pe_ix (ix_tup_K (K := K) rfl) (pv 0) pe_int (fun _ _ => rfl)) pa_nil)) (pe_gint T.i_MOST_KEYS (by rfl)) (nomark _))))))
        (pss_one (ps_raise rfl (takes_of rfl rfl rfl rfl) (pmk_own PySem.F.excBase_ValueError T.e_TooMany.xC T.e_TooMany.gC T.e_TooMany.kC (raises_own T.e_TooMany.bC T.e_TooMany.tC) rfl)))
        pss_nil)
      (pss_cons (ps_for (passes_of rfl) rfl (pi_list_K (K := K) rfl (pe_ix (ix_tup_K (K := K) rfl) (pv 0) pe_int (fun _ _ => rfl))) (pg_name (i := 1) sc_checked.nd rfl (Or.inl rfl))
        (pss_cons (ps_expr (pe_fn (ok_need_room (K := K) T) (hr.mono (by decide)) (passR (takes_of rfl rfl rfl rfl)) (by rfl) (pa_cons (pv 0) (pa_cons (pe_ix (ix_tup_K (K := K) rfl) (pv 1) pe_int (fun _ _ => rfl)) pa_nil))))
      (pss_cons (ps_expr (pe_fn (ok_need_room (K := K) T) (hr.mono (by decide)) (passR (takes_of rfl rfl rfl rfl)) (by rfl) (pa_cons (pv 0) (pa_cons (pe_ix (ix_tup_K (K := K) rfl) (pv 1) pe_int (fun _ _ => rfl)) pa_nil))))
      (pss_one (ps_if (pt_cmpR op_notN (pe_ix (ix_tup_K (K := K) rfl) (pv 1) pe_int (fun _ _ => rfl)) pe_non (nomark _))
        (pss_one (ps_expr (pe_fn (ok_need_kind (K := K) T) (hr.mono (by decide)) (passR (takes_of rfl rfl rfl rfl)) (by rfl) (pa_cons (pe_ix (ix_tup_K (K := K) rfl) (pv 1) pe_int (fun _ _ => rfl)) pa_nil))))
        pss_nil)))))
      (pss_cons (ps_for (passes_of rfl) rfl (pi_list_K (K := K) rfl (pe_ix (ix_tup_K (K := K) rfl) (pv 0) pe_int (fun _ _ => rfl))) (pg_name (i := 2) sc_checked.nd rfl (Or.inl rfl))
        (pss_cons (ps_expr (pe_fn (ok_need_room (K := K) T) (hr.mono (by decide)) (passR (takes_of rfl rfl rfl rfl)) (by rfl) (pa_cons (pv 0) (pa_cons (pe_ix (ix_tup_K (K := K) rfl) (pv 2) pe_int (fun _ _ => rfl)) pa_nil))))
      (pss_one (ps_expr (pe_fn (ok_need_kind (K := K) T) (hr.mono (by decide)) (passR (takes_of rfl rfl rfl rfl)) (by rfl) (pa_cons (pe_ix (ix_tup_K (K := K) rfl) (pv 2) pe_int (fun _ _ => rfl)) pa_nil))))))
      (pss_one (ps_ret (pv 0))))))), ?_⟩
    have mz0 : ∀ {σ : L2.St} {H' : Hp}, Ex H H' → σ[0]? = some (some v) → Ev (tOp (rIxT K) (tVar 0) (tC (.int 0))) σ H' (.int n) := fun e h => ev_of_ed (ed_ixT (ed_any (ev_var h) (dp_ex e hv)) ev_c atI0)
    have mz1 : ∀ {σ : L2.St} {H' : Hp}, Ex H H' → σ[0]? = some (some v) → EvD K (tOp (rIxT K) (tVar 0) (tC (.int 1))) σ H' (.list (ds.map doorD)) := fun e h => ed_ixT (ed_any (ev_var h) (dp_ex e hv)) ev_c atI1
    have mz2 : ∀ {σ : L2.St} {H' : Hp}, Ex H H' → σ[0]? = some (some v) → EvD K (tOp (rIxT K) (tVar 0) (tC (.int 2))) σ H' (.list (ks.map keyD)) := fun e h => ed_ixT (ed_any (ev_var h) (dp_ex e hv)) ev_c atI2
    refine q_when (b := decide (n < 1)) (et_test (ev_op (mz0 (Ex.refl H) rfl) ev_c rv_I0)) (fun hb H1 e1 => ?_) (fun hb H1 e1 => ?_)
    · refine qe .room ?_ H1 e1
      simp at hb
      simp [chk, hb]
    simp only [decide_eq_false_iff_not] at hb
    refine q_when (b := decide (60 < n) || (decide (90 < ((ds.map doorD).length : Int)) || decide (60 < ((ks.map keyD).length : Int)))) (et_or (et_test (ev_op (mz0 e1 rfl) ev_c rv_I0)) fun _ => et_or (et_test (ev_op (ev_lenD (mz1 e1 rfl) (.inl rfl)) ev_c rv_I0)) fun _ => et_test (ev_op (ev_lenD (mz2 e1 rfl) (.inl rfl)) ev_c rv_I0)) (fun hb2 H2 e2 => ?_) (fun hb2 H2 e2 => ?_)
    · refine qe .many ?_ H2 (e1.trans e2)
      simp only [Bool.or_eq_true, decide_eq_true_eq, List.length_map] at hb2
      simp only [chk, if_neg hb, if_pos hb2]
    have hch : chk n ds ks = (ds.findSome? (chkD n)).or (ks.findSome? (chkK n)) := by
      simp only [Bool.or_eq_false_iff, decide_eq_false_iff_not, List.length_map] at hb2
      rw [chk, if_neg hb, if_neg (by omega)]
    have e12 := e1.trans e2
    refine q_forD (ds := ds.map doorD) (mz1 e12 rfl) (fun H1 i σ' H' => Ex H1 H' ∧ ∃ y, σ' = [some v, y, none] ∧ (ds.take i).findSome? (chkD n) = none) (fun H3 e3 => ⟨Ex.refl H3, none, rfl, rfl⟩) (fun H1 i σ' H' hP => hP.1) (fun H3 e3 i d x σ' H' hdi hx hP => ?_) (fun H3 e3 σ' H' hP => ?_)
    · obtain ⟨eH, y, rfl, hno⟩ := hP
      have eH' := (e12.trans e3).trans eH
      rw [List.getElem?_map] at hdi
      obtain ⟨⟨d1, d2, d3⟩, hd1, rfl⟩ := Option.map_eq_some_iff.mp hdi
      have hit : ∀ r, chkD n (d1, d2, d3) = some r → chk n ds ks = some r := fun r hr => by rw [hch, fs_hit hd1 hno hr]; rfl
      refine q_dropC (K := K) (ea_dc (ed_any (ev_var rfl) (dp_ex eH' hv)) (ea_dc (ed_ixT (ed_any (ev_var rfl) hx) ev_c atI0) ea_dn)) fun vs H4 e4 hvs => ?_
      obtain ⟨v1, u1, rfl, hv1, hu1⟩ := dpAll2 hvs
      cases dp_int_inv hu1
      refine ⟨v1, n, d1, _, rfl, hv1, fun h1 H5 e5 => ?_, fun h1 H5 e5 => qe .room (hit _ (by simp only [chkD]; rw [if_pos h1])) H5 ((eH'.trans e4).trans e5)⟩
      have e45 := e4.trans e5
      refine q_dropC (K := K) (ea_dc (ed_any (ev_var rfl) (dp_ex (eH'.trans e45) hv)) (ea_dc (ed_ixT (ed_any (ev_var rfl) (dp_ex e45 hx)) ev_c atI1) ea_dn)) fun vs H6 e6 hvs => ?_
      obtain ⟨v2, u2, rfl, hv2, hu2⟩ := dpAll2 hvs
      cases dp_int_inv hu2
      refine ⟨v2, n, d2, _, rfl, hv2, fun h2 H7 e7 => ?_, fun h2 H7 e7 => qe .room (hit _ (by simp only [chkD]; rw [if_neg (by simpa using h1), if_pos h2])) H7 (((eH'.trans e45).trans e6).trans e7)⟩
      have e47 := e45.trans (e6.trans e7)
      have hx7 := dp_ex e47 hx
      refine s_when (b := d3.isSome) (et_test (ev_lockN (ed_ixT (ed_any (ev_var rfl) hx7) ev_c atI2))) (fun hs H8 e8 => ?_) (fun hs H8 e8 => ?_)
      · cases d3 with
        | none => cases hs
        | some k =>
          refine s_dropC (K := K) (ea_dc (ed_ixT (d := .int k) (ed_any (ev_var rfl) (dp_ex e8 hx7)) ev_c atI2) ea_dn) fun vs H9 e9 hvs => ?_
          obtain ⟨u3, rfl, hu3⟩ := dpAll1 hvs
          cases dp_int_inv hu3
          have e49 := (e47.trans e8).trans e9
          refine ⟨k, rfl, fun h3 H10 e10 => ⟨(eH.trans e49).trans e10, _, rfl, ?_⟩, fun h3 H10 e10 => qe .key (hit _ (by simp only [chkD]; rw [if_neg (by simpa using h1), if_neg (by simpa using h2), if_neg h3])) H10 ((eH'.trans e49).trans e10)⟩
          rw [fs_succ hd1, hno]
          simp only [chkD]
          rw [if_neg (by simpa using h1), if_neg (by simpa using h2), if_pos h3]
          rfl
      · cases d3 with
        | some k => cases hs
        | none =>
          refine ⟨(eH.trans e47).trans e8, _, rfl, ?_⟩
          rw [fs_succ hd1, hno]
          simp only [chkD]
          rw [if_neg (by simpa using h1), if_neg (by simpa using h2)]
          rfl
    · obtain ⟨eH, y, rfl, hno⟩ := hP
      have eH' := (e12.trans e3).trans eH
      rw [List.length_map, List.take_length] at hno
      refine q_forD (ds := ks.map keyD) (mz2 eH' rfl) (fun H1 i σ' H' => Ex H1 H' ∧ ∃ z, σ' = [some v, y, z] ∧ (ks.take i).findSome? (chkK n) = none) (fun H3 e3 => ⟨Ex.refl H3, none, rfl, rfl⟩) (fun H1 i σ' H' hP => hP.1) (fun H4 e4 i d x σ' H5 hdi hx hP => ?_) (fun H4 e4 σ' H5 hP => ?_)
      · obtain ⟨eH5, z, rfl, hno2⟩ := hP
        have eH6 := (eH'.trans e4).trans eH5
        rw [List.getElem?_map] at hdi
        obtain ⟨⟨k1, k2⟩, hd1, rfl⟩ := Option.map_eq_some_iff.mp hdi
        have hit : ∀ r, chkK n (k1, k2) = some r → chk n ds ks = some r := fun r hr => by rw [hch, hno, fs_hit hd1 hno2 hr]; rfl
        refine q_dropC (K := K) (ea_dc (ed_any (ev_var rfl) (dp_ex eH6 hv)) (ea_dc (ed_ixT (ed_any (ev_var rfl) hx) ev_c atI0) ea_dn)) fun vs H7 e7 hvs => ?_
        obtain ⟨v1, u1, rfl, hv1, hu1⟩ := dpAll2 hvs
        cases dp_int_inv hu1
        refine ⟨v1, n, k1, _, rfl, hv1, fun h1 H8 e8 => ?_, fun h1 H8 e8 => qe .room (hit _ (by simp only [chkK]; rw [if_pos h1])) H8 ((eH6.trans e7).trans e8)⟩
        have e78 := e7.trans e8
        refine s_dropC (K := K) (ea_dc (ed_ixT (d := .int k2) (ed_any (ev_var rfl) (dp_ex e78 hx)) ev_c atI1) ea_dn) fun vs H9 e9 hvs => ?_
        obtain ⟨u3, rfl, hu3⟩ := dpAll1 hvs
        cases dp_int_inv hu3
        have e79 := e78.trans e9
        refine ⟨k2, rfl, fun h3 H10 e10 => ⟨(eH5.trans e79).trans e10, _, rfl, ?_⟩, fun h3 H10 e10 => qe .key (hit _ (by simp only [chkK]; rw [if_neg (by simpa using h1), if_neg h3])) H10 ((eH6.trans e79).trans e10)⟩
        rw [fs_succ hd1, hno2]
        simp only [chkK]
        rw [if_neg (by simpa using h1), if_pos h3]
        rfl
      · obtain ⟨eH5, z, rfl, hno2⟩ := hP
        rw [List.length_map, List.take_length] at hno2
        exact s_ret (ev_var rfl) fun H6 e6 => q (by rw [hch, hno, hno2]; rfl) H6 (((eH'.trans e4).trans eH5).trans e6)
end

section
variable {P : Program} {w : World} {K : PySem.W.Frag} {mg : Str → Option Value} {base : Heap}
theorem s_dropA {σ : L2.St} {H : Hp} {D : Ends} {tr : TA} {sp : Sp} {E : XK} {vs : List V} (h : EvA tr σ H vs) (k : ∀ H1, Ex H H1 → sp vs H1 (fun _ H2 => D.nx σ H2) E) : tDrop (tCall sp [] E tr) D σ H := h H (Ex.refl H) _ fun H1 e1 => by
  show sp (vs ++ []) H1 _ E
  rw [List.append_nil]
  exact k H1 e1
theorem s_asgA {σ : L2.St} {H : Hp} {D : Ends} {tr : TA} {sp : Sp} {E : XK} {vs : List V} {i : Nat} (h : EvA tr σ H vs) (k : ∀ H1, Ex H H1 → sp vs H1 (fun v H2 => D.nx (σ.set i (some v)) H2) E) : tAsg (tCall sp [] E tr) (gName i) D σ H := h H (Ex.refl H) _ fun H1 e1 => by
  show sp (vs ++ []) H1 _ E
  rw [List.append_nil]
  exact k H1 e1
end

/-! ### loops over new lists, tuples standing -/
def Tk (H H' : Hp) : Prop := ∀ b ys, H b = some (.tup ys) → H' b = some (.tup ys)
theorem Tk.refl (H : Hp) : Tk H H := fun _ _ h => h
theorem Tk.trans {H H' H2 : Hp} (a : Tk H H') (b : Tk H' H2) : Tk H H2 := fun c ys h => b c ys (a c ys h)
theorem Tk.ex {H H' : Hp} (e : Ex H H') : Tk H H' := fun b ys h => e b _ h
theorem Tk.lst {H : Hp} {l : Addr} {xs : List V} {o : HO} (h : H l = some (.lst xs)) : Tk H (upd H l o) := upd_tups h
theorem Td.tk {H H' : Hp} (k : Tk H H') {d : PyData} {v : V} (h : Td H v d) : Td H' v d := Td.keep k h
theorem q_forEL {K : PySem.W.Frag} {σ : L2.St} {H : Hp} {tl : TE} {g : TG} {tu tz : TS} {D : Ends} {ds : List PyData} (h : EvLT tl σ H ds) (k : ∀ p xs H1, H p = none → Ex H H1 → H1 p = some (.lst xs) → TdAll H1 xs ds → ∃ Pv : Nat → L2.St → Hp → Prop, Pv 0 σ H1 ∧ (∀ i σ' H', Pv i σ' H' → H' p = some (.lst xs) ∧ Tk H1 H') ∧
    (∀ i d x σ' H', ds[i]? = some d → Td H' x d → Pv i σ' H' → g x σ' H' fun σ2 H2 => tu { D with nx := Pv (i + 1), ct := Pv (i + 1), bk := tz D } σ2 H2) ∧ ∀ σ' H', Pv ds.length σ' H' → tz D σ' H') : tSeq (tFor (iList K tl) g tu) tz D σ H := h H (Ex.refl H) _ fun p H1 np e1 hp => by
  obtain ⟨xs, hx, hd⟩ := hp
  obtain ⟨Pv, p0, pk, ps, pd⟩ := k p xs H1 np e1 hx hd
  refine ⟨p, rfl, ⟨xs, SqL.of hx⟩, for_list (K := K) (D := { D with nx := tz D }) (a := p) (xs := xs) Pv p0 (fun i σ' H' _ q => SqL.of (pk i σ' H' q).1) (fun i x σ' H' hxi q => ?_) (fun σ' H' q => pd σ' H' (by rw [← hd.len]; exact q))⟩
  obtain ⟨d, hd1, hd2⟩ := hd.getV hxi
  exact ps i d x σ' H' hd1 (hd2.tk (pk i σ' H' q).2) q

section
variable {K : PySem.W.Frag} {σ : L2.St} {H H' H0 : Hp} {ta tb te tl : TE} {v z : V} {tr : TA} {ds : List PyData}
/-! ### calls within a suite; slices of lists; lists of ints -/
theorem ev_callS {sp : Sp} {vs : List V} {E : L2.St → XK} (h : EvA tr σ H vs) (hs : SpV sp vs H z) : Ev (tCallS sp E tr) σ H z := fun H1 e Q q => h H1 e _ fun H2 e2 => hs H2 (e.trans e2) Q (fun H3 e3 => q H3 (e2.trans e3)) (E σ)
theorem lt_slL {a : Addr} {lo hi : Option Int} {t1 t2 : TO} (h : Ev te σ H (.ref a)) (hl : LstT H a ds) (h1 : EvO t1 σ H lo) (h2 : EvO t2 σ H hi) : EvLT (tSl (rSlL K) te t1 t2) σ H (cutD ds lo hi) := fun H1 e Q q => h H1 e _ fun H2 e2 => h1 H2 (e.trans e2) _ fun H3 e3 => h2 H3 ((e.trans e2).trans e3) _ fun H4 e4 => by
  obtain ⟨xs, hx, hd⟩ := hl.ex (((e.trans e2).trans e3).trans e4)
  have e24 := (e2.trans e3).trans e4
  refine ⟨a, xs, rfl, SqL.of hx, fun p np => q p _ (fresh_back e24 np) (e24.trans (Ex.new np)) ⟨_, upd_same, ?_⟩⟩
  unfold cutD cutV
  rw [hd.len]
  have td_drop : ∀ {ds : List PyData} {vs : List V} (n : Nat), TdAll H4 vs ds → TdAll H4 (vs.drop n) (ds.drop n) := by
    intro ds vs n h
    induction n generalizing ds vs with
    | zero => exact h
    | succ n ih => cases h with
      | nil => exact .nil
      | cons a b => exact ih b
  have td_take : ∀ {ds : List PyData} {vs : List V} (n : Nat), TdAll H4 vs ds → TdAll H4 (vs.take n) (ds.take n) := by
    intro ds vs n h
    induction n generalizing ds vs with
    | zero => simp only [List.take_zero]; exact .nil
    | succ n ih => cases h with
      | nil => exact .nil
      | cons a b => exact .cons a (ih b)
  exact (td_take _ (td_drop _ hd)).ex (Ex.new np)
theorem cutD_take (ds : List PyData) (k : Nat) : cutD ds none (some (k : Int)) = ds.take k := by
  unfold cutD
  rw [HT.sIx_none, HT.sIx_nat, List.drop_zero, Nat.sub_zero]
  by_cases h : k ≤ ds.length
  · rw [Nat.min_eq_left h]
  · rw [Nat.min_eq_right (by omega), List.take_length, List.take_of_length_le (by omega)]
end
def intlD (ns : List Int) : PyData := .list (ns.map PyData.int)
theorem nb_intl (ns : List Int) : nb (intlD ns) = true := by simp only [intlD, nb]; exact nbAll_map nb_intD ns
theorem sh_intl (ns : List Int) : SeqAt.shaped (intlD ns) = true := shaped_of (nb_intl ns) (by
  have := depth_list (n := 0) (depth_map (f := PyData.int) (fun i => by simp [PyData.depth]) ns)
  simp only [intlD]
  omega)
theorem intlD_inj {a b : List Int} : intlD a = intlD b ↔ a = b := by
  refine ⟨fun e => ?_, fun e => by rw [e]⟩
  simp only [intlD, PyData.list.injEq] at e
  exact map_inj (fun a b z => by simpa using z) e
theorem eqv_intl (a b : List Int) : PyData.eqv (intlD a) (intlD b) = decide (a = b) := eqv_dec (nb_intl a) (nb_intl b) intlD_inj

/-! ### texts -/
def ts (i : Int) : Str := Str.ofString (toString i)
theorem sjoin_snoc (sep x : Str) : ∀ {xs : List Str}, xs ≠ [] → Str.join sep (xs ++ [x]) = Str.join sep xs ++ sep ++ x
  | [], h => absurd rfl h
  | [a], _ => rfl
  | a :: b :: r, _ => by
    show a ++ sep ++ Str.join sep ((b :: r) ++ [x]) = a ++ sep ++ Str.join sep (b :: r) ++ sep ++ x
    rw [sjoin_snoc sep x (xs := b :: r) (by simp)]
    simp only [Str.append_assoc]
theorem join_eq (sep : Str) (xs : List Str) : Txt.join sep xs = Str.join sep xs := StrLaws.glued_eq_join sep xs
theorem ts_len {i : Int} (h0 : 0 ≤ i) (h1 : i < 100) : (ts i).length ≤ 2 := by
  have key : ∀ j : Fin 100, (ts ((j.val : Nat) : Int)).length ≤ 2 := by decide +kernel
  have := key ⟨i.toNat, by omega⟩
  rw [show (((⟨i.toNat, by omega⟩ : Fin 100).val : Nat) : Int) = i by show ((i.toNat : Nat) : Int) = i; omega] at this
  exact this
section
variable {K : PySem.W.Frag} {σ : L2.St} {H H' : Hp} {ta tb te : TE} {t : TE} {tss : List TE}
theorem rv_addS {i j : Str} (h : i.length + j.length ≤ 100000) : RV (fun x y H Q => ∃ i j, x = .str i ∧ y = .str j ∧ i.length + j.length ≤ sizeLine ∧ Q (.str (i ++ j)) H) (.str i) (.str j) H (.str (i ++ j)) := fun H1 e Q q => ⟨i, j, rfl, rfl, sz_of h, q H1 (Ex.refl H1)⟩
theorem log_small {i : Int} (h : i.natAbs < 2 ^ 1000) : i.natAbs.log2 < 1920 := by
  by_cases h0 : i.natAbs = 0
  · rw [h0]; decide
  · exact Nat.lt_trans ((Nat.log2_lt h0).mpr h) (by decide)
theorem small100 {i : Int} (h0 : 0 ≤ i) (h1 : i < 100) : i.natAbs < 2 ^ 1000 := Nat.lt_of_lt_of_le (show i.natAbs < 2 ^ 7 by omega) (Nat.pow_le_pow_right (by decide) (by decide))
theorem ev_strI {i : Int} (h : Ev ta σ H (.int i)) (hz : i.natAbs < 2 ^ 1000) : Ev (tCB (fun xs H Q => ∃ i, xs = [.int i] ∧ i.natAbs.log2 < 1920 ∧ Q (.str (toString i)) H) (tCons ta tNil)) σ H (.str (ts i)) := fun H1 e Q q => h H1 e _ fun H2 e2 => ⟨i, rfl, log_small hz, q H2 e2⟩
theorem ev_fmtI {i : Int} (h : Ev te σ H (.int i)) (hz : i.natAbs < 2 ^ 1000) : Ev (tFmt te) σ H (.str (ts i)) := fun H1 e Q q => h H1 e _ fun H2 e2 => .inr ⟨i, rfl, log_small hz, q H2 e2⟩
def EvJ (tss : List TE) (acc : Str) (σ : L2.St) (H : Hp) (out : Str) : Prop := ∀ H1, Ex H H1 → ∀ Q : Str → Hp → Prop, (∀ H2, Ex H1 H2 → Q out H2) → tJs tss acc σ H1 Q
theorem ej_nil {acc : Str} : EvJ [] acc σ H acc := fun H1 e Q q => q H1 (Ex.refl H1)
theorem ej_cons {acc y out : Str} (h : Ev t σ H (.str y)) (hz : (acc ++ y).length ≤ 100000) (r : EvJ tss (acc ++ y) σ H out) : EvJ (t :: tss) acc σ H out := fun H1 e Q q => h H1 e _ fun H2 e2 => ⟨y, rfl, sz_of hz, r H2 (e.trans e2) _ fun H3 e3 => q H3 (e2.trans e3)⟩
theorem ev_joined {out : Str} (h : EvJ tss Str.empty σ H out) : Ev (fun σ H Q => tJs tss Str.empty σ H fun out H1 => Q (.str out) H1) σ H (.str out) := fun H1 e Q q => h H1 e _ fun H2 e2 => q H2 e2
theorem td_strs : ∀ ns : List Str, TdAll H (ns.map V.str) (ns.map PyData.str)
  | [] => .nil
  | n :: r => .cons (.str n) (td_strs r)
theorem tdAll_strs : ∀ {ns : List Str} {vs : List V}, TdAll H vs (ns.map PyData.str) → vs = ns.map V.str
  | [], _, .nil => rfl
  | n :: r, _, .cons h q => by
    cases h
    rw [tdAll_strs q]
    rfl
theorem dpAll_strs : ∀ {ns : List Str} {vs : List V}, DpAll K H vs (ns.map PyData.str) → vs = ns.map V.str
  | [], _, .nil => rfl
  | n :: r, _, .cons h q => by
    cases h
    rw [dpAll_strs q]
    rfl
theorem ev_of_tdS {x : Str} (h : EvTd te σ H (.str x)) : Ev te σ H (.str x) := fun H1 e Q q => h H1 e Q fun v H2 e2 p => by cases p; exact q H2 e2
theorem ev_of_edS {x : Str} (h : EvD K te σ H (.str x)) : Ev te σ H (.str x) := fun H1 e Q q => h H1 e Q fun v H2 e2 p => by cases p; exact q H2 e2
end
def rowD (d : Door) : Str := ("door " : Str) ++ ts d.1 ++ (" " : Str) ++ ts d.2.1 ++ (match d.2.2 with
  | none => Str.empty
  | some k => (" by " : Str) ++ ts k)
def rowK (k : Key2) : Str := ("key " : Str) ++ ts k.2 ++ (" in " : Str) ++ ts k.1
def rowsF (n : Int) (ds : List Door) (ks : List Key2) : List Str := (("rooms " : Str) ++ ts n) :: (ds.map rowD ++ ks.map rowK)

/-! ### texts: rules for evaluation -/
section
variable {P : Program} {w : World} {K : PySem.W.Frag} {σ : L2.St} {H H' : Hp} {ta tb te tl : TE} {t : TT} {g : TG} {tu tz : TS} {D : Ends} {ds : List PyData} {vs : List Nat}
theorem cs_len (x : Str) : x.cps.toList.length = x.length := by simp [Str.length]
/-- a.split(b) -/
theorem lt_split {a b : Str} (h : Ev ta σ H (.str a)) (hb : Ev tb σ H (.str b)) (hz : a.length ≤ 99000) (h0 : (b.length == 0) = false) : EvLT (tM1 (fun x xs H Q => ∃ a b, x = .str a ∧ xs = [.str b] ∧ (b.length == 0) = false ∧ a.length + 2 ≤ sizeLine ∧ rNewStrs (Txt.split a b) H Q) ta tb) σ H ((Txt.split a b).map PyData.str) := fun H1 e Q q => h H1 e _ fun H2 e2 => ⟨⟨a, rfl⟩, hb H2 (e.trans e2) _ fun H3 e3 =>
  ⟨a, b, rfl, rfl, h0, sz_of (by omega), fun p np => q p _ (fresh_back (e2.trans e3) np) ((e2.trans e3).trans (Ex.new np)) ⟨_, upd_same, td_strs _⟩⟩⟩
/-- a.join(ys) -/
theorem ev_join {a : Str} {p : Addr} {ys : List Str} (h : Ev ta σ H (.str a)) (hb : Ev tb σ H (.ref p)) (hp : LstT H p (ys.map PyData.str)) (hz : (ys.map (·.length)).sum + ys.length * a.length ≤ 16777216) : Ev (tM1 (fun x xs H Q => ∃ a p, ∃ ys : List Str, x = .str a ∧ xs = [.ref p] ∧ (SqL K H p (ys.map V.str) ∨ SqT K H p (ys.map V.str)) ∧ (ys.map (·.length)).sum + ys.length * a.length ≤ 16777216 ∧ Q (.str (Txt.join a ys)) H) ta tb) σ H (.str (Txt.join a ys)) := fun H1 e Q q => h H1 e _ fun H2 e2 => ⟨⟨a, rfl⟩, hb H2 (e.trans e2) _ fun H3 e3 => by
  obtain ⟨xs, hx, hd⟩ := hp.ex ((e.trans e2).trans e3)
  have ex := tdAll_strs hd
  subst ex
  exact ⟨a, p, ys, rfl, rfl, .inl (SqL.of hx), hz, q H3 (e2.trans e3)⟩⟩
theorem ev_lenStr {z : Str} (h : Ev ta σ H (.str z)) (hz : z.length ≤ 100000) : Ev (tCB (fun xs H Q => ∃ z, xs = [.str z] ∧ z.length ≤ sizeLine ∧ Q (.int z.length) H) (tCons ta tNil)) σ H (.int (z.length : Int)) := fun H1 e Q q => h H1 e _ fun H2 e2 => ⟨z, rfl, sz_of hz, q H2 e2⟩
theorem rv_ixS {z : Str} {i : Int} {c : Nat} (hz : z.length ≤ 100000) (h : atI z.cps.toList i = some c) : RV rIxS (.str z) (.int i) H (.str ⟨#[c]⟩) := fun H1 e Q q => ⟨z, i, c, rfl, rfl, sz_of hz, h, q H1 (Ex.refl H1)⟩
theorem ev_slS {z : Str} {lo hi : Option Int} {t1 t2 : TO} (h : Ev te σ H (.str z)) (h1 : EvO t1 σ H lo) (h2 : EvO t2 σ H hi) (hz : z.length ≤ 100000) : Ev (tSl rSlS te t1 t2) σ H (.str (cutS z lo hi)) := fun H1 e Q q => h H1 e _ fun H2 e2 => h1 H2 (e.trans e2) _ fun H3 e3 => h2 H3 ((e.trans e2).trans e3) _ fun H4 e4 => ⟨z, rfl, sz_of hz, q H4 ((e2.trans e3).trans e4)⟩
theorem rv_inS {c : Nat} {z : Str} : RV (fun x y H Q => ∃ (c : Nat) (z : Str), x = .str ⟨#[c]⟩ ∧ y = .str z ∧ Q (.bl (decide (c ∈ z.cps.toList))) H) (.str ⟨#[c]⟩) (.str z) H (.bl (decide (c ∈ z.cps.toList))) := fun H1 e Q q => ⟨c, z, rfl, rfl, q H1 (Ex.refl H1)⟩
theorem rv_niS {c : Nat} {z : Str} : RV (fun x y H Q => ∃ (c : Nat) (z : Str), x = .str ⟨#[c]⟩ ∧ y = .str z ∧ Q (.bl (!decide (c ∈ z.cps.toList))) H) (.str ⟨#[c]⟩) (.str z) H (.bl (!decide (c ∈ z.cps.toList))) := fun H1 e Q q => ⟨c, z, rfl, rfl, q H1 (Ex.refl H1)⟩
theorem ev_intS {a : Str} {n : Int} (h : Ev ta σ H (.str a)) (hn : PySem.intText? a = some n) (hl : a.length ≤ 640) : Ev (tCB (fun xs H Q => ∃ a n, xs = [.str a] ∧ PySem.intText? a = some n ∧ a.length ≤ 640 ∧ Q (.int n) H) (tCons ta tNil)) σ H (.int n) := fun H1 e Q q => h H1 e _ fun H2 e2 => ⟨a, n, rfl, hn, hl, q H2 e2⟩
theorem ev_isdigit {a : Str} (h : Ev ta σ H (.str a)) : Ev (tM0 (fun x xs H Q => ∃ a, x = .str a ∧ xs = [] ∧ True ∧ Q (.bl (Txt.isdigit a)) H) ta) σ H (.bl (Txt.isdigit a)) := fun H1 e Q q => h H1 e _ fun H2 e2 => ⟨⟨a, rfl⟩, a, rfl, rfl, True.intro, q H2 e2⟩
/-- for c in a text -/
theorem q_forS {z : Str} (h : Ev tl σ H (.str z)) (Pv : Nat → L2.St → Hp → Prop) (h0 : ∀ H1, Ex H H1 → Pv 0 σ H1) (hs : ∀ i c σ' H', z.cps.toList[i]? = some c → Pv i σ' H' → g (.str ⟨#[c]⟩) σ' H' fun σ2 H2 => tu { D with nx := Pv (i + 1), ct := Pv (i + 1), bk := tz D } σ2 H2) (hd : ∀ σ' H', Pv z.cps.toList.length σ' H' → tz D σ' H') : tSeq (tFor (iStr tl) g tu) tz D σ H := h H (Ex.refl H) _ fun H1 e1 => ⟨z, rfl, for_it (D := { D with nx := tz D }) walk_str Pv (h0 H1 e1) (fun _ _ _ _ _ => True.intro) (fun i x σ' H1 H2 hi p y => by
  obtain ⟨rfl, c, hc, rfl⟩ := y
  exact hs i c σ' _ (by rw [Array.getElem?_toList]; exact hc) p) (fun σ' H' p => hd σ' H' (by rw [Array.length_toList]; exact p))⟩
/-- [c for c in a text if ..] -/
theorem lt_lcS {z : Str} {j : Nat} (f : Nat → Bool) (h : Ev tl σ H (.str z)) (hz : z.length ≤ 40000) (hw : ∀ x, wipe ((wipe σ [j]).set j (some x)) [j] = wipe σ [j]) (hj : j < σ.length)
    (ht : ∀ c H1, Ex H H1 → EvT t ((wipe σ [j]).set j (some (.str ⟨#[c]⟩))) H1 (f c)) : EvLT (tLc (iStr tl) (gName j) t (tVar j) [j]) σ H ((z.cps.toList.filter f).map fun c => PyData.str ⟨#[c]⟩) := fun H1 e Q q => h H1 e _ fun H2 e2 => by
  have e02 := e.trans e2
  refine ⟨z, rfl, fun Dl hD => lc_it walk_str (fun i H' => H2 Dl = none ∧ Ex H2 H' ∧ LstT H' Dl (((z.cps.toList.take i).filter f).map fun c => PyData.str ⟨#[c]⟩)) ⟨hD, Ex.new hD, ⟨[], upd_same, .nil⟩⟩ (fun _ _ _ _ => True.intro) (fun i x H3 H4 hi p y => ?_) (fun H' p => ?_)⟩
  · obtain ⟨rfl, c, hc, rfl⟩ := y
    obtain ⟨p1, p2, zs, p3, p4⟩ := p
    have hci : z.cps.toList[i]? = some c := by rw [Array.getElem?_toList]; exact hc
    refine ⟨hw _, ht c H4 (e02.trans p2) H4 (Ex.refl H4) _ fun H5 e5 => ?_⟩
    have hft := filt_take hci f (fun c => PyData.str ⟨#[c]⟩)
    cases hf : f c with
    | true =>
      rw [if_pos rfl]
      refine ⟨_, List.getElem?_set_self (by rw [wipe_length]; exact hj), zs, e5 _ _ p3, sz_lt ?_, p1, Ex.mut (p2.trans e5) p1, ?_⟩
      · rw [p4.len, List.length_map]
        have h1 := List.length_filter_le f (z.cps.toList.take i)
        have h2 := List.length_take_le i z.cps.toList
        have h3 : (z.cps.toList.take i).length ≤ z.cps.toList.length := by rw [List.length_take]; omega
        rw [cs_len] at h3
        omega
      · rw [hft, if_pos hf]
        exact LstT.push (e5 _ _ p3) (p4.ex e5) (.str _)
    | false =>
      rw [if_neg (by simp)]
      refine ⟨p1, p2.trans e5, ?_⟩
      rw [hft, if_neg (by rw [hf]; simp), List.append_nil]
      exact ⟨zs, e5 _ _ p3, p4.ex e5⟩
  · obtain ⟨p1, p2, p3⟩ := p
    rw [show z.cps.size = z.cps.toList.length by rw [Array.length_toList], List.take_length] at p3
    exact q Dl H' (fresh_back e2 p1) (e2.trans p2) p3
/-- data compared with the empty list -/
theorem eqv_nilL (ds : List PyData) : PyData.eqv (.list ds) (.list []) = decide (ds = []) := by
  cases ds with
  | nil => simp [PyData.eqv, PyData.eqvAll]
  | cons a r => simp [PyData.eqv, PyData.eqvAll]
theorem sh_signs (xs : List Nat) (h : ∀ c ∈ xs, c < 128) : SeqAt.shaped (.list (xs.map fun c => PyData.str ⟨#[c]⟩)) = true := by
  show (_ && _) = true
  rw [Bool.and_eq_true]
  refine ⟨?_, decide_eq_true ?_⟩
  · simp only [PyData.canLay0]
    induction xs with
    | nil => simp only [List.map_nil, PyData.canLayAll0]
    | cons a r ih =>
      have ha := h a (by simp)
      have hk : PyData.strOk ⟨#[a]⟩ = true := by
        unfold PyData.strOk
        simp
        omega
      simp only [List.map_cons, PyData.canLayAll0, PyData.canLay0, hk, Bool.true_and]
      exact ih fun c hc => h c (by simp [hc])
  · have := depth_list (n := 0) (depth_map (f := fun c : Nat => PyData.str ⟨#[c]⟩) (fun i => by simp [PyData.depth]) xs)
    omega
/-- comprehensions over a new list -/
theorem lt_lcE {α : Type} {Dd : α → PyData} {xs : List α} (p : α → Bool) (w : α → PyData) (h : EvLT tl σ H (xs.map Dd)) (hn : xs.length ≤ 40000)
    (hg : ∀ a, a ∈ xs → ∀ x H1, Ex H H1 → Td H1 x (Dd a) → ∀ Q : L2.St → Hp → Prop, (∀ σ2, wipe σ2 vs = wipe σ vs → EvT t σ2 H1 (p a) → (p a = true → EvTd te σ2 H1 (w a)) → Q σ2 H1) → g x (wipe σ vs) H1 Q) :
    EvLT (tLc (iList K tl) g t te vs) σ H ((xs.filter p).map w) := fun H1 e Q q => h H1 e _ fun a H2 na e2 hl => by
  obtain ⟨ys, hys, hda⟩ := hl
  have hlen := hda.len
  rw [List.length_map] at hlen
  have e02 := e.trans e2
  refine ⟨a, rfl, ⟨ys, SqL.of hys⟩, fun Dl hD => lc_list (K := K) (a := a) (xs := ys) (fun i H' => H2 Dl = none ∧ Ex H2 H' ∧ LstT H' Dl (((xs.take i).filter p).map w)) ⟨hD, Ex.new hD, ⟨[], upd_same, .nil⟩⟩ (fun i H' _ pp => SqL.of (pp.2.1 _ _ hys)) (fun i x H' hx pp => ?_) (fun H' pp => ?_)⟩
  · obtain ⟨p1, p2, zs, p3, p4⟩ := pp
    obtain ⟨d, hd1, hd2⟩ := hda.getV hx
    rw [List.getElem?_map] at hd1
    obtain ⟨b, hb, rfl⟩ := Option.map_eq_some_iff.mp hd1
    have hil : i < xs.length := (List.getElem?_eq_some_iff.mp hb).1
    refine hg b (List.mem_of_getElem? hb) x H' (e02.trans p2) (hd2.ex p2) _ fun σ2 hw ht he => ⟨hw, ht H' (Ex.refl H') _ fun H3 e3 => ?_⟩
    cases hf : p b with
    | true =>
      show te σ2 H3 fun y H4 => ∃ acc, H4 Dl = some (.lst acc) ∧ acc.length < sizeLine ∧ (H2 Dl = none ∧ Ex H2 (upd H4 Dl (.lst (acc ++ [y]))) ∧ LstT (upd H4 Dl (.lst (acc ++ [y]))) Dl (((xs.take (i + 1)).filter p).map w))
      refine he hf H3 e3 _ fun y H4 e4 q4 => ⟨zs, e4 Dl _ (e3 Dl _ p3), sz_lt ?_, p1, Ex.mut ((p2.trans e3).trans e4) p1, ?_⟩
      · rw [p4.len, List.length_map]
        have h1 := List.length_filter_le p (xs.take i)
        have h2 := List.length_take_le i xs
        omega
      · rw [filt_take hb, if_pos hf]
        exact LstT.push (e4 Dl _ (e3 Dl _ p3)) (p4.ex (e3.trans e4)) q4
    | false =>
      show H2 Dl = none ∧ Ex H2 H3 ∧ LstT H3 Dl (((xs.take (i + 1)).filter p).map w)
      refine ⟨p1, p2.trans e3, ?_⟩
      rw [filt_take hb, if_neg (by rw [hf]; simp), List.append_nil]
      exact ⟨zs, e3 Dl _ p3, p4.ex e3⟩
  · obtain ⟨p1, p2, p3⟩ := pp
    rw [hlen, List.take_length] at p3
    exact q Dl H' (fresh_back e2 p1) (e2.trans p2) p3
theorem tdAll_set : ∀ (i : Nat) {ds : List PyData} {xs : List V} {v : V} {d : PyData}, TdAll H xs ds → Td H v d → TdAll H (xs.set i v) (ds.set i d)
  | _, [], _, _, _, .nil, _ => .nil
  | 0, _ :: _, _, _, _, .cons _ b, t => .cons t b
  | i + 1, _ :: _, _, _, _, .cons a b, t => .cons a (tdAll_set i b t)
/-- xs[i] = v -/
theorem s_setL {l : Addr} {i : Nat} {d : PyData} {to ti : TE} (hl : LstT H l ds) (hv : EvTd te σ H d) (ho : Ev to σ H (.ref l)) (hi : Ev ti σ H (.int (i : Int))) (hin : i < ds.length) (k : ∀ H1 xs v, Ex H H1 → H1 l = some (.lst xs) → LstT (upd H1 l (.lst (xs.set i v))) l (ds.set i d) → D.nx σ (upd H1 l (.lst (xs.set i v)))) : tAsg te (gSub to ti rSetL) D σ H := hv H (Ex.refl H) _ fun v H1 e1 t => ho H1 e1 _ fun H2 e2 => hi H2 (e1.trans e2) _ fun H3 e3 => by
  obtain ⟨xs, hx, hd⟩ := hl.ex ((e1.trans e2).trans e3)
  have hlen := hd.len
  refine ⟨l, xs, (i : Int), i, rfl, rfl, hx, ixN_nat (by omega), k H3 xs v ((e1.trans e2).trans e3) hx ⟨_, upd_same, ?_⟩⟩
  have t3 := (t.ex (e2.trans e3)).upd (o := .lst (xs.set i v)) hx
  have hd3 := hd.upd (o := .lst (xs.set i v)) hx
  exact tdAll_set i hd3 t3
end

/-! ### texts of mazes, in plain -/
abbrev cs (x : Str) : List Nat := x.cps.toList
def digB (c : Nat) : Bool := decide (c ∈ ("0123456789" : Str).cps.toList)
theorem dig_iff {c : Nat} : digB c = true ↔ 48 ≤ c ∧ c ≤ 57 := by
  have e : ("0123456789" : Str).cps.toList = [48, 49, 50, 51, 52, 53, 54, 55, 56, 57] := by decide +kernel
  unfold digB
  rw [e]
  simp
  omega
def bad0 (x : Str) : Bool := decide (x = "") || (decide ((cs x)[0]? = some 48) && decide (1 < (cs x).length))
/-- the number that a word writes -/
def numF (x : Str) : Option Int := if (cs x).all digB = true then (if bad0 x = true then none else some ((PySem.NumText.digitsVal (cs x) : Nat) : Int)) else none
theorem str_ext {a b : Str} (h : cs a = cs b) : a = b := TL.ext_tl h
theorem cs_nil {x : Str} (h : cs x = []) : x = "" := str_ext (by rw [h]; decide +kernel)
theorem num_text {x : Str} {n : Int} (h : numF x = some n) (hl : x.length ≤ 640) : PySem.intText? x = some n := by
  unfold numF at h
  split at h
  · rename_i hd
    split at h
    · cases h
    · rename_i hb
      cases h
      refine PySem.intText_digits (fun c hc => dig_iff.mp (List.all_eq_true.mp hd c hc)) (fun z => hb ?_) (by omega)
      unfold bad0
      rw [cs_nil z]
      decide
  · cases h
theorem num_nonneg {x : Str} {n : Int} (h : numF x = some n) : 0 ≤ n := by
  unfold numF at h
  split at h
  · split at h
    · cases h
    · cases h
      omega
  · cases h
/-- parts of a text cut at a sign -/
theorem spl_mem {c : Nat} : ∀ {l acc p : List Nat}, p ∈ TL.spl [c] 0 acc l → ∀ x ∈ p, x ∈ acc ∨ x ∈ l
  | [], acc, p, h, x, hx => by
    simp [TL.spl] at h
    subst h
    exact .inl hx
  | d :: r, acc, p, h, x, hx => by
    rw [TL.spl] at h
    split at h
    · rcases List.mem_cons.mp h with h1 | h1
      · subst h1
        exact .inl hx
      · rcases spl_mem (acc := []) h1 x hx with h2 | h2
        · cases h2
        · exact .inr (List.mem_cons_of_mem _ h2)
    · rcases spl_mem h x hx with h2 | h2
      · rcases List.mem_append.mp h2 with h3 | h3
        · exact .inl h3
        · simp at h3
          subst h3
          exact .inr (by simp)
      · exact .inr (List.mem_cons_of_mem _ h2)
theorem spl_sum {c : Nat} : ∀ {l acc : List Nat}, ((TL.spl [c] 0 acc l).map List.length).sum ≤ acc.length + l.length ∧ (TL.spl [c] 0 acc l).length ≤ l.length + 1
  | [], acc => by simp [TL.spl]
  | d :: r, acc => by
    rw [TL.spl]
    split
    · have h := spl_sum (c := c) (l := r) (acc := [])
      simp only [List.map_cons, List.sum_cons, List.length_cons, List.length_nil, Nat.sub_self] at h ⊢
      omega
    · have h := spl_sum (c := c) (l := r) (acc := acc ++ [d])
      simp only [List.length_append, List.length_cons, List.length_nil] at h ⊢
      omega
theorem split_codes {c : Nat} (hc : c < 256) (x : Str) : (Txt.split x ⟨#[c]⟩).map cs = TL.spl [c] 0 [] (cs x) := by
  have h := SX.split_S (a := cs x) (b := [c]) (by simp) (by simp [hc])
  have e : Txt.split x ⟨#[c]⟩ = (TL.spl [c] 0 [] (cs x)).map SX.S := by
    rw [← h]
  rw [e, List.map_map]
  have e2 : (cs ∘ SX.S) = id := rfl
  rw [e2, List.map_id]
theorem sp_eq : (" " : Str) = ⟨#[32]⟩ := by decide +kernel
theorem nl_eq : ("\n" : Str) = ⟨#[10]⟩ := by decide +kernel
abbrev wordsF (x : Str) : List Str := Txt.split x " "
theorem words_sub {x a : Str} (h : a ∈ wordsF x) : ∀ c ∈ cs a, c ∈ cs x := fun c hc => by
  have e := split_codes (c := 32) (by decide) x
  rw [← sp_eq] at e
  have h2 : cs a ∈ (Txt.split x " ").map cs := List.mem_map.mpr ⟨a, h, rfl⟩
  rw [e] at h2
  rcases spl_mem h2 c hc with h3 | h3
  · cases h3
  · exact h3
theorem words_sum (x : Str) : ((wordsF x).map (·.length)).sum ≤ x.length ∧ (wordsF x).length ≤ x.length + 1 := by
  have e := split_codes (c := 32) (by decide) x
  rw [← sp_eq] at e
  have h := spl_sum (c := 32) (l := cs x) (acc := [])
  rw [← e, List.map_map, List.length_map] at h
  have e2 : ((wordsF x).map (·.length)) = (wordsF x).map (List.length ∘ cs) := List.map_congr_left fun a _ => (cs_len a).symm
  rw [e2]
  have e3 : (cs x).length = x.length := cs_len x
  rw [e3] at h
  simpa using h
theorem le_sum : ∀ {l : List Nat} {a : Nat}, a ∈ l → a ≤ l.sum
  | [], _, h => by cases h
  | b :: r, a, h => by
    rw [List.sum_cons]
    rcases List.mem_cons.mp h with h | h
    · omega
    · have := le_sum h
      omega
theorem words_len {x a : Str} (h : a ∈ wordsF x) : a.length ≤ x.length := Nat.le_trans (le_sum (List.mem_map.mpr ⟨a, h, rfl⟩)) (words_sum x).1
theorem words_pos (x : Str) : 1 ≤ (wordsF x).length := PyProof.Rows.split_pos x " "
theorem split_lines {rows : List Str} (h : rows ≠ []) (hn : ∀ r ∈ rows, 10 ∉ cs r) : Txt.split (Txt.join "\n" rows) "\n" = rows := by
  have hj : Txt.join "\n" rows = SX.S (TL.joinL [10] (rows.map cs)) := by
    have := SX.join_S [10] (rows.map cs)
    have e : (rows.map cs).map SX.S = rows := by
      rw [List.map_map]
      exact (List.map_congr_left fun a _ => SX.S_tl a).trans (List.map_id _)
    rw [e] at this
    rw [← this, nl_eq]
  refine TL.map_tl_inj ?_
  have e := split_codes (c := 10) (by decide) (Txt.join "\n" rows)
  rw [← nl_eq] at e
  show (Txt.split (Txt.join "\n" rows) "\n").map cs = rows.map cs
  rw [e, hj]
  exact TL.spl_join (s := 10) (S := []) (by simpa using h) fun p hp => by
    obtain ⟨a, ha, rfl⟩ := List.mem_map.mp hp
    exact hn a ha
/-- what a row writes -/
abbrev Part := Door ⊕ Key2
def twoF (ws : List Str) (lock : Option Int) : Option Door := (numF (ws.getD 1 "")).bind fun a => (numF (ws.getD 2 "")).map fun b => (a, b, lock)
def doorF (ws : List Str) : Option Door :=
  if ws.length = 5 ∧ ws.getD 3 "" = "by" then (numF (ws.getD 4 "")).bind fun l => twoF ws (some l) else if ws.length = 3 then twoF ws none else none
def keyF (ws : List Str) : Option Key2 := if ws.length = 4 ∧ ws.getD 2 "" = "in" then (numF (ws.getD 3 "")).bind fun r => (numF (ws.getD 1 "")).map fun k => (r, k) else none
def partW (ws : List Str) : Option Part := if ws.getD 0 "" = "door" then (doorF ws).map .inl else if ws.getD 0 "" = "key" then (keyF ws).map .inr else none
def partF (row : Str) : Option Part := partW (wordsF row)
def doorsP (ps : List Part) : List Door := ps.filterMap fun p => p.getLeft?
def keysP (ps : List Part) : List Key2 := ps.filterMap fun p => p.getRight?
def headF (row : Str) : Option Int := if (wordsF row).length = 2 ∧ (wordsF row).getD 0 "" = "rooms" then numF ((wordsF row).getD 1 "") else none
/-- all that is written: or none -/
def allP : List Str → Option (List Part)
  | [] => some []
  | r :: rs => (partF r).bind fun p => (allP rs).map fun ps => p :: ps
def parseF (rows : List Str) : Option (Int × List Part) := (headF (rows.headD "")).bind fun n => (allP rows.tail).map fun ps => (n, ps)
inductive Res where
  | ok (n : Int) (ds : List Door) (ks : List Key2)
  | maze
  | bad (r : Ref3)
def resF (rows : List Str) : Res := match parseF rows with
  | none => .maze
  | some (n, ps) => match chk n (doorsP ps) (keysP ps) with
    | none => .ok n (doorsP ps) (keysP ps)
    | some r => .bad r
theorem allP_take {rs : List Str} : ∀ {i : Nat} {r : Str} {ps : List Part}, rs[i]? = some r → allP (rs.take i) = some ps → allP (rs.take (i + 1)) = (partF r).map fun p => ps ++ [p] := by
  induction rs with
  | nil => intro i r ps h; simp at h
  | cons a t ih =>
    intro i r ps h hp
    cases i with
    | zero =>
      simp at h
      subst h
      simp [allP] at hp
      subst hp
      simp only [List.take_succ_cons, List.take_zero, allP]
      cases partF a <;> rfl
    | succ i =>
      simp at h
      rw [List.take_succ_cons, allP] at hp
      rw [List.take_succ_cons, allP]
      cases c : partF a with
      | none => rw [c] at hp; cases hp
      | some p =>
        rw [c] at hp
        simp only [Option.bind_some] at hp ⊢
        obtain ⟨ps2, h2, rfl⟩ := Option.map_eq_some_iff.mp hp
        rw [ih h h2]
        cases partF r <;> rfl
theorem allP_none {rs : List Str} : ∀ {i : Nat} {r : Str}, rs[i]? = some r → partF r = none → allP rs = none := by
  induction rs with
  | nil => intro i r h; simp at h
  | cons a t ih =>
    intro i r h hp
    cases i with
    | zero =>
      simp at h
      subst h
      rw [allP, hp]
      rfl
    | succ i =>
      simp at h
      rw [allP, ih h hp]
      cases partF a <;> rfl
theorem allP_some {rs : List Str} : ∀ {ps : List Part}, allP rs = some ps → rs.map partF = ps.map some := by
  induction rs with
  | nil => intro ps h; simp [allP] at h; subst h; rfl
  | cons a t ih =>
    intro ps h
    rw [allP] at h
    cases c : partF a with
    | none => rw [c] at h; cases h
    | some p =>
      rw [c] at h
      simp only [Option.bind_some] at h
      obtain ⟨ps2, h2, rfl⟩ := Option.map_eq_some_iff.mp h
      rw [List.map_cons, List.map_cons, c, ih h2]
theorem allP_no {rs : List Str} (h : allP rs = none) : ∃ r ∈ rs, partF r = none := by
  induction rs with
  | nil => simp [allP] at h
  | cons a t ih =>
    rw [allP] at h
    cases c : partF a with
    | none => exact ⟨a, by simp, c⟩
    | some p =>
      rw [c] at h
      simp only [Option.bind_some, Option.map_eq_none_iff] at h
      obtain ⟨r, hr, e⟩ := ih h
      exact ⟨r, by simp [hr], e⟩
/-- rows as the law writes them: signs of ASCII, no end of a row -/
def RowOk (r : Str) : Prop := r.length ≤ 300 ∧ ∀ c ∈ cs r, c < 128 ∧ c ≠ 10
def RowsOk2 (rows : List Str) : Prop := rows ≠ [] ∧ rows.length ≤ 250 ∧ ∀ r ∈ rows, RowOk r
theorem RowOk.word {r a : Str} (h : RowOk r) (ha : a ∈ wordsF r) : RowOk a := ⟨Nat.le_trans (words_len ha) h.1, fun c hc => h.2 c (words_sub ha c hc)⟩
/-- numbers are none below nought -/
def NonNegP : Part → Prop
  | .inl d => 0 ≤ d.1 ∧ 0 ≤ d.2.1 ∧ ∀ l, d.2.2 = some l → 0 ≤ l
  | .inr k => 0 ≤ k.1 ∧ 0 ≤ k.2
theorem two_nonneg {ws : List Str} {l : Option Int} {d : Door} (h : twoF ws l = some d) : 0 ≤ d.1 ∧ 0 ≤ d.2.1 ∧ d.2.2 = l := by
  unfold twoF at h
  obtain ⟨a, ha, h2⟩ := Option.bind_eq_some_iff.mp h
  obtain ⟨b, hb, rfl⟩ := Option.map_eq_some_iff.mp h2
  exact ⟨num_nonneg ha, num_nonneg hb, rfl⟩
theorem part_nonneg {row : Str} {p : Part} (h : partF row = some p) : NonNegP p := by
  unfold partF partW at h
  split at h
  · obtain ⟨d, hd, rfl⟩ := Option.map_eq_some_iff.mp h
    unfold doorF at hd
    split at hd
    · obtain ⟨l, hl, h2⟩ := Option.bind_eq_some_iff.mp hd
      have := two_nonneg h2
      exact ⟨this.1, this.2.1, fun l2 e => by rw [this.2.2] at e; cases e; exact num_nonneg hl⟩
    · split at hd
      · have := two_nonneg hd
        exact ⟨this.1, this.2.1, fun l2 e => by rw [this.2.2] at e; cases e⟩
      · cases hd
  · split at h
    · obtain ⟨d, hd, rfl⟩ := Option.map_eq_some_iff.mp h
      unfold keyF at hd
      split at hd
      · obtain ⟨r, hr, h2⟩ := Option.bind_eq_some_iff.mp hd
        obtain ⟨k, hk, rfl⟩ := Option.map_eq_some_iff.mp h2
        exact ⟨num_nonneg hr, num_nonneg hk⟩
      · cases hd
    · cases h
theorem sum_len_le {c : Nat} : ∀ {xs : List Str}, (∀ x ∈ xs, x.length ≤ c) → (xs.map (·.length)).sum ≤ xs.length * c
  | [], _ => by simp
  | x :: r, h => by
    have h1 := h x (by simp)
    have h2 := sum_len_le (xs := r) fun y hy => h y (by simp [hy])
    simp only [List.map_cons, List.sum_cons, List.length_cons, Nat.succ_mul]
    omega

section
variable {P : Program} {w : World} {K : PySem.W.Frag} {mg : Str → Option Value} {base : Heap}
/-! ### numbers, doors, keys: as the program reads them -/
abbrev cNoMaze (K : PySem.W.Frag) : Value := .ref (He.ga K "NoMaze")
section
variable {σ : L2.St} {H : Hp} {ta tb : TE} {l : Addr} {ws : List Str}
theorem ev_wd {i : Nat} (ha : Ev ta σ H (.ref l)) (hl : LstT H l (ws.map PyData.str)) (hb : Ev tb σ H (.int (i : Int))) (hi : i < ws.length) : Ev (tOp (rIxL K) ta tb) σ H (.str (ws.getD i "")) := ev_of_tdS (td_ixLV ha hl hb (at0 (by rw [List.getElem?_map, List.getElem?_eq_getElem hi, List.getD_eq_getElem?_getD, List.getElem?_eq_getElem hi]; rfl)))
theorem ev_lenW (ha : Ev ta σ H (.ref l)) (hl : LstT H l (ws.map PyData.str)) : Ev (tCB (fun xs H Q => ∃ p ys, xs = [.ref p] ∧ (SqL K H p ys ∨ SqT K H p ys) ∧ Q (.int ys.length) H) (tCons ta tNil)) σ H (.int (ws.length : Int)) := ev_is (ev_lenD (K := K) (ed_any ha hl.dp) (.inl rfl)) (by rw [List.length_map])
end
theorem q_asgA {σ : L2.St} {H : Hp} {D : Ends} {tz : TS} {tr : TA} {sp : Sp} {E : XK} {vs : List V} {i : Nat} (h : EvA tr σ H vs) (k : ∀ H1, Ex H H1 → sp vs H1 (fun v H2 => tz D (σ.set i (some v)) H2) E) : tSeq (tAsg (tCall sp [] E tr) (gName i)) tz D σ H := h H (Ex.refl H) _ fun H1 e1 => by
  show sp (vs ++ []) H1 _ E
  rw [List.append_nil]
  exact k H1 e1
theorem mem_getD {ws : List Str} {i : Nat} (h : i < ws.length) : ws.getD i "" ∈ ws := by
  rw [List.getD_eq_getElem?_getD, List.getElem?_eq_getElem h]
  exact List.getElem_mem h
theorem one_eq {c d : Nat} : ((⟨#[c]⟩ : Str) = ⟨#[d]⟩) ↔ c = d := by
  constructor
  · intro h
    have := congrArg (fun x : Str => x.cps.toList) h
    simpa using this
  · intro h
    rw [h]
theorem zero_eq : ("0" : Str) = ⟨#[48]⟩ := by decide +kernel
theorem num_bad {x : Str} {c : Nat} (hc : c ∈ cs x) (h : digB c = false) : numF x = none := by
  unfold numF
  rw [if_neg]
  intro z
  have := List.all_eq_true.mp z c hc
  rw [h] at this
  cases this
def sp_number_of (K : PySem.W.Frag) : Sp := fun vs H Q E => ∃ x : Str, vs = [.str x] ∧ x.length ≤ 600 ∧ (∀ n, numF x = some n → ∀ H2, Ex H H2 → Q (.int n) H2) ∧ (numF x = none → ∀ H2, Ex H H2 → E (cNoMaze K) none H2)
theorem ok_number_of (T : Txt K mg) : Kept P w K mg base 1 "number_of" ["word"] (sp_number_of K) := by
  refine T.d_number_of.kept sc_number_of (fun vs H Q E h => ?_) (fun cdv A outer s H vs Q E hr h => ?_)
  · obtain ⟨x, rfl, _⟩ := h
    rfl
  · obtain ⟨x, rfl, hz, q, qe⟩ := h
    refine ⟨_, (pss_cons (ps_for (passes_of rfl) rfl (pi_str (pv 0)) (pg_name (i := 1) sc_number_of.nd rfl (Or.inl rfl))
        (pss_one (ps_if (pt_cmpR op_notIn_sign (pv 1) (pe_gstr T.i_FIGURES (by rfl)) (by rfl))
        (pss_one (ps_raise rfl (takes_of rfl rfl rfl rfl) (pmk_own PySem.F.excBase_ValueError T.e_NoMaze.xC T.e_NoMaze.gC T.e_NoMaze.kC (raises_own T.e_NoMaze.bC T.e_NoMaze.tC) rfl)))
        pss_nil)))
      (pss_cons (ps_if (PW.pt (pw_or (pt_cmpR op_eq (pv 0) pe_str (nomark _)) (pw_or1 (PW.pt (pw_and (pt_cmpR op_eq (pe_ix ix_str (pv 0) pe_int (fun _ _ => rfl)) pe_str (nomark _)) (pw_and1 (pt_cmpR op_gt (pe_callB call_len_str (by rfl) T.n_len (by decide +kernel) (pa_cons (pv 0) pa_nil)) pe_int (nomark _))))))))
        (pss_one (ps_raise rfl (takes_of rfl rfl rfl rfl) (pmk_own PySem.F.excBase_ValueError T.e_NoMaze.xC T.e_NoMaze.gC T.e_NoMaze.kC (raises_own T.e_NoMaze.bC T.e_NoMaze.tC) rfl)))
        pss_nil)
      (pss_one (ps_ret (pe_callTy call_int_str (by rfl) T.n_int (by decide +kernel) (pa_cons (pv 0) pa_nil)))))), ?_⟩
    refine q_forS (z := x) (g := gName 1) (ev_var rfl) (fun i σ' H' => Ex H H' ∧ ∃ y, σ' = [some (.str x), y] ∧ ((cs x).take i).all digB = true) (fun H1 e1 => ⟨e1, none, rfl, rfl⟩) (fun i c σ' H' hc hP => ?_) (fun σ' H' hP => ?_)
    · obtain ⟨eH, y, rfl, hall⟩ := hP
      dsimp only [gName]
      refine s_when (b := !digB c) (et_test (ev_op (ev_var rfl) ev_c rv_niS)) (fun hb H1 e1 => ?_) (fun hb H1 e1 => ⟨eH.trans e1, _, rfl, ?_⟩)
      · exact qe (num_bad (List.mem_of_getElem? hc) (by simpa using hb)) H1 (eH.trans e1)
      · have hd : digB c = true := by simpa using hb
        have e : (cs x).take (i + 1) = (cs x).take i ++ [c] := by rw [List.take_succ, hc]; rfl
        rw [e, List.all_append, hall]
        simp [hd]
    · obtain ⟨eH, y, rfl, hall⟩ := hP
      rw [List.take_length] at hall
      have hnum : numF x = if bad0 x = true then none else some ((PySem.NumText.digitsVal (cs x) : Nat) : Int) := by unfold numF; rw [if_pos hall]
      by_cases hx : x = ""
      · have hb : numF x = none := by rw [hnum, if_pos (by unfold bad0; rw [decide_eq_true hx]; rfl)]
        exact q_when (b := true) (et_or (b := true) (et_test (ev_is (ev_op (ev_var rfl) ev_c rv_eqS) (by rw [decide_eq_true hx]))) (fun z => Bool.noConfusion z)) (fun _ H1 e1 => qe hb H1 (eH.trans e1)) (fun z => Bool.noConfusion z)
      · obtain ⟨c, hc⟩ : ∃ c, (cs x)[0]? = some c := by
          cases h : cs x with
          | nil => exact absurd (cs_nil h) hx
          | cons a r => exact ⟨a, rfl⟩
        have hb0 : bad0 x = (decide (x = "") || (decide (c = 48) && decide ((1 : Int) < (x.length : Int)))) := by
          have hcl : (cs x).length = x.length := cs_len x
          unfold bad0
          rw [hc]
          congr 2
          · simp
          · rw [decide_eq_decide]
            omega
        refine q_when (b := decide (x = "") || (decide (c = 48) && decide ((1 : Int) < (x.length : Int)))) (et_or (et_test (ev_op (ev_var rfl) ev_c rv_eqS)) fun _ => et_and (et_test (ev_is (ev_op (ev_op (ev_var rfl) ev_c (rv_ixS (i := 0) (by omega) (atI_nat (j := 0) hc))) ev_c rv_eqS) (by rw [zero_eq]; congr 1; rw [decide_eq_decide]; exact one_eq))) fun _ => et_test (ev_op (ev_lenStr (ev_var rfl) (by omega)) ev_c rv_I0)) (fun hb H1 e1 => ?_) (fun hb H1 e1 => ?_)
        · exact qe (by rw [hnum, hb0, if_pos hb]) H1 (eH.trans e1)
        · have hn : numF x = some ((PySem.NumText.digitsVal (cs x) : Nat) : Int) := by rw [hnum, hb0, if_neg (by rw [hb]; simp)]
          exact s_ret (ev_intS (ev_var rfl) (num_text hn (by omega)) (by omega)) fun H2 e2 => q _ hn H2 ((eH.trans e1).trans e2)
/-! ### doors and keys -/
def sp_door_of (K : PySem.W.Frag) : Sp := fun vs H Q E => ∃ (l : Addr) (ws : List Str), vs = [.ref l] ∧ LstT H l (ws.map PyData.str) ∧ (∀ x ∈ ws, x.length ≤ 600) ∧ (∀ d, doorF ws = some d → ∀ v H2, Ex H H2 → Td H2 v (doorD d) → Q v H2) ∧ (doorF ws = none → ∀ H2, Ex H H2 → E (cNoMaze K) none H2)
/-- a tuple of three, its parts by calls -/
theorem s_retTC {σ : L2.St} {H : Hp} {tr : TA} {D : Ends} (h : tr σ H fun vs H1 => vs.length ≤ 100000 ∧ ∀ a, H1 a = none → D.rt (.ref a) (upd H1 a (.tup vs))) (hm : ∀ {Q Q' : List V → Hp → Prop}, (∀ vs H, Q vs H → Q' vs H) → tr σ H Q → tr σ H Q') : tRet (tTup tr) D σ H := hm (fun vs H1 ⟨hl, k⟩ => ⟨sz_of hl, k⟩) h
theorem two_none1 {ws : List Str} {l : Option Int} (h : numF (ws.getD 1 "") = none) : twoF ws l = none := by unfold twoF; rw [h]; rfl
theorem two_none2 {ws : List Str} {l : Option Int} {a : Int} (h1 : numF (ws.getD 1 "") = some a) (h : numF (ws.getD 2 "") = none) : twoF ws l = none := by unfold twoF; rw [h1, h]; rfl
theorem two_some {ws : List Str} {l : Option Int} {a b : Int} (h1 : numF (ws.getD 1 "") = some a) (h : numF (ws.getD 2 "") = some b) : twoF ws l = some (a, b, l) := by unfold twoF; rw [h1, h]; rfl
def lockV : Option Int → V
  | none => .non
  | some k => .int k
theorem td_lockV {H : Hp} (l : Option Int) : Td H (lockV l) (lockD l) := by
  cases l with
  | none => exact .non
  | some k => exact .int k
theorem ok_door_of (T : Txt K mg) : Kept P w K mg base 2 "door_of" ["words"] (sp_door_of K) := by
  refine T.d_door_of.kept sc_door_of (fun vs H Q E h => ?_) (fun cdv A outer s H vs Q E hr h => ?_)
  · obtain ⟨l, ws, rfl, _⟩ := h
    rfl
  · obtain ⟨l, ws, rfl, hl, hws, q, qe⟩ := h
    refine ⟨_, (pss_cons (ps_set (i := 1) sc_door_of.nd rfl (Or.inl rfl) pe_non)
      (pss_cut (ps_if (PW.pt (pw_and (pt_cmpR op_eq (pe_callB (call_len_seq_K (K := K) rfl) (by rfl) T.n_len (by decide +kernel) (pa_cons (pv 0) pa_nil)) pe_int (nomark _)) (pw_and1 (pt_cmpR op_eq (pe_ix (ix_list_K (K := K) rfl) (pv 0) pe_int (fun _ _ => rfl)) pe_str (nomark _)))))
        (pss_one (ps_set (i := 1) sc_door_of.nd rfl (Or.inl rfl) (pe_fn (ok_number_of (K := K) T) (hr.mono (by decide)) (passR (takes_of rfl rfl rfl rfl)) (by rfl) (pa_cons (pe_ix (ix_list_K (K := K) rfl) (pv 0) pe_int (fun _ _ => rfl)) pa_nil))))
        (pss_one (ps_if (pt_cmpR op_ne (pe_callB (call_len_seq_K (K := K) rfl) (by rfl) T.n_len (by decide +kernel) (pa_cons (pv 0) pa_nil)) pe_int (nomark _))
        (pss_one (ps_raise rfl (takes_of rfl rfl rfl rfl) (pmk_own PySem.F.excBase_ValueError T.e_NoMaze.xC T.e_NoMaze.gC T.e_NoMaze.kC (raises_own T.e_NoMaze.bC T.e_NoMaze.tC) rfl)))
        pss_nil)))
      (pss_one (ps_ret (pe_tup (pa_cons (pe_fn (ok_number_of (K := K) T) (hr.mono (by decide)) (passR (takes_of rfl rfl rfl rfl)) (by rfl) (pa_cons (pe_ix (ix_list_K (K := K) rfl) (pv 0) pe_int (fun _ _ => rfl)) pa_nil)) (pa_cons (pe_fn (ok_number_of (K := K) T) (hr.mono (by decide)) (passR (takes_of rfl rfl rfl rfl)) (by rfl) (pa_cons (pe_ix (ix_list_K (K := K) rfl) (pv 0) pe_int (fun _ _ => rfl)) pa_nil)) (pa_cons (pv 1) pa_nil)))))))), ?_⟩
    refine q_asg ev_c fun H1 e1 => ?_
    have hl1 := hl.ex e1
    have word : ∀ {σ : L2.St} {H' : Hp} {i : Nat}, Ex H H' → σ[0]? = some (some (.ref l)) → i < ws.length → Ev (tOp (rIxL K) (tVar 0) (tC (.int (i : Int)))) σ H' (.str (ws.getD i "")) := fun e h hi => ev_wd (ev_var h) (hl.ex e) ev_c hi
    have wz : ∀ {i : Nat}, i < ws.length → (ws.getD i "").length ≤ 600 := fun hi => hws _ (mem_getD hi)
    refine q_cut (M := fun σ' H' => Ex H H' ∧ ∃ lk : Option Int, 3 ≤ ws.length ∧ doorF ws = twoF ws lk ∧ σ' = [some (.ref l), some (lockV lk)]) ?_ fun σ' H2 hM => ?_
    · by_cases h5 : ws.length = 5
      · refine tif_cases (b := decide ((ws.length : Int) = 5) && decide (ws.getD 3 "" = "by")) (et_and (et_test (ev_op (ev_lenW (K := K) (ev_var rfl) hl1) ev_c rv_eqI)) fun _ => et_test (ev_op (word (i := 3) e1 rfl (by omega)) ev_c rv_eqS)) (fun hb H2 e2 => ?_) (fun hb H2 e2 => ?_)
        · have hby : ws.getD 3 "" = "by" := by
            rw [Bool.and_eq_true] at hb
            exact of_decide_eq_true hb.2
          have hdf : doorF ws = (numF (ws.getD 4 "")).bind fun l => twoF ws (some l) := by unfold doorF; rw [if_pos ⟨h5, hby⟩]
          refine s_asgA (vs := [.str (ws.getD 4 "")]) (ea_cons (word (i := 4) (e1.trans e2) rfl (by omega)) ea_nil) fun H3 e3 => ⟨_, rfl, wz (by omega), fun n hn H4 e4 => ⟨((e1.trans e2).trans e3).trans e4, some n, by omega, by rw [hdf, hn]; rfl, rfl⟩, fun hn H4 e4 => qe (by rw [hdf, hn]; rfl) H4 (((e1.trans e2).trans e3).trans e4)⟩
        · have hby : ¬ ws.getD 3 "" = "by" := fun z => by
            rw [decide_eq_true z, Bool.and_true] at hb
            have := of_decide_eq_false hb
            omega
          refine s_when (b := !decide ((ws.length : Int) = 3)) (et_test (ev_op (ev_lenW (K := K) (ev_var rfl) (hl1.ex e2)) ev_c rv_neI)) (fun hb2 H3 e3 => ?_) (fun hb2 H3 e3 => ?_)
          · exact qe (by unfold doorF; rw [if_neg (fun z => hby z.2), if_neg (by omega)]) H3 ((e1.trans e2).trans e3)
          · have : (ws.length : Int) = 3 := by simpa using hb2
            omega
      · refine tif_cases (b := false && false) (et_and (et_test (ev_is (ev_op (ev_lenW (K := K) (ev_var rfl) hl1) ev_c rv_eqI) (by rw [decide_eq_false (by omega)]))) fun z => Bool.noConfusion z) (fun z => Bool.noConfusion z) (fun _ H2 e2 => ?_)
        have hnot5 : ¬ (ws.length = 5 ∧ ws.getD 3 "" = "by") := fun z => h5 z.1
        refine s_when (b := !decide ((ws.length : Int) = 3)) (et_test (ev_op (ev_lenW (K := K) (ev_var rfl) (hl1.ex e2)) ev_c rv_neI)) (fun hb2 H3 e3 => ?_) (fun hb2 H3 e3 => ?_)
        · have h3 : ¬ ws.length = 3 := fun z => by
            have : ¬ (ws.length : Int) = 3 := by simpa using hb2
            omega
          exact qe (by unfold doorF; rw [if_neg hnot5, if_neg h3]) H3 ((e1.trans e2).trans e3)
        · have h3 : ws.length = 3 := by
            have : (ws.length : Int) = 3 := by simpa using hb2
            omega
          exact ⟨(e1.trans e2).trans e3, none, by omega, by unfold doorF; rw [if_neg hnot5, if_pos h3], rfl⟩
    · obtain ⟨e2, lk, h3, hdf, rfl⟩ := hM
      show (tTup _) _ _ _
      refine ta_cons ?_
      refine (ea_cons (word (i := 1) e2 rfl (by omega)) ea_nil : EvA _ _ _ [.str (ws.getD 1 "")]) H2 (Ex.refl H2) _ fun H3 e3 => ⟨_, rfl, wz (by omega), fun a ha H4 e4 => ?_, fun ha H4 e4 => qe (by rw [hdf, two_none1 ha]) H4 ((e2.trans e3).trans e4)⟩
      have e24 := (e2.trans e3).trans e4
      refine ta_cons ?_
      refine (ea_cons (word (i := 2) e24 rfl (by omega)) ea_nil : EvA _ _ _ [.str (ws.getD 2 "")]) H4 (Ex.refl H4) _ fun H5 e5 => ⟨_, rfl, wz (by omega), fun b hb H6 e6 => ?_, fun hb H6 e6 => qe (by rw [hdf, two_none2 ha hb]) H6 ((e24.trans e5).trans e6)⟩
      have e26 := (e24.trans e5).trans e6
      refine (ea_cons (ev_var rfl) ea_nil : EvA _ _ _ [lockV lk]) H6 (Ex.refl H6) _ fun H7 e7 => ⟨sz_of (by simp), fun p np => q (a, b, lk) (by rw [hdf, two_some ha hb]) _ _ ((e26.trans e7).trans (Ex.new np)) ?_⟩
      exact .tup upd_same (.cons (.int a) (.cons (.int b) (.cons (td_lockV lk) .nil)))
end

section
variable {P : Program} {w : World} {K : PySem.W.Frag} {mg : Str → Option Value} {base : Heap}
def sp_key_of (K : PySem.W.Frag) : Sp := fun vs H Q E => ∃ (l : Addr) (ws : List Str), vs = [.ref l] ∧ LstT H l (ws.map PyData.str) ∧ (∀ x ∈ ws, x.length ≤ 600) ∧ (∀ k, keyF ws = some k → ∀ v H2, Ex H H2 → Td H2 v (keyD k) → Q v H2) ∧ (keyF ws = none → ∀ H2, Ex H H2 → E (cNoMaze K) none H2)
theorem ok_key_of (T : Txt K mg) : Kept P w K mg base 2 "key_of" ["words"] (sp_key_of K) := by
  refine T.d_key_of.kept sc_key_of (fun vs H Q E h => ?_) (fun cdv A outer s H vs Q E hr h => ?_)
  · obtain ⟨l, ws, rfl, _⟩ := h
    rfl
  · obtain ⟨l, ws, rfl, hl, hws, q, qe⟩ := h
    refine ⟨_, (pss_cons (ps_if (PW.pt (pw_or (pt_cmpR op_ne (pe_callB (call_len_seq_K (K := K) rfl) (by rfl) T.n_len (by decide +kernel) (pa_cons (pv 0) pa_nil)) pe_int (nomark _)) (pw_or1 (pt_cmpR op_ne (pe_ix (ix_list_K (K := K) rfl) (pv 0) pe_int (fun _ _ => rfl)) pe_str (nomark _)))))
        (pss_one (ps_raise rfl (takes_of rfl rfl rfl rfl) (pmk_own PySem.F.excBase_ValueError T.e_NoMaze.xC T.e_NoMaze.gC T.e_NoMaze.kC (raises_own T.e_NoMaze.bC T.e_NoMaze.tC) rfl)))
        pss_nil)
      (pss_one (ps_ret (pe_tup (pa_cons (pe_fn (ok_number_of (K := K) T) (hr.mono (by decide)) (passR (takes_of rfl rfl rfl rfl)) (by rfl) (pa_cons (pe_ix (ix_list_K (K := K) rfl) (pv 0) pe_int (fun _ _ => rfl)) pa_nil)) (pa_cons (pe_fn (ok_number_of (K := K) T) (hr.mono (by decide)) (passR (takes_of rfl rfl rfl rfl)) (by rfl) (pa_cons (pe_ix (ix_list_K (K := K) rfl) (pv 0) pe_int (fun _ _ => rfl)) pa_nil)) pa_nil)))))), ?_⟩
    have word : ∀ {σ : L2.St} {H' : Hp} {i : Nat}, Ex H H' → σ[0]? = some (some (.ref l)) → i < ws.length → Ev (tOp (rIxL K) (tVar 0) (tC (.int (i : Int)))) σ H' (.str (ws.getD i "")) := fun e h hi => ev_wd (ev_var h) (hl.ex e) ev_c hi
    have wz : ∀ {i : Nat}, i < ws.length → (ws.getD i "").length ≤ 600 := fun hi => hws _ (mem_getD hi)
    by_cases h4 : ws.length = 4
    · refine q_when (b := (!decide ((ws.length : Int) = 4)) || !decide (ws.getD 2 "" = "in")) (et_or (et_test (ev_op (ev_lenW (K := K) (ev_var rfl) hl) ev_c rv_neI)) fun _ => et_test (ev_op (word (i := 2) (Ex.refl _) rfl (by omega)) ev_c rv_neS)) (fun hb H1 e1 => ?_) (fun hb H1 e1 => ?_)
      · have hno : ¬ (ws.length = 4 ∧ ws.getD 2 "" = "in") := fun z => by
          rw [decide_eq_true z.2, decide_eq_true (by omega)] at hb
          cases hb
        exact qe (by unfold keyF; rw [if_neg hno]) H1 e1
      have hin : ws.getD 2 "" = "in" := by
        rw [Bool.or_eq_false_iff] at hb
        simpa using hb.2
      have hkf : keyF ws = (numF (ws.getD 3 "")).bind fun r => (numF (ws.getD 1 "")).map fun k => (r, k) := by unfold keyF; rw [if_pos ⟨h4, hin⟩]
      show (tTup _) _ _ _
      refine ta_cons ?_
      refine (ea_cons (word (i := 3) e1 rfl (by omega)) ea_nil : EvA _ _ _ [.str (ws.getD 3 "")]) H1 (Ex.refl H1) _ fun H3 e3 => ⟨_, rfl, wz (by omega), fun a ha H4 e4 => ?_, fun ha H4 e4 => qe (by rw [hkf, ha]; rfl) H4 ((e1.trans e3).trans e4)⟩
      have e24 := (e1.trans e3).trans e4
      refine ta_cons ?_
      refine (ea_cons (word (i := 1) e24 rfl (by omega)) ea_nil : EvA _ _ _ [.str (ws.getD 1 "")]) H4 (Ex.refl H4) _ fun H5 e5 => ⟨_, rfl, wz (by omega), fun b hb H6 e6 => ?_, fun hb H6 e6 => qe (by rw [hkf, ha, hb]; rfl) H6 ((e24.trans e5).trans e6)⟩
      have e26 := (e24.trans e5).trans e6
      refine ⟨sz_of (by simp), fun p np => q (a, b) (by rw [hkf, ha, hb]; rfl) _ _ (e26.trans (Ex.new np)) ?_⟩
      exact .tup upd_same (.cons (.int a) (.cons (.int b) .nil))
    · refine q_when (b := true) (et_or (b := true) (et_test (ev_is (ev_op (ev_lenW (K := K) (ev_var rfl) hl) ev_c rv_neI) (by rw [decide_eq_false (show ¬ (ws.length : Int) = 4 by omega), Bool.not_false]))) (fun z => Bool.noConfusion z)) (fun _ H1 e1 => ?_) (fun z => Bool.noConfusion z)
      exact qe (by unfold keyF; rw [if_neg (fun z => h4 z.1)]) H1 e1
/-! ### read -/
theorem s_appC {σ : L2.St} {H : Hp} {D : Ends} {ta : TE} {tr : TA} {sp : Sp} {E : XK} {l : Addr} {ds : List PyData} {vs : List V} (hl : LstT H l ds) (ha : Ev ta σ H (.ref l)) (hr : EvA tr σ H vs) (hz : ds.length < 100000) (k : ∀ H2, Ex H H2 → sp vs H2 (fun v H3 => ∃ xs, H3 l = some (.lst xs) ∧ xs.length < 100000 ∧ D.nx σ (upd H3 l (.lst (xs ++ [v])))) E) (hm : ∀ {vs H Q Q'}, (∀ v H, Q v H → Q' v H) → sp vs H Q E → sp vs H Q' E) :
    tDrop (tBM K "list" rAppend ta (tCons (tCall sp [] E tr) tNil)) D σ H := by
  obtain ⟨xs, ho, hd⟩ := hl
  refine ha H (Ex.refl H) _ fun H1 e1 => ⟨Or.inl ⟨rfl, xs, sq_of (e1 l _ ho)⟩, ?_⟩
  refine ta_cons ?_
  refine hr H1 e1 _ fun H2 e2 => ?_
  show sp (vs ++ []) H2 _ E
  rw [List.append_nil]
  refine hm (fun v H3 hv => ?_) (k H2 (e1.trans e2))
  obtain ⟨ys, hy, hyl, hn⟩ := hv
  exact ⟨l, ys, v, rfl, rfl, hy, sz_lt hyl, hn⟩
theorem cutD_tail (ds : List PyData) (h : ds ≠ []) : cutD ds (some 1) none = ds.drop 1 := by
  have hl : 0 < ds.length := List.length_pos_iff.mpr h
  unfold cutD
  have e : (some (1 : Int)) = some ((1 : Nat) : Int) := rfl
  rw [e, HT.sIx_none, HT.sIx_nat, Nat.min_eq_left (by omega)]
  rw [List.take_of_length_le (by rw [List.length_drop]; omega)]
inductive Ref4 where
  | maze
  | r3 (r : Ref3)
def clsR4 (K : PySem.W.Frag) : Ref4 → Value
  | .maze => cNoMaze K
  | .r3 r => clsR K r
def Res.bad? : Res → Option Ref4
  | .ok _ _ _ => none
  | .maze => some .maze
  | .bad r => some (.r3 r)
/-- a maze that stands -/
def MazeT (H : Hp) (v : V) (n : Int) (ds : List Door) (ks : List Key2) : Prop := ∃ p dp kp, v = .ref p ∧ H p = some (.tup [.int n, .ref dp, .ref kp]) ∧ LstT H dp (ds.map doorD) ∧ LstT H kp (ks.map keyD)
theorem MazeT.ex {H H' : Hp} {v : V} {n : Int} {ds : List Door} {ks : List Key2} (e : Ex H H') (h : MazeT H v n ds ks) : MazeT H' v n ds ks := let ⟨p, dp, kp, a, b, c, d⟩ := h; ⟨p, dp, kp, a, e _ _ b, c.ex e, d.ex e⟩
theorem MazeT.dp {H : Hp} {v : V} {n : Int} {ds : List Door} {ks : List Key2} (h : MazeT H v n ds ks) : Dp K H v (mazeF n ds ks) := by
  obtain ⟨p, dp, kp, rfl, b, c, d⟩ := h
  exact .tup (SqT.of b) (.cons (.int n) (.cons c.dp (.cons d.dp .nil)))
theorem s_retCP {σ : L2.St} {H : Hp} {D : Ends} {tr : TA} {sp : Sp} {E : XK} {Pa : List V → Hp → Prop} (h : EaP tr σ H Pa) (k : ∀ vs H1, Ex H H1 → Pa vs H1 → sp vs H1 D.rt E) : tRet (tCall sp [] E tr) D σ H := h H (Ex.refl H) _ fun vs H1 e1 p => by
  show sp (vs ++ []) H1 _ E
  rw [List.append_nil]
  exact k vs H1 e1 p
def sp_read (K : PySem.W.Frag) : Sp := fun vs H Q E => ∃ rows : List Str, vs = [.str (Txt.join "\n" rows)] ∧ RowsOk2 rows ∧ (∀ n ds ks, resF rows = .ok n ds ks → ∀ v H2, Ex H H2 → MazeT H2 v n ds ks → Q v H2) ∧ (∀ r, (resF rows).bad? = some r → ∀ H2, Ex H H2 → E (clsR4 K r) none H2)
theorem join_len {rows : List Str} (h : RowsOk2 rows) : (Txt.join "\n" rows).length ≤ 76000 := by
  obtain ⟨h0, h1, h2⟩ := h
  cases rows with
  | nil => exact absurd rfl h0
  | cons a r =>
    rw [join_eq, PyProof.Rows.len_join_cons]
    have hs := sum_len_le (xs := a :: r) (c := 300) fun x hx => (h2 x hx).1
    have hn : (("\n" : Str)).length = 1 := by decide +kernel
    rw [hn]
    simp only [List.length_cons] at h1 hs ⊢
    omega
theorem res_none {rows : List Str} (h : parseF rows = none) : (resF rows).bad? = some .maze := by unfold resF; rw [h]; rfl
theorem parse_head {rows : List Str} (h : headF (rows.headD "") = none) : parseF rows = none := by unfold parseF; rw [h]; rfl
theorem parse_tail {rows : List Str} (h : allP rows.tail = none) : parseF rows = none := by
  unfold parseF
  rw [h]
  cases headF (rows.headD "") <;> rfl
theorem parse_some {rows : List Str} {n : Int} {ps : List Part} (h : headF (rows.headD "") = some n) (h2 : allP rows.tail = some ps) : parseF rows = some (n, ps) := by unfold parseF; rw [h, h2]; rfl
theorem ok_read (T : Txt K mg) : Kept P w K mg base 3 "read" ["text"] (sp_read K) := by
  refine T.d_read.kept sc_read (fun vs H Q E h => ?_) (fun cdv A outer s H vs Q E hr h => ?_)
  · obtain ⟨rows, rfl, _⟩ := h
    rfl
  · obtain ⟨rows, rfl, hR, q, qe⟩ := h
    refine ⟨_, (pss_cons (ps_set (i := 1) sc_read.nd rfl (Or.inl rfl) (pe_split (pv 0) pe_str))
      (pss_cons (ps_set (i := 2) sc_read.nd rfl (Or.inl rfl) (pe_split (pe_ix (ix_list_K (K := K) rfl) (pv 1) pe_int (fun _ _ => rfl)) pe_str))
      (pss_cons (ps_if (PW.pt (pw_or (pt_cmpR op_ne (pe_callB (call_len_seq_K (K := K) rfl) (by rfl) T.n_len (by decide +kernel) (pa_cons (pv 2) pa_nil)) pe_int (nomark _)) (pw_or1 (pt_cmpR op_ne (pe_ix (ix_list_K (K := K) rfl) (pv 2) pe_int (fun _ _ => rfl)) pe_str (nomark _)))))
        (pss_one (ps_raise rfl (takes_of rfl rfl rfl rfl) (pmk_own PySem.F.excBase_ValueError T.e_NoMaze.xC T.e_NoMaze.gC T.e_NoMaze.kC (raises_own T.e_NoMaze.bC T.e_NoMaze.tC) rfl)))
        pss_nil)
      (pss_cons (ps_set (i := 3) sc_read.nd rfl (Or.inl rfl) (pe_fn (ok_number_of (K := K) T) (hr.mono (by decide)) (passR (takes_of rfl rfl rfl rfl)) (by rfl) (pa_cons (pe_ix (ix_list_K (K := K) rfl) (pv 2) pe_int (fun _ _ => rfl)) pa_nil)))
      (pss_cons (ps_set (i := 4) sc_read.nd rfl (Or.inl rfl) (pe_lst pa_nil))
      (pss_cons (ps_set (i := 5) sc_read.nd rfl (Or.inl rfl) (pe_lst pa_nil))
      (pss_cons (ps_for (passes_of rfl) rfl (pi_list_K (K := K) rfl (pe_slice (sl_list_K (K := K) rfl) (pv 1) (po_some pe_int) po_none)) (pg_name (i := 6) sc_read.nd rfl (Or.inl rfl))
        (pss_cons (ps_set (i := 2) sc_read.nd rfl (Or.inl rfl) (pe_split (pv 6) pe_str))
      (pss_one (ps_if (pt_cmpR op_eq (pe_ix (ix_list_K (K := K) rfl) (pv 2) pe_int (fun _ _ => rfl)) pe_str (nomark _))
        (pss_one (ps_expr (pe_bm_K (K := K) rfl PySem.F.plainAttrs_list PySem.F.slot_list_append PySem.F.type_list_append mt_append (pv 4) (pa_cons (pe_fn (ok_door_of (K := K) T) (hr.mono (by decide)) (passR (takes_of rfl rfl rfl rfl)) (by rfl) (pa_cons (pv 2) pa_nil)) pa_nil))))
        (pss_one (ps_if (pt_cmpR op_eq (pe_ix (ix_list_K (K := K) rfl) (pv 2) pe_int (fun _ _ => rfl)) pe_str (nomark _))
        (pss_one (ps_expr (pe_bm_K (K := K) rfl PySem.F.plainAttrs_list PySem.F.slot_list_append PySem.F.type_list_append mt_append (pv 5) (pa_cons (pe_fn (ok_key_of (K := K) T) (hr.mono (by decide)) (passR (takes_of rfl rfl rfl rfl)) (by rfl) (pa_cons (pv 2) pa_nil)) pa_nil))))
        (pss_one (ps_raise rfl (takes_of rfl rfl rfl rfl) (pmk_own PySem.F.excBase_ValueError T.e_NoMaze.xC T.e_NoMaze.gC T.e_NoMaze.kC (raises_own T.e_NoMaze.bC T.e_NoMaze.tC) rfl)))))))))
      (pss_one (ps_ret (pe_fn (ok_checked (K := K) T) (hr.mono (by decide)) (passR (takes_of rfl rfl rfl rfl)) (by rfl) (pa_cons (pe_tup (pa_cons (pv 3) (pa_cons (pv 4) (pa_cons (pv 5) pa_nil)))) pa_nil))))))))))), ?_⟩
    have hjl := join_len hR
    have hsp := split_lines (rows := rows) hR.1 fun r hr z => (hR.2.2 r hr).2 10 z |>.2 rfl
    obtain ⟨r0, rs, erows⟩ : ∃ r0 rs, rows = r0 :: rs := by
      cases rows with
      | nil => exact absurd rfl hR.1
      | cons a r => exact ⟨a, r, rfl⟩
    obtain ⟨text, etext⟩ : ∃ text, Txt.join "\n" rows = text := ⟨_, rfl⟩
    rw [etext] at hjl hsp ⊢
    refine q_asgLT (ds := rows.map PyData.str) (by rw [← hsp]; exact lt_split (ev_var rfl) ev_c (by omega) (by decide +kernel)) fun rp H1 nr e1 hrp => ?_
    have hr0 : RowOk r0 := hR.2.2 r0 (by rw [erows]; simp)
    have hpos := words_pos r0
    refine q_asgLT (ds := (wordsF r0).map PyData.str) (by
      have h := ev_wd (K := K) (i := 0) (ev_var (i := 1) rfl) hrp ev_c (by rw [erows]; simp) (σ := [some (.str text), some (.ref rp), none, none, none, none, none]) (H := H1)
      rw [show rows.getD 0 "" = r0 by rw [erows]; rfl] at h
      exact lt_split h ev_c (by have := hr0.1; omega) (by decide +kernel)) fun wp H2 nw e2 hwp => ?_
    have hhd : rows.headD "" = r0 := by rw [erows]; rfl
    have htl : rows.tail = rs := by rw [erows]; rfl
    have e12 := e1.trans e2
    refine q_when (b := (!decide (((wordsF r0).length : Int) = 2)) || !decide ((wordsF r0).getD 0 "" = "rooms")) (et_or (et_test (ev_op (ev_lenW (K := K) (ev_var rfl) hwp) ev_c rv_neI)) fun _ => et_test (ev_op (ev_wd (i := 0) (ev_var rfl) hwp ev_c (by omega)) ev_c rv_neS)) (fun hb H3 e3 => ?_) (fun hb H3 e3 => ?_)
    · refine qe .maze (res_none (parse_head ?_)) H3 (e12.trans e3)
      rw [hhd]
      unfold headF
      rw [if_neg]
      intro z
      rw [decide_eq_true z.2, decide_eq_true (by omega)] at hb
      cases hb
    rw [Bool.or_eq_false_iff] at hb
    have hw2 : (wordsF r0).length = 2 := by
      have : ((wordsF r0).length : Int) = 2 := by simpa using hb.1
      omega
    have hw0 : (wordsF r0).getD 0 "" = "rooms" := by simpa using hb.2
    have hhf : headF (rows.headD "") = numF ((wordsF r0).getD 1 "") := by rw [hhd]; unfold headF; rw [if_pos ⟨hw2, hw0⟩]
    have hwz : ((wordsF r0).getD 1 "").length ≤ 600 := by
      have := words_len (x := r0) (mem_getD (ws := wordsF r0) (i := 1) (by omega))
      have := hr0.1
      omega
    have e13 := e12.trans e3
    refine q_asgA (vs := [.str ((wordsF r0).getD 1 "")]) (ea_cons (ev_wd (K := K) (i := 1) (ev_var rfl) (hwp.ex e3) ev_c (by omega)) ea_nil) fun H4 e4 => ⟨_, rfl, hwz, fun n hn H5 e5 => ?_, fun hn H5 e5 => qe .maze (res_none (parse_head (by rw [hhf]; exact hn))) H5 ((e13.trans e4).trans e5)⟩
    have e15 := (e13.trans e4).trans e5
    have e25 := (e3.trans e4).trans e5
    refine q_asgLT (ds := []) (lt_lst ea_tn (by simp)) fun dp H6 nd e6 hdp => ?_
    refine q_asgLT (ds := []) (lt_lst ea_tn (by simp)) fun kp H7 nk e7 hkp => ?_
    have e57 := e6.trans e7
    have hrp5 := hrp.ex (e2.trans e25)
    have nd5 : H5 dp = none := nd
    have nk5 : H5 kp = none := fresh_back e6 nk
    have hdk : dp ≠ kp := fun z => by
      subst z
      obtain ⟨ys, hys, _⟩ := hdp
      rw [nk] at hys
      cases hys
    have hrl : rs.length ≤ 250 := by
      have := hR.2.1
      rw [erows, List.length_cons] at this
      omega
    refine q_forEL (K := K) (g := gName 6) (ds := rs.map PyData.str) (by
      have h := lt_slL (K := K) (lo := some 1) (hi := none) (ev_var (i := 1) rfl) (hrp5.ex e57) (eo_some ev_c) eo_none (σ := [some (.str text), some (.ref rp), some (.ref wp), some (.int n), some (.ref dp), some (.ref kp), none]) (H := H7)
      rw [cutD_tail _ (by rw [erows]; simp), erows] at h
      exact h) fun pp xs H8 npp e8 hpp hpd => ⟨fun i σ' H' => Ex H5 H' ∧ H' pp = some (.lst xs) ∧ Tk H8 H' ∧ ∃ (y2 y6 : Option V) (ps : List Part), σ' = [some (.str text), some (.ref rp), y2, some (.int n), some (.ref dp), some (.ref kp), y6] ∧ allP (rs.take i) = some ps ∧ ps.length ≤ i ∧ LstT H' dp ((doorsP ps).map doorD) ∧ LstT H' kp ((keysP ps).map keyD), ⟨e57.trans e8, hpp, Tk.refl _, _, _, [], rfl, rfl, Nat.le_refl 0, hdp.ex (e7.trans e8), hkp.ex e8⟩, fun i σ' H' h => ⟨h.2.1, h.2.2.1⟩, fun i d x σ' H' hdi hx hP => ?_, fun σ' H' hP => ?_⟩
    · obtain ⟨eH, hpp', tk, y2, y6, ps, rfl, hps, hpl, hD, hK⟩ := hP
      rw [List.getElem?_map] at hdi
      obtain ⟨r, hri, rfl⟩ := Option.map_eq_some_iff.mp hdi
      cases hx
      have hil : i < rs.length := (List.getElem?_eq_some_iff.mp hri).1
      have hrm : r ∈ rows := by rw [erows]; exact List.mem_cons_of_mem _ (List.mem_of_getElem? hri)
      have hrok := hR.2.2 r hrm
      have hwpos := words_pos r
      have hstep := allP_take hri hps
      have hdl : (doorsP ps).length ≤ ps.length := List.length_filterMap_le _ _
      have hkl : (keysP ps).length ≤ ps.length := List.length_filterMap_le _ _
      have hbadp : partF r = none → (resF rows).bad? = some .maze := fun h => res_none (parse_tail (by rw [htl]; exact allP_none hri h))
      have hwz2 : ∀ x ∈ wordsF r, x.length ≤ 600 := fun x hx => by
        have := words_len hx
        have := hrok.1
        omega
      have ppd : ∀ {Hz : Hp} {l : Addr} {zs : List V}, Ex H' Hz → Hz l = some (.lst zs) → H5 l = none → pp ≠ l → ∀ o, upd Hz l o pp = some (.lst xs) := fun e hl _ ne o => by rw [L2.upd_ne ne]; exact e _ _ hpp'
      have hpd : pp ≠ dp := fun z => by
        subst z
        obtain ⟨ys, hys, _⟩ := hdp.ex e7
        rw [hys] at npp
        cases npp
      have hpk : pp ≠ kp := fun z => by
        subst z
        obtain ⟨ys, hys, _⟩ := hkp
        rw [hys] at npp
        cases npp
      show tSeq _ _ _ _ _
      refine q_asgLT (ds := (wordsF r).map PyData.str) (lt_split (ev_var rfl) ev_c (by have := hrok.1; omega) (by decide +kernel)) fun wp2 H9 nw2 e9 hwp2 => ?_
      have eH9 := eH.trans e9
      refine tif_cases (b := decide ((wordsF r).getD 0 "" = "door")) (et_test (ev_op (ev_wd (i := 0) (ev_var rfl) hwp2 ev_c (by omega)) ev_c rv_eqS)) (fun hb1 H10 e10 => ?_) (fun hb1 H10 e10 => ?_)
      · have hdoor := of_decide_eq_true hb1
        have hpf : partF r = (doorF (wordsF r)).map .inl := by unfold partF partW; rw [if_pos hdoor]
        have e910 := e9.trans e10
        refine s_appC (K := K) (ds := (doorsP ps).map doorD) (vs := [.ref wp2]) (hD.ex e910) (ev_var rfl) (ea_cons (ev_var rfl) ea_nil) (by rw [List.length_map]; omega) (fun H11 e11 => ⟨wp2, wordsF r, rfl, hwp2.ex (e10.trans e11), hwz2, fun d hd v H12 e12 hv => ?_, fun hd H12 e12 => qe .maze (hbadp (by rw [hpf, hd]; rfl)) H12 (e15.trans (((eH9.trans e10).trans e11).trans e12))⟩) (fun hq ⟨l, ws, h1, h2, h3, h4, h5⟩ => ⟨l, ws, h1, h2, h3, fun d hd v H e t => hq v H (h4 d hd v H e t), h5⟩)
        have e912 := (e910.trans e11).trans e12
        have eH12 := eH.trans e912
        obtain ⟨zs, hzs, hzd⟩ := hD.ex e912
        have hzl := hzd.len
        rw [List.length_map] at hzl
        refine ⟨zs, hzs, by omega, Ex.mut eH12 nd5, ppd e912 hzs nd5 hpd _, (tk.trans (Tk.ex e912)).trans (Tk.lst hzs), _, _, ps ++ [.inl d], rfl, by rw [hstep, hpf, hd]; rfl, by rw [List.length_append, List.length_singleton]; omega, ?_, ?_⟩
        · have e : doorsP (ps ++ [.inl d]) = doorsP ps ++ [d] := by unfold doorsP; rw [List.filterMap_append]; rfl
          rw [e, List.map_append]
          exact LstT.push hzs hzd hv
        · have e : keysP (ps ++ [.inl d]) = keysP ps := by unfold keysP; rw [List.filterMap_append]; simp
          rw [e]
          exact (hK.ex e912).upd_ne hzs (fun z => hdk z.symm)
      · have hnd := of_decide_eq_false hb1
        refine tif_cases (b := decide ((wordsF r).getD 0 "" = "key")) (et_test (ev_op (ev_wd (i := 0) (ev_var rfl) (hwp2.ex e10) ev_c (by omega)) ev_c rv_eqS)) (fun hb2 H11 e11 => ?_) (fun hb2 H11 e11 => ?_)
        · have hkey := of_decide_eq_true hb2
          have hpf : partF r = (keyF (wordsF r)).map .inr := by unfold partF partW; rw [if_neg hnd, if_pos hkey]
          have e911 := (e9.trans e10).trans e11
          refine s_appC (K := K) (ds := (keysP ps).map keyD) (vs := [.ref wp2]) (hK.ex e911) (ev_var rfl) (ea_cons (ev_var rfl) ea_nil) (by rw [List.length_map]; omega) (fun H12 e12 => ⟨wp2, wordsF r, rfl, hwp2.ex ((e10.trans e11).trans e12), hwz2, fun d hd v H13 e13 hv => ?_, fun hd H13 e13 => qe .maze (hbadp (by rw [hpf, hd]; rfl)) H13 (e15.trans (((eH.trans e911).trans e12).trans e13))⟩) (fun hq ⟨l, ws, h1, h2, h3, h4, h5⟩ => ⟨l, ws, h1, h2, h3, fun d hd v H e t => hq v H (h4 d hd v H e t), h5⟩)
          have e913 := (e911.trans e12).trans e13
          have eH13 := eH.trans e913
          obtain ⟨zs, hzs, hzd⟩ := hK.ex e913
          have hzl := hzd.len
          rw [List.length_map] at hzl
          refine ⟨zs, hzs, by omega, Ex.mut eH13 nk5, ppd e913 hzs nk5 hpk _, (tk.trans (Tk.ex e913)).trans (Tk.lst hzs), _, _, ps ++ [.inr d], rfl, by rw [hstep, hpf, hd]; rfl, by rw [List.length_append, List.length_singleton]; omega, ?_, ?_⟩
          · have e : doorsP (ps ++ [.inr d]) = doorsP ps := by unfold doorsP; rw [List.filterMap_append]; simp
            rw [e]
            exact (hD.ex e913).upd_ne hzs hdk
          · have e : keysP (ps ++ [.inr d]) = keysP ps ++ [d] := by unfold keysP; rw [List.filterMap_append]; rfl
            rw [e, List.map_append]
            exact LstT.push hzs hzd hv
        · have hnk := of_decide_eq_false hb2
          exact qe .maze (hbadp (by unfold partF partW; rw [if_neg hnd, if_neg hnk])) H11 (e15.trans ((eH9.trans e10).trans e11))
    · obtain ⟨eH, _, _, y2, y6, ps, rfl, hps, hpl, hD, hK⟩ := hP
      rw [List.length_map, List.take_length] at hps
      have hpa := parse_some (hhf.trans hn) (by rw [htl]; exact hps)
      refine s_retCP (Pa := fun vs H' => ∃ v, vs = [v] ∧ MazeT H' v n (doorsP ps) (keysP ps)) (ea_pc (ep_tupP (R := fun vs _ => vs = [.int n, .ref dp, .ref kp]) (ea_pv (ev_var rfl) fun H9 e9 => ea_pv (ev_var rfl) fun H10 e10 => ea_pv (ev_var rfl) fun H11 e11 => ea_pn fun H12 e12 => rfl) (fun vs H' h => by rw [h]; simp)) fun v H9 e9 hu => ea_pn fun H10 e10 => ⟨v, rfl, ?_⟩) fun vs H9 e9 hvs => ?_
      · obtain ⟨p, vs, Hm, rfl, hp, e91, e92, rfl⟩ := hu
        exact ⟨p, dp, kp, rfl, e10 _ _ hp, hD.ex (e9.trans e10), hK.ex (e9.trans e10)⟩
      obtain ⟨v, rfl, hv⟩ := hvs
      have e19 := (e15.trans eH).trans e9
      exact ⟨v, n, doorsP ps, keysP ps, rfl, hv.dp, fun hc H10 e10 => q n (doorsP ps) (keysP ps) (by unfold resF; rw [hpa]; simp only [hc]) v H10 (e19.trans e10) (hv.ex e10), fun r hc H10 e10 => qe (.r3 r) (by unfold resF; rw [hpa]; simp only [hc]; rfl) H10 (e19.trans e10)⟩
end

section
variable {P : Program} {w : World} {K : PySem.W.Frag} {mg : Str → Option Value} {base : Heap}
/-! ### numbers and parts, as the law has them -/
def numL (x : Str) : Int := (numF x).getD (-1)
theorem numL_ge (x : Str) : decide (0 ≤ numL x) = (numF x).isSome := by
  unfold numL
  cases h : numF x with
  | none => simp
  | some n =>
    have := num_nonneg h
    simp [this]
theorem numL_some {x : Str} {n : Int} (h : numF x = some n) : numL x = n := by unfold numL; rw [h]; rfl
theorem ev_in2 {σ : L2.St} {H : Hp} {ta : TE} {i a b : Int} (h : Ev ta σ H (.int i)) : Ev (tOp (rIn K false) ta (tTup (tCons (tC (.int a)) (tCons (tC (.int b)) tNil)))) σ H (.bl (decide (i ∈ [a, b]))) := ev_inW h (td_tup (ds := [.int a, .int b]) (ea_tc (td_int ev_c) (ea_tc (td_int ev_c) ea_tn)) (by simp))
def sp_l_number (K : PySem.W.Frag) : Sp := fun vs H Q _ => ∃ x : Str, vs = [.str x] ∧ RowOk x ∧ ∀ H2, Ex H H2 → Q (.int (numL x)) H2
theorem ok_l_number (T : Txt K mg) : Kept P w K mg base 1 "_law_number" ["_law_word"] (sp_l_number K) := by
  refine T.d_l_number.kept sc_l_number (fun vs H Q E h => ?_) (fun cdv A outer s H vs Q E hr h => ?_)
  · obtain ⟨x, rfl, _⟩ := h
    rfl
  · obtain ⟨x, rfl, hok, q⟩ := h
    refine ⟨_, (pss_cons (ps_if (PW.pt (pw_or (pt_cmpR op_eq (pv 0) pe_str (nomark _)) (pw_or (PW.pt (pw_and (pt_cmpR op_gt (pe_callB call_len_str (by rfl) T.n_len (by decide +kernel) (pa_cons (pv 0) pa_nil)) pe_int (nomark _)) (pw_and1 (pt_cmpR op_eq (pe_ix ix_str (pv 0) pe_int (fun _ _ => rfl)) pe_str (nomark _))))) (pw_or1 (pt_cmpR (op_neD_K (K := K) rfl hr.units) (pe_lc (own := [("_law_sign", 1)]) (g := gName 1) rfl sc_l_number.nd (pi_str (pv 0)) (blkOk_by (own := [("_law_sign", 1)]) (N := ["_law_word", "_law_sign"]) (sc := defScope s_l_number) (by decide +kernel)) (fun _ _ _ _ _ => (pg_name (i := 1) sc_l_number.nd rfl (Or.inl rfl))) (fun _ _ _ _ _ => pts_one (pt_cmpR op_notIn_sign (pv 1) pe_str (by rfl))) (fun _ _ _ _ _ => (pv 1))) (pe_lst pa_nil) (nomark _))))))
        (pss_one (ps_ret (pe_un un_neg pe_int)))
        pss_nil)
      (pss_one (ps_ret (pe_callTy call_int_str (by rfl) T.n_int (by decide +kernel) (pa_cons (pv 0) pa_nil))))), ?_⟩
    have hz := hok.1
    have fin : ∀ b : Bool, (b = true → numF x = none) → (b = false → ∃ n, numF x = some n) → EvT (tOr (tTest (tOp rEq (tVar 0) (tC (.str "")))) (tOr (tAnd (tTest (tOp (rI0 fun i j => V.bl (decide (j < i))) (tCB (fun xs H Q => ∃ z, xs = [.str z] ∧ z.length ≤ sizeLine ∧ Q (.int z.length) H) (tCons (tVar 0) tNil)) (tC (.int 1)))) (tTest (tOp rEq (tOp rIxS (tVar 0) (tC (.int 0))) (tC (.str "0"))))) (tTest (tOp (rNeD K) (tLc (iStr (tVar 0)) (gName 1) (tTest (tOp (fun x y H Q => ∃ (c : Nat) (z : Str), x = .str ⟨#[c]⟩ ∧ y = .str z ∧ Q (.bl (!decide (c ∈ z.cps.toList))) H) (tVar 1) (tC (.str "0123456789")))) (tVar 1) [1]) (tLst tNil))))) [some (.str x), none] H b → True := fun _ _ _ _ => True.intro
    by_cases hx : x = ""
    · have hn : numL x = -1 := by
        have : numF x = none := by
          unfold numF
          rw [hx]
          split
          · rw [if_pos (by unfold bad0; simp)]
          · rfl
        unfold numL
        rw [this]
        rfl
      refine q_when (b := true) (et_or (b := true) (et_test (ev_is (ev_op (ev_var rfl) ev_c rv_eqS) (by rw [decide_eq_true hx]))) (fun z => Bool.noConfusion z)) (fun _ H1 e1 => ?_) (fun z => Bool.noConfusion z)
      rw [hn] at q
      exact s_ret (ev_un ev_c ru_neg) fun H2 e2 => q H2 (e1.trans e2)
    · obtain ⟨c, hc⟩ : ∃ c, (cs x)[0]? = some c := by
        cases h : cs x with
        | nil => exact absurd (cs_nil h) hx
        | cons a r => exact ⟨a, rfl⟩
      have hcl : (cs x).length = x.length := cs_len x
      have hb0 : bad0 x = (decide ((1 : Int) < (x.length : Int)) && decide (c = 48)) := by
        unfold bad0
        rw [hc, decide_eq_false hx, Bool.false_or, Bool.and_comm]
        congr 1
        · rw [decide_eq_decide]
          omega
        · simp
      have hfl : (decide (((cs x).filter fun c => !digB c) = [])) = (cs x).all digB := by
        rw [Bool.eq_iff_iff]
        simp only [decide_eq_true_eq, List.filter_eq_nil_iff, List.all_eq_true]
        constructor
        · intro h a ha
          have := h a ha
          simpa using this
        · intro h a ha
          rw [h a ha]
          simp
      refine q_when (b := decide (x = "") || ((decide ((1 : Int) < (x.length : Int)) && decide (c = 48)) || !(cs x).all digB)) (et_or (et_test (ev_op (ev_var rfl) ev_c rv_eqS)) fun _ => et_or (et_and (et_test (ev_op (ev_lenStr (ev_var rfl) (by omega)) ev_c rv_I0)) fun _ => et_test (ev_is (ev_op (ev_op (ev_var rfl) ev_c (rv_ixS (i := 0) (by omega) (atI_nat (j := 0) hc))) ev_c rv_eqS) (by rw [zero_eq]; congr 1; rw [decide_eq_decide]; exact one_eq))) fun _ => et_test (ev_is (ev_neD (d := .list (((cs x).filter fun c => !digB c).map fun c => PyData.str ⟨#[c]⟩)) (e := .list []) (ed_lt (lt_lcS (z := x) (j := 1) (fun c => !digB c) (ev_var rfl) (by omega) (fun y => rfl) (by simp [L2.start]) (fun c H1 e1 => et_test (ev_op (ev_var rfl) ev_c rv_niS)))) (ed_lt (lt_lst (ds := []) ea_tn (by simp))) (sh_signs _ fun c hc => (hok.2 c (List.mem_filter.mp hc).1).1) (sh_signs [] (by simp))) (by rw [eqv_nilL, ← hfl]; congr 2; rw [decide_eq_decide, List.map_eq_nil_iff]))) (fun hb H1 e1 => ?_) (fun hb H1 e1 => ?_)
      · have hn : numL x = -1 := by
          have : numF x = none := by
            unfold numF
            split
            · rename_i hall
              rw [hall, decide_eq_false hx, ← hb0] at hb
              rw [if_pos (by simpa using hb)]
            · rfl
          unfold numL
          rw [this]
          rfl
        rw [hn] at q
        exact s_ret (ev_un ev_c ru_neg) fun H2 e2 => q H2 (e1.trans e2)
      · rw [← hb0, decide_eq_false hx, Bool.false_or, Bool.or_eq_false_iff] at hb
        have hn : numF x = some ((PySem.NumText.digitsVal (cs x) : Nat) : Int) := by
          unfold numF
          rw [if_pos (by simpa using hb.2), if_neg (by rw [hb.1]; simp)]
        rw [numL_some hn] at q
        exact s_ret (ev_intS (ev_var rfl) (num_text hn (by omega)) (by omega)) fun H2 e2 => q H2 (e1.trans e2)
theorem sv_l_number {H : Hp} {x : Str} (h : RowOk x) : SpV (sp_l_number K) [.str x] H (.int (numL x)) := fun H1 e Q q E => ⟨x, rfl, h, q⟩
/-! ### a part -/
def partD : Part → PyData
  | .inl d => doorD d
  | .inr k => keyD k
def optPD : Option Part → PyData
  | none => .none
  | some p => partD p
def sp_l_part (K : PySem.W.Frag) : Sp := fun vs H Q _ => ∃ row : Str, vs = [.str row] ∧ RowOk row ∧ ∀ v H2, Ex H H2 → Td H2 v (optPD (partF row)) → Q v H2
theorem ok_l_part (T : Txt K mg) : Kept P w K mg base 2 "_law_part" ["_law_row"] (sp_l_part K) := by
  refine T.d_l_part.kept sc_l_part (fun vs H Q E h => ?_) (fun cdv A outer s H vs Q E hr h => ?_)
  · obtain ⟨row, rfl, _⟩ := h
    rfl
  · obtain ⟨row, rfl, hok, q⟩ := h
    refine ⟨_, (pss_cons (ps_set (i := 1) sc_l_part.nd rfl (Or.inl rfl) (pe_split (pv 0) pe_str))
      (pss_cons (ps_setLc (i := 2) (own := [("_law_word", 3)]) (g := gName 3) rfl sc_l_part.nd rfl rfl (sw_true rfl rfl rfl (by decide +kernel)) (pi_list_K (K := K) rfl (pv 1)) (blkOk_by (own := [("_law_word", 3)]) (N := ["_law_row", "_law_words", "_law_told_here", "_law_word"]) (sc := defScope s_l_part) (by decide +kernel)) (fun _ _ _ _ _ => (pg_name (i := 3) sc_l_part.nd rfl (Or.inl rfl))) (fun _ _ _ _ _ => pts_nil) (fun _ _ _ _ _ => (pe_fn (ok_l_number (K := K) T) (hr.mono (by decide)) passL (by rfl) (pa_cons (pv 3) pa_nil))))
      (pss_cut (ps_if (PW.pt (pw_and (pt_cmpR op_eq (pe_ix (ix_list_K (K := K) rfl) (pv 1) pe_int (fun _ _ => rfl)) pe_str (nomark _)) (pw_and (pt_cmpR (op_in_seq_K (K := K) rfl) (pe_callB (call_len_seq_K (K := K) rfl) (by rfl) T.n_len (by decide +kernel) (pa_cons (pv 1) pa_nil)) (pe_tup (pa_cons pe_int (pa_cons pe_int pa_nil))) (by rfl)) (pw_and (pt_cmpR op_ge (pe_ix (ix_list_K (K := K) rfl) (pv 2) pe_int (fun _ _ => rfl)) pe_int (nomark _)) (pw_and1 (pt_cmpR op_ge (pe_ix (ix_list_K (K := K) rfl) (pv 2) pe_int (fun _ _ => rfl)) pe_int (nomark _)))))))
        (pss_cons (ps_if (pt_cmpR op_eq (pe_callB (call_len_seq_K (K := K) rfl) (by rfl) T.n_len (by decide +kernel) (pa_cons (pv 1) pa_nil)) pe_int (nomark _))
        (pss_one (ps_ret (pe_tup (pa_cons (pe_ix (ix_list_K (K := K) rfl) (pv 2) pe_int (fun _ _ => rfl)) (pa_cons (pe_ix (ix_list_K (K := K) rfl) (pv 2) pe_int (fun _ _ => rfl)) (pa_cons pe_non pa_nil))))))
        pss_nil)
      (pss_one (ps_if (PW.pt (pw_and (pt_cmpR op_eq (pe_ix (ix_list_K (K := K) rfl) (pv 1) pe_int (fun _ _ => rfl)) pe_str (nomark _)) (pw_and1 (pt_cmpR op_ge (pe_ix (ix_list_K (K := K) rfl) (pv 2) pe_int (fun _ _ => rfl)) pe_int (nomark _)))))
        (pss_one (ps_ret (pe_tup (pa_cons (pe_ix (ix_list_K (K := K) rfl) (pv 2) pe_int (fun _ _ => rfl)) (pa_cons (pe_ix (ix_list_K (K := K) rfl) (pv 2) pe_int (fun _ _ => rfl)) (pa_cons (pe_ix (ix_list_K (K := K) rfl) (pv 2) pe_int (fun _ _ => rfl)) pa_nil))))))
        pss_nil)))
        pss_nil)
      (pss_cons (ps_if (PW.pt (pw_and (pt_cmpR op_eq (pe_ix (ix_list_K (K := K) rfl) (pv 1) pe_int (fun _ _ => rfl)) pe_str (nomark _)) (pw_and (pt_cmpR op_eq (pe_callB (call_len_seq_K (K := K) rfl) (by rfl) T.n_len (by decide +kernel) (pa_cons (pv 1) pa_nil)) pe_int (nomark _)) (pw_and (pt_cmpR op_eq (pe_ix (ix_list_K (K := K) rfl) (pv 1) pe_int (fun _ _ => rfl)) pe_str (nomark _)) (pw_and (pt_cmpR op_ge (pe_ix (ix_list_K (K := K) rfl) (pv 2) pe_int (fun _ _ => rfl)) pe_int (nomark _)) (pw_and1 (pt_cmpR op_ge (pe_ix (ix_list_K (K := K) rfl) (pv 2) pe_int (fun _ _ => rfl)) pe_int (nomark _))))))))
        (pss_one (ps_ret (pe_tup (pa_cons (pe_ix (ix_list_K (K := K) rfl) (pv 2) pe_int (fun _ _ => rfl)) (pa_cons (pe_ix (ix_list_K (K := K) rfl) (pv 2) pe_int (fun _ _ => rfl)) pa_nil)))))
        pss_nil)
      (pss_one (ps_ret pe_non)))))), ?_⟩
    have hz := hok.1
    obtain ⟨ws, ews⟩ : ∃ ws, wordsF row = ws := ⟨_, rfl⟩
    have hpos := words_pos row
    have hwok : ∀ x ∈ ws, RowOk x := fun x hx => hok.word (by rw [ews]; exact hx)
    have hwn := (words_sum row).2
    rw [ews] at hpos hwn
    have hpf : partF row = partW ws := by unfold partF; rw [ews]
    rw [hpf] at q
    refine q_asgLT (ds := ws.map PyData.str) (by rw [← ews]; exact lt_split (ev_var rfl) ev_c (by omega) (by decide +kernel)) fun wp H1 nw e1 hwp => ?_
    have hfa : (ws.filter fun _ => true) = ws := List.filter_eq_self.mpr (by simp)
    refine q_asgLT (ds := ws.map fun x => PyData.int (numL x)) (by
      have h := lt_lcV (K := K) (vs := [3]) (g := gName 3) (t := tYes) (te := tCall (sp_l_number K) [] E (tCons (tVar 3) tNil)) (Dd := PyData.str) (xs := ws) (fun _ => true) (fun x => PyData.int (numL x)) (ev_var (i := 1) rfl) hwp.dp (by omega) (fun a ha x H2 e2 hx Q2 q2 => by
        cases hx
        exact q2 _ rfl et_yes fun _ => td_int (ev_call0 (ea_cons (ev_var rfl) ea_nil) (sv_l_number (hwok a ha)))) (σ := [some (.str row), some (.ref wp), none, none]) (H := H1)
      rw [hfa] at h
      exact h) fun tp H2 nt e2 htp => ?_
    have hwp2 := hwp.ex e2
    have e12 := e1.trans e2
    have word : ∀ {σ : L2.St} {H' : Hp} {i : Nat}, Ex H2 H' → σ[1]? = some (some (.ref wp)) → i < ws.length → Ev (tOp (rIxL K) (tVar 1) (tC (.int (i : Int)))) σ H' (.str (ws.getD i "")) := fun e h hi => ev_wd (ev_var h) (hwp2.ex e) ev_c hi
    have num : ∀ {σ : L2.St} {H' : Hp} {i : Nat}, Ex H2 H' → σ[2]? = some (some (.ref tp)) → i < ws.length → Ev (tOp (rIxL K) (tVar 2) (tC (.int (i : Int)))) σ H' (.int (numL (ws.getD i ""))) := fun e h hi => ev_of_td (td_ixLV (ev_var h) (htp.ex e) ev_c (at0 (by rw [List.getElem?_map, List.getElem?_eq_getElem hi, List.getD_eq_getElem?_getD, List.getElem?_eq_getElem hi]; rfl)))
    have len : ∀ {σ : L2.St} {H' : Hp}, Ex H2 H' → σ[1]? = some (some (.ref wp)) → Ev (tCB (fun xs H Q => ∃ p ys, xs = [.ref p] ∧ (SqL K H p ys ∨ SqT K H p ys) ∧ Q (.int ys.length) H) (tCons (tVar 1) tNil)) σ H' (.int (ws.length : Int)) := fun e h => ev_lenW (ev_var h) (hwp2.ex e)
    refine q_cut (M := fun σ' H' => Ex H2 H' ∧ σ' = [some (.str row), some (.ref wp), some (.ref tp), none] ∧ partW ws = if ws.getD 0 "" = "key" then (keyF ws).map .inr else none) ?_ fun σ' H3 hM => ?_
    · refine s_when (b := decide (ws.getD 0 "" = "door") && (decide ((ws.length : Int) ∈ [3, 5]) && (decide (0 ≤ numL (ws.getD 1 "")) && decide (0 ≤ numL (ws.getD 2 ""))))) (et_and (et_test (ev_op (word (i := 0) (Ex.refl _) rfl (by omega)) ev_c rv_eqS)) fun _ => et_and (et_test (ev_in2 (len (Ex.refl _) rfl))) fun hm => ?_) (fun hb H3 e3 => ?_) (fun hb H3 e3 => ⟨e3, rfl, ?_⟩)
      · have h3 : 3 ≤ ws.length := by
          have := of_decide_eq_true hm
          simp at this
          omega
        exact et_and (et_test (ev_op (num (i := 1) (Ex.refl _) rfl (by omega)) ev_c rv_I0)) fun _ => et_test (ev_op (num (i := 2) (Ex.refl _) rfl (by omega)) ev_c rv_I0)
      · simp only [Bool.and_eq_true, numL_ge] at hb
        obtain ⟨hd, hlen, h1, h2⟩ := hb
        have hd := of_decide_eq_true hd
        have hlen := of_decide_eq_true hlen
        obtain ⟨a, ha⟩ := Option.isSome_iff_exists.mp h1
        obtain ⟨b, hb⟩ := Option.isSome_iff_exists.mp h2
        have hpw : partW ws = (doorF ws).map .inl := by unfold partW; rw [if_pos hd]
        by_cases h3 : ws.length = 3
        · have hdf : doorF ws = some (a, b, none) := by
            unfold doorF
            rw [if_neg (by omega), if_pos h3, two_some ha hb]
          refine q_when (b := decide ((ws.length : Int) = 3)) (et_test (ev_op (len e3 rfl) ev_c rv_eqI)) (fun _ H4 e4 => ?_) (fun hb4 H4 e4 => ?_)
          · refine s_retP (P := fun v H' => Td H' v (doorD (a, b, none))) (td_tup (ds := [.int a, .int b, .none]) (ea_tc (td_int (ev_is (num (i := 1) (e3.trans e4) rfl (by omega)) (by rw [numL_some ha]))) (ea_tc (td_int (ev_is (num (i := 2) (e3.trans e4) rfl (by omega)) (by rw [numL_some hb]))) (ea_tc (td_non ev_c) ea_tn))) (by simp)) fun v H5 e5 hv => q v H5 (((e12.trans e3).trans e4).trans e5) (by rw [hpw, hdf]; exact hv)
          · have := of_decide_eq_false hb4
            omega
        · have h5 : ws.length = 5 := by
            simp at hlen
            omega
          refine q_when (b := decide ((ws.length : Int) = 3)) (et_test (ev_op (len e3 rfl) ev_c rv_eqI)) (fun hb4 H4 e4 => ?_) (fun _ H4 e4 => ?_)
          · have := of_decide_eq_true hb4
            omega
          have e34 := e3.trans e4
          refine s_when (b := decide (ws.getD 3 "" = "by") && decide (0 ≤ numL (ws.getD 4 ""))) (et_and (et_test (ev_op (word (i := 3) e34 rfl (by omega)) ev_c rv_eqS)) fun _ => et_test (ev_op (num (i := 4) e34 rfl (by omega)) ev_c rv_I0)) (fun hb5 H5 e5 => ?_) (fun hb5 H5 e5 => ⟨e34.trans e5, rfl, ?_⟩)
          · simp only [Bool.and_eq_true, numL_ge] at hb5
            have hby := of_decide_eq_true hb5.1
            obtain ⟨k, hk⟩ := Option.isSome_iff_exists.mp hb5.2
            have hdf : doorF ws = some (a, b, some k) := by
              unfold doorF
              rw [if_pos ⟨h5, hby⟩, hk]
              exact two_some ha hb
            have e35 := e34.trans e5
            refine s_retP (P := fun v H' => Td H' v (doorD (a, b, some k))) (td_tup (ds := [.int a, .int b, .int k]) (ea_tc (td_int (ev_is (num (i := 1) e35 rfl (by omega)) (by rw [numL_some ha]))) (ea_tc (td_int (ev_is (num (i := 2) e35 rfl (by omega)) (by rw [numL_some hb]))) (ea_tc (td_int (ev_is (num (i := 4) e35 rfl (by omega)) (by rw [numL_some hk]))) ea_tn))) (by simp)) fun v H6 e6 hv => q v H6 ((e12.trans e35).trans e6) (by rw [hpw, hdf]; exact hv)
          · have hdf : doorF ws = none := by
              unfold doorF
              by_cases hby : ws.getD 3 "" = "by"
              · rw [decide_eq_true hby, Bool.true_and, numL_ge] at hb5
                have hk : numF (ws.getD 4 "") = none := by simpa using hb5
                rw [if_pos ⟨h5, hby⟩, hk]
                rfl
              · rw [if_neg (fun z => hby z.2), if_neg h3]
            have hk : ¬ ws.getD 0 "" = "key" := fun z => by
              rw [hd] at z
              exact absurd z (by decide +kernel)
            rw [hpw, hdf, if_neg hk]
            rfl
      · by_cases hd : ws.getD 0 "" = "door"
        · have hk : ¬ ws.getD 0 "" = "key" := fun z => by
            rw [hd] at z
            exact absurd z (by decide +kernel)
          have hpw : partW ws = (doorF ws).map .inl := by unfold partW; rw [if_pos hd]
          rw [if_neg hk, hpw]
          have hdf : doorF ws = none := by
            rw [decide_eq_true hd, Bool.true_and] at hb
            unfold doorF
            by_cases h5 : ws.length = 5 ∧ ws.getD 3 "" = "by"
            · rw [if_pos h5]
              rw [decide_eq_true (show (ws.length : Int) ∈ [3, 5] by simp; omega), Bool.true_and, numL_ge, numL_ge] at hb
              cases h1 : numF (ws.getD 1 "") with
              | none =>
                cases numF (ws.getD 4 "") with
                | none => rfl
                | some k => exact two_none1 h1
              | some a =>
                rw [h1] at hb
                have h2 : numF (ws.getD 2 "") = none := by simpa using hb
                cases numF (ws.getD 4 "") with
                | none => rfl
                | some k => exact two_none2 h1 h2
            · rw [if_neg h5]
              by_cases h3 : ws.length = 3
              · rw [if_pos h3]
                rw [decide_eq_true (show (ws.length : Int) ∈ [3, 5] by simp; omega), Bool.true_and, numL_ge, numL_ge] at hb
                cases h1 : numF (ws.getD 1 "") with
                | none => exact two_none1 h1
                | some a =>
                  rw [h1] at hb
                  have h2 : numF (ws.getD 2 "") = none := by simpa using hb
                  exact two_none2 h1 h2
              · rw [if_neg h3]
          rw [hdf]
          rfl
        · unfold partW
          rw [if_neg hd]
    · obtain ⟨e3, rfl, hpw⟩ := hM
      rw [hpw] at q
      by_cases hc : ws.getD 0 "" = "key" ∧ ws.length = 4 ∧ ws.getD 2 "" = "in"
      · obtain ⟨hk, h4, hin⟩ := hc
        have hkf : keyF ws = (numF (ws.getD 3 "")).bind fun r => (numF (ws.getD 1 "")).map fun k => (r, k) := by unfold keyF; rw [if_pos ⟨h4, hin⟩]
        rw [if_pos hk, hkf] at q
        refine q_when (b := decide (ws.getD 0 "" = "key") && (decide ((ws.length : Int) = 4) && (decide (ws.getD 2 "" = "in") && (decide (0 ≤ numL (ws.getD 1 "")) && decide (0 ≤ numL (ws.getD 3 "")))))) (et_and (et_test (ev_op (word (i := 0) e3 rfl (by omega)) ev_c rv_eqS)) fun _ => et_and (et_test (ev_op (len e3 rfl) ev_c rv_eqI)) fun _ => et_and (et_test (ev_op (word (i := 2) e3 rfl (by omega)) ev_c rv_eqS)) fun _ => et_and (et_test (ev_op (num (i := 1) e3 rfl (by omega)) ev_c rv_I0)) fun _ => et_test (ev_op (num (i := 3) e3 rfl (by omega)) ev_c rv_I0)) (fun hb H4 e4 => ?_) (fun hb H4 e4 => ?_)
        · simp only [Bool.and_eq_true, numL_ge] at hb
          obtain ⟨a, ha⟩ := Option.isSome_iff_exists.mp hb.2.2.2.1
          obtain ⟨b, hb⟩ := Option.isSome_iff_exists.mp hb.2.2.2.2
          rw [ha, hb] at q
          have e34 := e3.trans e4
          exact s_retP (P := fun v H' => Td H' v (keyD (b, a))) (td_tup (ds := [.int b, .int a]) (ea_tc (td_int (ev_is (num (i := 3) e34 rfl (by omega)) (by rw [numL_some hb]))) (ea_tc (td_int (ev_is (num (i := 1) e34 rfl (by omega)) (by rw [numL_some ha]))) ea_tn)) (by simp)) fun v H6 e6 hv => q v H6 ((e12.trans e34).trans e6) hv
        · rw [decide_eq_true hk, decide_eq_true hin, decide_eq_true (show (ws.length : Int) = 4 by omega)] at hb
          simp only [Bool.true_and, numL_ge] at hb
          have hn : (numF (ws.getD 3 "")).bind (fun r => (numF (ws.getD 1 "")).map fun k => (r, k)) = none := by
            cases h1 : numF (ws.getD 1 "") with
            | none => cases numF (ws.getD 3 "") <;> rfl
            | some a =>
              rw [h1] at hb
              have h3 : numF (ws.getD 3 "") = none := by simpa using hb
              rw [h3]
              rfl
          rw [hn] at q
          exact s_ret ev_c fun H5 e5 => q .non H5 (((e12.trans e3).trans e4).trans e5) .non
      · have hn : (if ws.getD 0 "" = "key" then (keyF ws).map (Sum.inr : Key2 → Part) else none) = none := by
          split
          · rename_i hk
            unfold keyF
            rw [if_neg (fun z => hc ⟨hk, z⟩)]
            rfl
          · rfl
        rw [hn] at q
        have stop : ∀ b : Bool, b = false → ∀ H4, Ex H3 H4 → Q .non H4 := fun _ _ H4 e4 => q .non H4 ((e12.trans e3).trans e4) .non
        have tst : EvT (tAnd (tTest (tOp rEq (tOp (rIxL K) (tVar 1) (tC (.int 0))) (tC (.str "key")))) (tAnd (tTest (tOp rEq (tCB (fun xs H Q => ∃ p ys, xs = [.ref p] ∧ (SqL K H p ys ∨ SqT K H p ys) ∧ Q (.int ys.length) H) (tCons (tVar 1) tNil)) (tC (.int 4)))) (tAnd (tTest (tOp rEq (tOp (rIxL K) (tVar 1) (tC (.int 2))) (tC (.str "in")))) (tAnd (tTest (tOp (rI0 fun i j => V.bl (decide (j ≤ i))) (tOp (rIxL K) (tVar 2) (tC (.int 1))) (tC (.int 0)))) (tTest (tOp (rI0 fun i j => V.bl (decide (j ≤ i))) (tOp (rIxL K) (tVar 2) (tC (.int 3))) (tC (.int 0)))))))) [some (.str row), some (.ref wp), some (.ref tp), none] H3 false := by
          by_cases hk : ws.getD 0 "" = "key"
          · by_cases h4 : ws.length = 4
            · have hin : ¬ ws.getD 2 "" = "in" := fun z => hc ⟨hk, h4, z⟩
              have h := et_and (et_test (ev_is (ev_op (word (i := 0) e3 rfl (by omega)) ev_c rv_eqS) (by rw [decide_eq_true hk]))) (fun _ => et_and (et_test (ev_is (ev_op (len e3 rfl) ev_c rv_eqI) (by rw [decide_eq_true (show (ws.length : Int) = 4 by omega)]))) fun _ => et_and (a := false) (b := false) (u := tAnd (tTest (tOp (rI0 fun i j => V.bl (decide (j ≤ i))) (tOp (rIxL K) (tVar 2) (tC (.int 1))) (tC (.int 0)))) (tTest (tOp (rI0 fun i j => V.bl (decide (j ≤ i))) (tOp (rIxL K) (tVar 2) (tC (.int 3))) (tC (.int 0))))) (et_test (ev_is (ev_op (word (i := 2) e3 rfl (by omega)) ev_c rv_eqS) (by rw [decide_eq_false hin]))) fun z => Bool.noConfusion z) (σ := [some (.str row), some (.ref wp), some (.ref tp), none]) (H := H3)
              exact h
            · have h := et_and (et_test (ev_is (ev_op (word (i := 0) e3 rfl (by omega)) ev_c rv_eqS) (by rw [decide_eq_true hk]))) (fun _ => et_and (a := false) (b := false) (u := tAnd (tTest (tOp rEq (tOp (rIxL K) (tVar 1) (tC (.int 2))) (tC (.str "in")))) (tAnd (tTest (tOp (rI0 fun i j => V.bl (decide (j ≤ i))) (tOp (rIxL K) (tVar 2) (tC (.int 1))) (tC (.int 0)))) (tTest (tOp (rI0 fun i j => V.bl (decide (j ≤ i))) (tOp (rIxL K) (tVar 2) (tC (.int 3))) (tC (.int 0)))))) (et_test (ev_is (ev_op (len e3 rfl) ev_c rv_eqI) (by rw [decide_eq_false (show ¬ (ws.length : Int) = 4 by omega)]))) fun z => Bool.noConfusion z) (σ := [some (.str row), some (.ref wp), some (.ref tp), none]) (H := H3)
              exact h
          · exact et_and (a := false) (b := false) (et_test (ev_is (ev_op (word (i := 0) e3 rfl (by omega)) ev_c rv_eqS) (by rw [decide_eq_false hk]))) fun z => Bool.noConfusion z
        exact q_when tst (fun z => Bool.noConfusion z) (fun hb H4 e4 => s_ret ev_c fun H5 e5 => stop false rfl H5 (e4.trans e5))
end

section
variable {P : Program} {w : World} {K : PySem.W.Frag} {mg : Str → Option Value} {base : Heap}
/-! ### what is due -/
section
variable {σ : L2.St} {H : Hp} {ta tb te tl : TE} {t : TT} {g : TG}
theorem lt_catW {a b : Addr} {ds es : List PyData} (ha : Ev ta σ H (.ref a)) (hA : LstT H a ds) (hb : Ev tb σ H (.ref b)) (hB : LstT H b es) (hz : ds.length + es.length ≤ 100000) : EvLT (tOp rCat ta tb) σ H (ds ++ es) := fun H1 e Q q => ha H1 e _ fun H2 e2 => hb H2 (e.trans e2) _ fun H3 e3 => by
  obtain ⟨xs, hxs, hxd⟩ := hA.ex ((e.trans e2).trans e3)
  obtain ⟨zs, hzs, hzd⟩ := hB.ex ((e.trans e2).trans e3)
  exact ⟨a, b, xs, zs, rfl, rfl, hxs, hzs, sz_of (by rw [hxd.len, hzd.len]; exact hz), fun p np => q p _ (fresh_back (e2.trans e3) np) ((e2.trans e3).trans (Ex.new np)) ⟨_, upd_same, TdAll.append (hxd.ex (Ex.new np)) (hzd.ex (Ex.new np))⟩⟩
/-- comprehensions over a list that stands -/
theorem lt_lcT {α : Type} {Dd : α → PyData} {xs : List α} {a : Addr} {vs : List Nat} (p : α → Bool) (w : α → PyData) (h : Ev tl σ H (.ref a)) (hl : LstT H a (xs.map Dd)) (hn : xs.length ≤ 40000)
    (hg : ∀ a, a ∈ xs → ∀ x H1, Ex H H1 → Td H1 x (Dd a) → ∀ Q : L2.St → Hp → Prop, (∀ σ2, wipe σ2 vs = wipe σ vs → EvT t σ2 H1 (p a) → (p a = true → EvTd te σ2 H1 (w a)) → Q σ2 H1) → g x (wipe σ vs) H1 Q) :
    EvLT (tLc (iList K tl) g t te vs) σ H ((xs.filter p).map w) := fun H1 e Q q => h H1 e _ fun H2 e2 => by
  have e02 := e.trans e2
  obtain ⟨ys, hys, hda⟩ := hl.ex e02
  have hlen := hda.len
  rw [List.length_map] at hlen
  refine ⟨a, rfl, ⟨ys, SqL.of hys⟩, fun Dl hD => lc_list (K := K) (a := a) (xs := ys) (fun i H' => H2 Dl = none ∧ Ex H2 H' ∧ LstT H' Dl (((xs.take i).filter p).map w)) ⟨hD, Ex.new hD, ⟨[], upd_same, .nil⟩⟩ (fun i H' _ pp => SqL.of (pp.2.1 _ _ hys)) (fun i x H' hx pp => ?_) (fun H' pp => ?_)⟩
  · obtain ⟨p1, p2, zs, p3, p4⟩ := pp
    obtain ⟨d, hd1, hd2⟩ := hda.getV hx
    rw [List.getElem?_map] at hd1
    obtain ⟨b, hb, rfl⟩ := Option.map_eq_some_iff.mp hd1
    have hil : i < xs.length := (List.getElem?_eq_some_iff.mp hb).1
    refine hg b (List.mem_of_getElem? hb) x H' (e02.trans p2) (hd2.ex p2) _ fun σ2 hw ht he => ⟨hw, ht H' (Ex.refl H') _ fun H3 e3 => ?_⟩
    cases hf : p b with
    | true =>
      show te σ2 H3 fun y H4 => ∃ acc, H4 Dl = some (.lst acc) ∧ acc.length < sizeLine ∧ (H2 Dl = none ∧ Ex H2 (upd H4 Dl (.lst (acc ++ [y]))) ∧ LstT (upd H4 Dl (.lst (acc ++ [y]))) Dl (((xs.take (i + 1)).filter p).map w))
      refine he hf H3 e3 _ fun y H4 e4 q4 => ⟨zs, e4 Dl _ (e3 Dl _ p3), sz_lt ?_, p1, Ex.mut ((p2.trans e3).trans e4) p1, ?_⟩
      · rw [p4.len, List.length_map]
        have h1 := List.length_filter_le p (xs.take i)
        have h2 := List.length_take_le i xs
        omega
      · rw [filt_take hb, if_pos hf]
        exact LstT.push (e4 Dl _ (e3 Dl _ p3)) (p4.ex (e3.trans e4)) q4
    | false =>
      show H2 Dl = none ∧ Ex H2 H3 ∧ LstT H3 Dl (((xs.take (i + 1)).filter p).map w)
      refine ⟨p1, p2.trans e3, ?_⟩
      rw [filt_take hb, if_neg (by rw [hf]; simp), List.append_nil]
      exact ⟨zs, e3 Dl _ p3, p4.ex e3⟩
  · obtain ⟨p1, p2, p3⟩ := pp
    rw [hlen, List.take_length] at p3
    exact q Dl H' (fresh_back e2 p1) (e2.trans p2) p3
end
def isDoor : Part → Bool
  | .inl _ => true
  | .inr _ => false
theorem doors_filt : ∀ ps : List Part, (ps.filter isDoor).map partD = (doorsP ps).map doorD
  | [] => rfl
  | .inl d :: r => by
    show doorD d :: (r.filter isDoor).map partD = doorD d :: (doorsP r).map doorD
    rw [doors_filt r]
  | .inr d :: r => by
    show (r.filter isDoor).map partD = (doorsP r).map doorD
    rw [doors_filt r]
theorem keys_filt : ∀ ps : List Part, (ps.filter fun p => !isDoor p).map partD = (keysP ps).map keyD
  | [] => rfl
  | .inl d :: r => by
    show (r.filter fun p => !isDoor p).map partD = (keysP r).map keyD
    rw [keys_filt r]
  | .inr d :: r => by
    show keyD d :: (r.filter fun p => !isDoor p).map partD = keyD d :: (keysP r).map keyD
    rw [keys_filt r]
def chkP (n : Int) : Part → Option Ref3
  | .inl d => chkD n d
  | .inr k => chkK n k
theorem chkP_all (n : Int) (ds : List Door) (ks : List Key2) : ((ds.map Sum.inl ++ ks.map Sum.inr : List Part).findSome? (chkP n)) = (ds.findSome? (chkD n)).or (ks.findSome? (chkK n)) := by
  rw [List.findSome?_append, List.findSome?_map, List.findSome?_map]
  rfl
theorem nb_part (p : Part) : nb (partD p) = true := by cases p with
  | inl d => exact nb_door d
  | inr k => exact nb_key k
theorem dep_part (p : Part) : (partD p).depth ≤ 1 := by cases p with
  | inl d => exact dep_door d
  | inr k => exact dep_key k
theorem nb_optP (o : Option Part) : nb (optPD o) = true := by cases o with
  | none => simp [optPD, nb]
  | some p => exact nb_part p
theorem dep_optP (o : Option Part) : (optPD o).depth ≤ 1 := by cases o with
  | none => simp [optPD, PyData.depth]
  | some p => exact dep_part p
theorem sh_optPs (os : List (Option Part)) : SeqAt.shaped (.list (os.map optPD)) = true := shaped_of (by simp only [nb]; exact nbAll_map nb_optP os) (by have := depth_list (depth_map dep_optP os); omega)
theorem eqv_optN (o : Option Part) : PyData.eqv (optPD o) .none = o.isNone := by
  cases o with
  | none => simp [optPD, PyData.eqv]
  | some p => cases p with
    | inl d => simp [optPD, partD, doorD, PyData.eqv]
    | inr d => simp [optPD, partD, keyD, PyData.eqv]
theorem any_optN (os : List (Option Part)) : ((os.map optPD).any fun z => PyData.eqv z .none) = os.any Option.isNone := by
  rw [List.any_map]
  congr 1
  funext o
  exact eqv_optN o
theorem allP_nonneg {rs : List Str} {ps : List Part} (h : allP rs = some ps) : ∀ p ∈ ps, NonNegP p := fun p hp => by
  have e := allP_some h
  have : some p ∈ rs.map partF := by rw [e]; exact List.mem_map.mpr ⟨p, hp, rfl⟩
  obtain ⟨r, _, hr⟩ := List.mem_map.mp this
  exact part_nonneg hr
def DueV (K : PySem.W.Frag) (H : Hp) (v : V) : Res → Prop
  | .ok n ds ks => Dp K H v (mazeF n ds ks)
  | .maze => v = .str "maze"
  | .bad r => v = .str (codeS (some r))
theorem res_maze {rows : List Str} (h : parseF rows = none) : resF rows = .maze := by unfold resF; rw [h]
theorem res_bad {rows : List Str} {n : Int} {ps : List Part} {r : Ref3} (h : parseF rows = some (n, ps)) (hc : chk n (doorsP ps) (keysP ps) = some r) : resF rows = .bad r := by unfold resF; rw [h]; simp only [hc]
theorem res_ok {rows : List Str} {n : Int} {ps : List Part} (h : parseF rows = some (n, ps)) (hc : chk n (doorsP ps) (keysP ps) = none) : resF rows = .ok n (doorsP ps) (keysP ps) := by unfold resF; rw [h]; simp only [hc]
def sp_l_due (K : PySem.W.Frag) : Sp := fun vs H Q _ => ∃ (rl : Addr) (rows : List Str), vs = [.ref rl] ∧ LstT H rl (rows.map PyData.str) ∧ RowsOk2 rows ∧ ∀ v H2, Ex H H2 → DueV K H2 v (resF rows) → Q v H2
theorem ok_l_due (T : Txt K mg) : Kept P w K mg base 3 "_law_due" ["_law_rows_here"] (sp_l_due K) := by
  refine T.d_l_due.kept sc_l_due (fun vs H Q E h => ?_) (fun cdv A outer s H vs Q E hr h => ?_)
  · obtain ⟨rl, rows, rfl, _⟩ := h
    rfl
  · obtain ⟨rl, rows, rfl, hrl, hR, q⟩ := h
    refine ⟨_, (pss_cons (ps_set (i := 1) sc_l_due.nd rfl (Or.inl rfl) (pe_split (pe_ix (ix_list_K (K := K) rfl) (pv 0) pe_int (fun _ _ => rfl)) pe_str))
      (pss_cons (ps_if (PW.pt (pw_or (pt_cmpR op_ne (pe_callB (call_len_seq_K (K := K) rfl) (by rfl) T.n_len (by decide +kernel) (pa_cons (pv 1) pa_nil)) pe_int (nomark _)) (pw_or (pt_cmpR op_ne (pe_ix (ix_list_K (K := K) rfl) (pv 1) pe_int (fun _ _ => rfl)) pe_str (nomark _)) (pw_or1 (pt_cmpR op_lt (pe_fn (ok_l_number (K := K) T) (hr.mono (by decide)) passL (by rfl) (pa_cons (pe_ix (ix_list_K (K := K) rfl) (pv 1) pe_int (fun _ _ => rfl)) pa_nil)) pe_int (nomark _))))))
        (pss_one (ps_ret pe_str))
        pss_nil)
      (pss_cons (ps_set (i := 2) sc_l_due.nd rfl (Or.inl rfl) (pe_fn (ok_l_number (K := K) T) (hr.mono (by decide)) passL (by rfl) (pa_cons (pe_ix (ix_list_K (K := K) rfl) (pv 1) pe_int (fun _ _ => rfl)) pa_nil)))
      (pss_cons (ps_setLc (i := 3) (own := [("_law_row", 7)]) (g := gName 7) rfl sc_l_due.nd rfl rfl (sw_true rfl rfl rfl (by decide +kernel)) (pi_list_K (K := K) rfl (pe_slice (sl_list_K (K := K) rfl) (pv 0) (po_some pe_int) po_none)) (blkOk_by (own := [("_law_row", 7)]) (N := ["_law_rows_here", "_law_words", "_law_size", "_law_made", "_law_doors", "_law_lying", "_law_part_here", "_law_row"]) (sc := defScope s_l_due) (by decide +kernel)) (fun _ _ _ _ _ => (pg_name (i := 7) sc_l_due.nd rfl (Or.inl rfl))) (fun _ _ _ _ _ => pts_nil) (fun _ _ _ _ _ => (pe_fn (ok_l_part (K := K) T) (hr.mono (by decide)) passL (by rfl) (pa_cons (pv 7) pa_nil))))
      (pss_cons (ps_if (pt_cmpR (op_inD_K (K := K) rfl (u65 hr)) pe_non (pv 3) (by rfl))
        (pss_one (ps_ret pe_str))
        pss_nil)
      (pss_cons (ps_setLc (i := 4) (own := [("_law_part_here", 6)]) (g := gName 6) rfl sc_l_due.nd rfl rfl (sw_true rfl rfl rfl (by decide +kernel)) (pi_list_K (K := K) rfl (pv 3)) (blkOk_by (own := [("_law_part_here", 6)]) (N := ["_law_rows_here", "_law_words", "_law_size", "_law_made", "_law_doors", "_law_lying", "_law_part_here", "_law_row"]) (sc := defScope s_l_due) (by decide +kernel)) (fun _ _ _ _ _ => (pg_name (i := 6) sc_l_due.nd rfl (Or.inl rfl))) (fun _ _ _ _ _ => pts_one (pt_cmpR op_eq (pe_callB (call_len_seq_K (K := K) rfl) (by rfl) T.n_len (by decide +kernel) (pa_cons (pv 6) pa_nil)) pe_int (nomark _))) (fun _ _ _ _ _ => (pv 6)))
      (pss_cons (ps_setLc (i := 5) (own := [("_law_part_here", 6)]) (g := gName 6) rfl sc_l_due.nd rfl rfl (sw_true rfl rfl rfl (by decide +kernel)) (pi_list_K (K := K) rfl (pv 3)) (blkOk_by (own := [("_law_part_here", 6)]) (N := ["_law_rows_here", "_law_words", "_law_size", "_law_made", "_law_doors", "_law_lying", "_law_part_here", "_law_row"]) (sc := defScope s_l_due) (by decide +kernel)) (fun _ _ _ _ _ => (pg_name (i := 6) sc_l_due.nd rfl (Or.inl rfl))) (fun _ _ _ _ _ => pts_one (pt_cmpR op_eq (pe_callB (call_len_seq_K (K := K) rfl) (by rfl) T.n_len (by decide +kernel) (pa_cons (pv 6) pa_nil)) pe_int (nomark _))) (fun _ _ _ _ _ => (pv 6)))
      (pss_cons (ps_if (pt_cmpR op_lt (pv 2) pe_int (nomark _))
        (pss_one (ps_ret pe_str))
        pss_nil)
      (pss_cons (ps_if (PW.pt (pw_or (pt_cmpR op_gt (pv 2) pe_int (nomark _)) (pw_or (pt_cmpR op_gt (pe_callB (call_len_seq_K (K := K) rfl) (by rfl) T.n_len (by decide +kernel) (pa_cons (pv 4) pa_nil)) pe_int (nomark _)) (pw_or1 (pt_cmpR op_gt (pe_callB (call_len_seq_K (K := K) rfl) (by rfl) T.n_len (by decide +kernel) (pa_cons (pv 5) pa_nil)) pe_int (nomark _))))))
        (pss_one (ps_ret pe_str))
        pss_nil)
      (pss_cons (ps_for (passes_of rfl) rfl (pi_list_K (K := K) rfl (pe_op op_cat (pv 4) (pv 5))) (pg_name (i := 6) sc_l_due.nd rfl (Or.inl rfl))
        (pss_cons (ps_if (PW.pt (pw_or (pt_cmpR op_ge (pe_ix (ix_tup_K (K := K) rfl) (pv 6) pe_int (fun _ _ => rfl)) (pv 2) (nomark _)) (pw_or1 (PW.pt (pw_and (pt_cmpR op_eq (pe_callB (call_len_seq_K (K := K) rfl) (by rfl) T.n_len (by decide +kernel) (pa_cons (pv 6) pa_nil)) pe_int (nomark _)) (pw_and1 (pt_cmpR op_ge (pe_ix (ix_tup_K (K := K) rfl) (pv 6) pe_int (fun _ _ => rfl)) (pv 2) (nomark _))))))))
        (pss_one (ps_ret pe_str))
        pss_nil)
      (pss_one (ps_if (PW.pt (pw_and (pt_cmpR op_notN (pe_ix (ix_tup_K (K := K) rfl) (pv 6) (pe_un un_neg pe_int) (fun _ _ => rfl)) pe_non (nomark _)) (pw_and1 (pt_cmpR op_gt (pe_ix (ix_tup_K (K := K) rfl) (pv 6) (pe_un un_neg pe_int) (fun _ _ => rfl)) pe_int (nomark _)))))
        (pss_one (ps_ret pe_str))
        pss_nil))))
      (pss_one (ps_ret (pe_tup (pa_cons (pv 2) (pa_cons (pv 4) (pa_cons (pv 5) pa_nil)))))))))))))))), ?_⟩
    obtain ⟨r0, rs, erows⟩ : ∃ r0 rs, rows = r0 :: rs := by
      cases rows with
      | nil => exact absurd rfl hR.1
      | cons a r => exact ⟨a, r, rfl⟩
    have hr0 : RowOk r0 := hR.2.2 r0 (by rw [erows]; simp)
    have hrsok : ∀ r ∈ rs, RowOk r := fun r hr => hR.2.2 r (by rw [erows]; exact List.mem_cons_of_mem _ hr)
    have hrsl : rs.length ≤ 250 := by
      have := hR.2.1
      rw [erows, List.length_cons] at this
      omega
    have hhd : rows.headD "" = r0 := by rw [erows]; rfl
    have htl : rows.tail = rs := by rw [erows]; rfl
    obtain ⟨ws, ews⟩ : ∃ ws, wordsF r0 = ws := ⟨_, rfl⟩
    have hpos := words_pos r0
    have hwok : ∀ x ∈ ws, RowOk x := fun x hx => hr0.word (by rw [ews]; exact hx)
    rw [ews] at hpos
    have hmz : ∀ {H2 : Hp}, Ex H H2 → parseF rows = none → Q (.str "maze") H2 := fun e hp => q _ _ e (by rw [res_maze hp]; rfl)
    refine q_asgLT (ds := ws.map PyData.str) (by
      have h := ev_wd (K := K) (i := 0) (ev_var (i := 0) rfl) hrl ev_c (by rw [erows]; simp) (σ := [some (.ref rl), none, none, none, none, none, none, none]) (H := H)
      rw [show rows.getD 0 "" = r0 by rw [erows]; rfl] at h
      rw [← ews]
      exact lt_split h ev_c (by have := hr0.1; omega) (by decide +kernel)) fun wp H1 nw e1 hwp => ?_
    have word : ∀ {σ : L2.St} {H' : Hp} {i : Nat}, Ex H1 H' → σ[1]? = some (some (.ref wp)) → i < ws.length → Ev (tOp (rIxL K) (tVar 1) (tC (.int (i : Int)))) σ H' (.str (ws.getD i "")) := fun e h hi => ev_wd (ev_var h) (hwp.ex e) ev_c hi
    refine q_when (b := (!decide ((ws.length : Int) = 2)) || ((!decide (ws.getD 0 "" = "rooms")) || decide (numL (ws.getD 1 "") < 0))) ?_ (fun hb H2 e2 => ?_) (fun hb H2 e2 => ?_)
    · by_cases h2 : ws.length = 2
      · exact et_or (et_test (ev_op (ev_lenW (K := K) (ev_var rfl) hwp) ev_c rv_neI)) fun _ => et_or (et_test (ev_op (word (i := 0) (Ex.refl _) rfl (by omega)) ev_c rv_neS)) fun _ => et_test (ev_op (ev_call0 (ea_cons (word (i := 1) (Ex.refl _) rfl (by omega)) ea_nil) (sv_l_number (hwok _ (mem_getD (by omega))))) ev_c rv_I0)
      · have e : ((!decide ((ws.length : Int) = 2)) || ((!decide (ws.getD 0 "" = "rooms")) || decide (numL (ws.getD 1 "") < 0))) = true := by rw [decide_eq_false (show ¬ (ws.length : Int) = 2 by omega)]; rfl
        rw [e]
        exact et_or (a := true) (b := true) (et_test (ev_is (ev_op (ev_lenW (K := K) (ev_var rfl) hwp) ev_c rv_neI) (by rw [decide_eq_false (show ¬ (ws.length : Int) = 2 by omega)]; rfl))) fun z => Bool.noConfusion z
    · refine s_ret ev_c fun H3 e3 => hmz ((e1.trans e2).trans e3) (parse_head ?_)
      rw [hhd]
      unfold headF
      rw [ews]
      split
      · rename_i hc
        rw [decide_eq_true hc.2, decide_eq_true (show (ws.length : Int) = 2 by omega)] at hb
        cases hn : numF (ws.getD 1 "") with
        | none => rfl
        | some n =>
          have h0 := num_nonneg hn
          rw [numL_some hn, decide_eq_false (show ¬ n < 0 by omega)] at hb
          cases hb
      · rfl
    simp only [Bool.or_eq_false_iff] at hb
    have hw2 : ws.length = 2 := by
      have : (ws.length : Int) = 2 := by simpa using hb.1
      omega
    have hw0 : ws.getD 0 "" = "rooms" := by simpa using hb.2.1
    obtain ⟨n, hn⟩ : ∃ n, numF (ws.getD 1 "") = some n := by
      have h := numL_ge (ws.getD 1 "")
      have h2 := of_decide_eq_false hb.2.2
      rw [decide_eq_true (by omega)] at h
      exact Option.isSome_iff_exists.mp h.symm
    have hhf : headF (rows.headD "") = some n := by rw [hhd]; unfold headF; rw [ews, if_pos ⟨hw2, hw0⟩]; exact hn
    have e12 := e1.trans e2
    refine q_asg (v := .int n) (ev_is (ev_call0 (ea_cons (word (i := 1) e2 rfl (by omega)) ea_nil) (sv_l_number (hwok _ (mem_getD (by omega))))) (by rw [numL_some hn])) fun H3 e3 => ?_
    have e13 := e12.trans e3
    have hfa : (rs.filter fun _ => true) = rs := List.filter_eq_self.mpr (by simp)
    refine q_asgLT (ds := rs.map fun r => optPD (partF r)) (by
      have h := lt_lcE (K := K) (vs := [7]) (g := gName 7) (t := tYes) (te := tCall (sp_l_part K) [] E (tCons (tVar 7) tNil)) (Dd := PyData.str) (xs := rs) (fun _ => true) (fun r => optPD (partF r)) (by
        have h := lt_slL (K := K) (lo := some 1) (hi := none) (ev_var (i := 0) rfl) (hrl.ex e13) (eo_some ev_c) eo_none (σ := [some (.ref rl), some (.ref wp), some (.int n), none, none, none, none, none]) (H := H3)
        rw [cutD_tail _ (by rw [erows]; simp), erows] at h
        exact h) (by omega) (fun a ha x H2 e2 hx Q2 q2 => by
        cases hx
        exact q2 _ rfl et_yes fun _ => ep_call0 (Pa := fun vs _ => vs = [.str a]) (fun H4 e4 Q4 q4 => ea_cons (ev_var rfl) ea_nil H4 e4 _ fun H5 e5 => q4 _ H5 e5 rfl) fun vs H4 e4 hvs Q4 q4 => ⟨a, hvs, hrsok a ha, q4⟩)
      rw [hfa] at h
      exact h) fun mp H4 nm e4 hmp => ?_
    have e14 := e13.trans e4
    have hmp2 : LstT H4 mp ((rs.map partF).map optPD) := by rw [List.map_map]; exact hmp
    refine q_when (b := (rs.map partF).any Option.isNone) (et_test (ev_is (ev_inD (K := K) (d := .none) (ed_any ev_c .non) (ed_any (ev_var rfl) hmp2.dp) (by decide +kernel) (sh_optPs _)) (by rw [any_optN]))) (fun hb5 H5 e5 => ?_) (fun hb5 H5 e5 => ?_)
    · refine s_ret ev_c fun H6 e6 => hmz ((e14.trans e5).trans e6) (parse_tail ?_)
      rw [htl]
      cases hp : allP rs with
      | none => rfl
      | some ps =>
        rw [allP_some hp] at hb5
        simp at hb5
    obtain ⟨ps, hps⟩ : ∃ ps, allP rs = some ps := by
      cases hp : allP rs with
      | some ps => exact ⟨ps, rfl⟩
      | none =>
        obtain ⟨r, hr, hrn⟩ := allP_no hp
        have : (rs.map partF).any Option.isNone = true := List.any_eq_true.mpr ⟨none, List.mem_map.mpr ⟨r, hr, hrn⟩, rfl⟩
        rw [this] at hb5
        cases hb5
    have hpa := parse_some hhf (by rw [htl]; exact hps)
    have hme := allP_some hps
    have hpl : ps.length ≤ 250 := by
      have := congrArg List.length hme
      rw [List.length_map, List.length_map] at this
      omega
    have hmp3 : LstT H4 mp (ps.map partD) := by
      rw [hme, List.map_map] at hmp2
      exact hmp2
    have hlen3 : ∀ {σ : L2.St} {H' : Hp} {x : V} {p : Part}, σ[6]? = some (some x) → Td H' x (partD p) → Ev (tCB (fun xs H Q => ∃ p ys, xs = [.ref p] ∧ (SqL K H p ys ∨ SqT K H p ys) ∧ Q (.int ys.length) H) (tCons (tVar 6) tNil)) σ H' (.int (if isDoor p then 3 else 2)) := fun h hx => by
      rename_i p
      cases p with
      | inl d => exact ev_is (ev_lenD (K := K) (ed_any (ev_var h) hx.dp) (.inr rfl)) rfl
      | inr d => exact ev_is (ev_lenD (K := K) (ed_any (ev_var h) hx.dp) (.inr rfl)) rfl
    refine q_asgLT (ds := (doorsP ps).map doorD) (by
      have h := lt_lcT (K := K) (vs := [6]) (g := gName 6) (t := tTest (tOp rEq (tCB (fun xs H Q => ∃ p ys, xs = [.ref p] ∧ (SqL K H p ys ∨ SqT K H p ys) ∧ Q (.int ys.length) H) (tCons (tVar 6) tNil)) (tC (.int 3)))) (te := tVar 6) (Dd := partD) (xs := ps) isDoor partD (ev_var (i := 3) rfl) (hmp3.ex e5) (by omega) (fun a ha x H2 e2 hx Q2 q2 => q2 _ rfl (et_test (ev_is (ev_op (hlen3 rfl hx) ev_c rv_eqI) (by cases a <;> rfl))) fun _ => td_any (ev_var rfl) hx) (σ := [some (.ref rl), some (.ref wp), some (.int n), some (.ref mp), none, none, none, none]) (H := H5)
      rw [doors_filt] at h
      exact h) fun dp H6 nd e6 hdp => ?_
    refine q_asgLT (ds := (keysP ps).map keyD) (by
      have h := lt_lcT (K := K) (vs := [6]) (g := gName 6) (t := tTest (tOp rEq (tCB (fun xs H Q => ∃ p ys, xs = [.ref p] ∧ (SqL K H p ys ∨ SqT K H p ys) ∧ Q (.int ys.length) H) (tCons (tVar 6) tNil)) (tC (.int 2)))) (te := tVar 6) (Dd := partD) (xs := ps) (fun p => !isDoor p) partD (ev_var (i := 3) rfl) (hmp3.ex (e5.trans e6)) (by omega) (fun a ha x H2 e2 hx Q2 q2 => q2 _ rfl (et_test (ev_is (ev_op (hlen3 rfl hx) ev_c rv_eqI) (by cases a <;> rfl))) fun _ => td_any (ev_var rfl) hx) (σ := [some (.ref rl), some (.ref wp), some (.int n), some (.ref mp), some (.ref dp), none, none, none]) (H := H6)
      rw [keys_filt] at h
      exact h) fun kp H7 nk e7 hkp => ?_
    have e57 := (e5.trans e6).trans e7
    have e17 := e14.trans e57
    have bad : ∀ {r : Ref3} {H2 : Hp}, Ex H H2 → chk n (doorsP ps) (keysP ps) = some r → Q (.str (codeS (some r))) H2 := fun e hc => q _ _ e (by rw [res_bad hpa hc]; rfl)
    refine q_when (b := decide (n < 1)) (et_test (ev_op (ev_var rfl) ev_c rv_I0)) (fun hb8 H8 e8 => s_ret ev_c fun H9 e9 => bad (r := .room) ((e17.trans e8).trans e9) (by simp at hb8; simp [chk, hb8])) (fun hb8 H8 e8 => ?_)
    simp only [decide_eq_false_iff_not] at hb8
    have e18 := e17.trans e8
    refine q_when (b := decide (60 < n) || (decide (90 < (((doorsP ps).map doorD).length : Int)) || decide (60 < (((keysP ps).map keyD).length : Int)))) (et_or (et_test (ev_op (ev_var rfl) ev_c rv_I0)) fun _ => et_or (et_test (ev_op (ev_lenD (K := K) (ed_any (ev_var rfl) (hdp.ex (e7.trans e8)).dp) (.inl rfl)) ev_c rv_I0)) fun _ => et_test (ev_op (ev_lenD (K := K) (ed_any (ev_var rfl) (hkp.ex e8).dp) (.inl rfl)) ev_c rv_I0)) (fun hb9 H9 e9 => ?_) (fun hb9 H9 e9 => ?_)
    · simp only [Bool.or_eq_true, decide_eq_true_eq, List.length_map] at hb9
      exact s_ret ev_c fun H10 e10 => bad (r := .many) ((e18.trans e9).trans e10) (by simp only [chk, if_neg hb8, if_pos hb9])
    have hch : chk n (doorsP ps) (keysP ps) = ((doorsP ps).map Sum.inl ++ (keysP ps).map Sum.inr : List Part).findSome? (chkP n) := by
      simp only [Bool.or_eq_false_iff, decide_eq_false_iff_not, List.length_map] at hb9
      rw [chkP_all, chk, if_neg hb8, if_neg (by omega)]
    have e79 := e8.trans e9
    have e19 := e17.trans e79
    have hdl : (doorsP ps).length ≤ 250 := Nat.le_trans (List.length_filterMap_le _ _) hpl
    have hkl : (keysP ps).length ≤ 250 := Nat.le_trans (List.length_filterMap_le _ _) hpl
    obtain ⟨all, eall⟩ : ∃ all : List Part, (doorsP ps).map Sum.inl ++ (keysP ps).map Sum.inr = all := ⟨_, rfl⟩
    rw [eall] at hch
    have halld : all.map partD = (doorsP ps).map doorD ++ (keysP ps).map keyD := by
      rw [← eall, List.map_append, List.map_map, List.map_map]
      rfl
    have hnn : ∀ p ∈ all, NonNegP p := fun p hp => by
      rw [← eall] at hp
      refine allP_nonneg hps p ?_
      rcases List.mem_append.mp hp with h | h
      · obtain ⟨d, hd, rfl⟩ := List.mem_map.mp h
        obtain ⟨p2, hp2, he⟩ := List.mem_filterMap.mp hd
        cases p2 with
        | inl d2 => simp at he; subst he; exact hp2
        | inr d2 => simp at he
      · obtain ⟨d, hd, rfl⟩ := List.mem_map.mp h
        obtain ⟨p2, hp2, he⟩ := List.mem_filterMap.mp hd
        cases p2 with
        | inl d2 => simp at he
        | inr d2 => simp at he; subst he; exact hp2
    refine q_forEL (K := K) (g := gName 6) (ds := all.map partD) (by
      rw [halld]
      exact lt_catW (ev_var rfl) (hdp.ex (e7.trans e79)) (ev_var rfl) (hkp.ex e79) (by rw [List.length_map, List.length_map]; omega)) fun pp xs H10 npp e10 hpp hpd => ⟨fun i σ' H' => Ex H10 H' ∧ ∃ y6 : Option V, σ' = [some (.ref rl), some (.ref wp), some (.int n), some (.ref mp), some (.ref dp), some (.ref kp), y6, none] ∧ (all.take i).findSome? (chkP n) = none, ⟨Ex.refl _, none, rfl, rfl⟩, fun i σ' H' h => ⟨h.1 _ _ hpp, Tk.ex h.1⟩, fun i d x σ' H' hdi hx hP => ?_, fun σ' H' hP => ?_⟩
    · obtain ⟨eH, y6, rfl, hno⟩ := hP
      rw [List.getElem?_map] at hdi
      obtain ⟨p, hpi, rfl⟩ := Option.map_eq_some_iff.mp hdi
      have hpn := hnn p (List.mem_of_getElem? hpi)
      have hit : ∀ r, chkP n p = some r → chk n (doorsP ps) (keysP ps) = some r := fun r hr => by rw [hch, fs_hit hpi hno hr]
      have e1H := (e19.trans e10).trans eH
      have nxt : ∀ {H2 : Hp}, Ex H' H2 → chkP n p = none → Ex H10 H2 ∧ ∃ y6 : Option V, [some (.ref rl), some (.ref wp), some (.int n), some (.ref mp), some (.ref dp), some (.ref kp), some x, none] = ([some (.ref rl), some (.ref wp), some (.int n), some (.ref mp), some (.ref dp), some (.ref kp), y6, none] : L2.St) ∧ (all.take (i + 1)).findSome? (chkP n) = none := fun e hc => ⟨eH.trans e, _, rfl, by rw [fs_succ hpi, hno, hc]; rfl⟩
      have ix : ∀ {σ : L2.St} {H2 : Hp} {tb : TE} {ds : List PyData} {i : Int} {d : PyData}, partD p = .tuple ds → Ex H' H2 → σ[6]? = some (some x) → Ev tb σ H2 (.int i) → atI ds i = some d → EvTd (tOp (rIxT K) (tVar 6) tb) σ H2 d := fun ep e h hb ha => td_ixT (td_any (ev_var h) ((ep ▸ hx).ex e)) hb ha
      show tSeq _ _ _ _ _
      cases p with
      | inl dd =>
        obtain ⟨a, b, l⟩ := dd
        refine q_when (b := decide (n ≤ a) || (decide ((3 : Int) = 3) && decide (n ≤ b))) (et_or (et_test (ev_op (ev_of_td (ix (i := 0) rfl (Ex.refl _) rfl ev_c atI0)) (ev_var rfl) rv_I0)) fun _ => et_and (et_test (ev_op (hlen3 rfl hx) ev_c rv_eqI)) fun _ => et_test (ev_op (ev_of_td (ix (i := 1) rfl (Ex.refl _) rfl ev_c atI1)) (ev_var rfl) rv_I0)) (fun hb11 H11 e11 => ?_) (fun hb11 H11 e11 => ?_)
        · refine s_ret ev_c fun H12 e12 => bad (r := .room) ((e1H.trans e11).trans e12) (hit _ ?_)
          simp at hb11
          simp only [chkP, chkD]
          by_cases h1 : Here n a
          · have h2 : ¬ Here n b := fun z => by have := z.2; have := h1.2; omega
            rw [if_neg (by simpa using h1), if_pos h2]
          · rw [if_pos h1]
        · simp at hb11
          have h1 : Here n a := ⟨hpn.1, by omega⟩
          have h2 : Here n b := ⟨hpn.2.1, by omega⟩
          cases l with
          | none =>
            refine s_when (b := false) (et_and (a := false) (b := false) (et_test (ev_lockN (K := K) (l := none) (ed_td (ix (i := -1) rfl e11 rfl (ev_un ev_c ru_neg) rfl)))) fun z => Bool.noConfusion z) (fun z => Bool.noConfusion z) (fun _ H12 e12 => nxt (e11.trans e12) ?_)
            simp only [chkP, chkD]
            rw [if_neg (by simpa using h1), if_neg (by simpa using h2)]
          | some k =>
            refine s_when (b := true && decide (4 < k)) (et_and (et_test (ev_lockN (K := K) (l := some k) (ed_td (ix (i := -1) rfl e11 rfl (ev_un ev_c ru_neg) rfl)))) fun _ => et_test (ev_op (ev_of_td (ix (i := -1) rfl e11 rfl (ev_un ev_c ru_neg) rfl)) ev_c rv_I0)) (fun hb12 H12 e12 => ?_) (fun hb12 H12 e12 => nxt (e11.trans e12) ?_)
            · simp at hb12
              refine s_ret ev_c fun H13 e13 => bad (r := .key) (((e1H.trans e11).trans e12).trans e13) (hit _ ?_)
              have h3 : ¬ Here 5 k := fun z => by have := z.2; omega
              simp only [chkP, chkD]
              rw [if_neg (by simpa using h1), if_neg (by simpa using h2)]
              simp only [if_neg h3]
            · simp at hb12
              have h3 : Here 5 k := ⟨hpn.2.2 k rfl, by omega⟩
              simp only [chkP, chkD]
              rw [if_neg (by simpa using h1), if_neg (by simpa using h2)]
              simp only [if_pos h3]
      | inr kk =>
        obtain ⟨a, k⟩ := kk
        refine q_when (b := decide (n ≤ a) || (decide ((2 : Int) = 3) && false)) (et_or (et_test (ev_op (ev_of_td (ix (i := 0) rfl (Ex.refl _) rfl ev_c atI0)) (ev_var rfl) rv_I0)) fun _ => et_and (et_test (ev_op (hlen3 rfl hx) ev_c rv_eqI)) fun z => by cases z) (fun hb11 H11 e11 => ?_) (fun hb11 H11 e11 => ?_)
        · refine s_ret ev_c fun H12 e12 => bad (r := .room) ((e1H.trans e11).trans e12) (hit _ ?_)
          simp at hb11
          simp only [chkP, chkK]
          rw [if_pos (fun z => by have := z.2; omega)]
        · simp at hb11
          have h1 : Here n a := ⟨hpn.1, by omega⟩
          refine s_when (b := true && decide (4 < k)) (et_and (et_test (ev_lockN (K := K) (l := some k) (ed_td (ix (i := -1) rfl e11 rfl (ev_un ev_c ru_neg) rfl)))) fun _ => et_test (ev_op (ev_of_td (ix (i := -1) rfl e11 rfl (ev_un ev_c ru_neg) rfl)) ev_c rv_I0)) (fun hb12 H12 e12 => ?_) (fun hb12 H12 e12 => nxt (e11.trans e12) ?_)
          · simp at hb12
            refine s_ret ev_c fun H13 e13 => bad (r := .key) (((e1H.trans e11).trans e12).trans e13) (hit _ ?_)
            have h3 : ¬ Here 5 k := fun z => by have := z.2; omega
            simp only [chkP, chkK]
            rw [if_neg (by simpa using h1), if_neg h3]
          · simp at hb12
            have h3 : Here 5 k := ⟨hpn.2, by omega⟩
            simp only [chkP, chkK]
            rw [if_neg (by simpa using h1), if_pos h3]
    · obtain ⟨eH, y6, rfl, hno⟩ := hP
      rw [List.length_map, List.take_length] at hno
      have e7H := (e79.trans e10).trans eH
      refine s_retP (ed_tup (K := K) (ds := [.int n, .list ((doorsP ps).map doorD), .list ((keysP ps).map keyD)]) (ea_dc (ed_int (ev_var rfl)) (ea_dc (ed_any (ev_var rfl) (hdp.ex (e7.trans e7H)).dp) (ea_dc (ed_any (ev_var rfl) (hkp.ex e7H).dp) ea_dn))) (by simp)) fun v H11 e11 hv => q v H11 (((e19.trans e10).trans eH).trans e11) ?_
      rw [res_ok hpa (by rw [hch, hno])]
      exact hv
end

section
variable {P : Program} {w : World} {K : PySem.W.Frag} {mg : Str → Option Value} {base : Heap}
theorem kinds_one {D a : Addr} {σ : L2.St} {H : Hp} {Dn : Ends} {j i : Nat} {b1 b2 b3 b4 b5 b6 : Bool} {c1 c2 c3 c4 c5 c6 : Addr} (hij : i ≠ j) (hi : σ[i]? = some (some (.ref a))) (hj : j < σ.length)
    (k1 : PySem.W.kitOne K (.ref D) (.ref c1) = some b1) (k2 : PySem.W.kitOne K (.ref D) (.ref c2) = some b2) (k3 : PySem.W.kitOne K (.ref D) (.ref c3) = some b3) (k4 : PySem.W.kitOne K (.ref D) (.ref c4) = some b4)
    (k5 : PySem.W.kitOne K (.ref D) (.ref c5) = some b5) (k6 : PySem.W.kitOne K (.ref D) (.ref c6) = some b6) (kV : PySem.W.kitOne K (.ref D) (.type "ValueError") = some true) (hc : ([b1, b2, b3] ++ [b4, b5, b6]).countP id = 1)
    (q : ∀ H2, Ex H H2 → Dn.rt (.bl true) H2) :
    tSeq (tAsg (tLst (tCons (tCB (rIsE K D a) (tCons (tVar i) (tCons (tC (.ref c1)) tNil))) (tCons (tCB (rIsE K D a) (tCons (tVar i) (tCons (tC (.ref c2)) tNil))) (tCons (tCB (rIsE K D a) (tCons (tVar i) (tCons (tC (.ref c3)) tNil))) tNil)))) (gName j))
      (tSeq (tAsg (tOp rCat (tVar j) (tLst (tCons (tCB (rIsE K D a) (tCons (tVar i) (tCons (tC (.ref c4)) tNil))) (tCons (tCB (rIsE K D a) (tCons (tVar i) (tCons (tC (.ref c5)) tNil))) (tCons (tCB (rIsE K D a) (tCons (tVar i) (tCons (tC (.ref c6)) tNil))) tNil))))) (gName j))
        (tRet (tAndV (tCB (rIsE K D a) (tCons (tVar i) (tCons (tC (.ty "ValueError")) tNil))) (tOp rEq (tBM K "list" (rCntF K) (tVar j) (tCons (tC (.bl true)) tNil)) (tC (.int 1)))))) Dn σ H := by
  refine q_asgLT (ds := [b1, b2, b3].map PyData.bool) (lt_lst (ea_tc (td_bl (ev_isE (ev_var hi) (fun _ h => h) k1)) (ea_tc (td_bl (ev_isE (ev_var hi) (fun _ h => h) k2)) (ea_tc (td_bl (ev_isE (ev_var hi) (fun _ h => h) k3)) ea_tn))) (by simp)) fun p H1 np e1 hp => ?_
  have hi1 : (σ.set j (some (.ref p)))[i]? = some (some (.ref a)) := by rw [List.getElem?_set_ne (fun z => hij z.symm)]; exact hi
  have hj1 : (σ.set j (some (V.ref p)))[j]? = some (some (.ref p)) := by rw [List.getElem?_set_self hj]
  refine q_asgLT (ds := [b1, b2, b3].map PyData.bool ++ [b4, b5, b6].map PyData.bool) (lt_cat (ev_var hj1) hp (lt_lst (ea_tc (td_bl (ev_isE (ev_var hi1) (fun _ h => h) k4)) (ea_tc (td_bl (ev_isE (ev_var hi1) (fun _ h => h) k5)) (ea_tc (td_bl (ev_isE (ev_var hi1) (fun _ h => h) k6)) ea_tn))) (by simp)) (by simp)) fun r H2 nr e2 hr => ?_
  have hi2 : ((σ.set j (some (.ref p))).set j (some (.ref r)))[i]? = some (some (.ref a)) := by rw [List.getElem?_set_ne (fun z => hij z.symm)]; exact hi1
  have hj2 : ((σ.set j (some (V.ref p))).set j (some (.ref r)))[j]? = some (some (.ref r)) := by rw [List.getElem?_set_self (by rw [List.length_set]; exact hj)]
  rw [← List.map_append] at hr
  refine s_ret (v := .bl (true && true)) (ev_andV (ev_isE (ev_var hi2) (fun _ h => h) kV) fun _ => ev_is (ev_op (ev_countT (ev_var hj2) hr) ev_c rv_eqI) (by rw [hc]; rfl)) fun H3 e3 => q H3 ((e1.trans e2).trans e3)
end

section
variable {P : Program} {w : World} {K : PySem.W.Frag} {mg : Str → Option Value} {base : Heap}
/-! ### what is told; refused by one class; alike -/
def ToldV (H : Hp) (v : V) : Res → Prop
  | .ok n ds ks => MazeT H v n ds ks
  | .maze => v = .str "maze"
  | .bad r => v = .str (codeS (some r))
def sp_l_told (K : PySem.W.Frag) : Sp := fun vs H Q _ => ∃ rows : List Str, vs = [.str (Txt.join "\n" rows)] ∧ RowsOk2 rows ∧ ∀ v H2, Ex H H2 → ToldV H2 v (resF rows) → Q v H2
theorem bad_maze {rows : List Str} (h : (resF rows).bad? = some .maze) : resF rows = .maze := by
  cases hr : resF rows with
  | ok n ds ks => rw [hr] at h; cases h
  | maze => rfl
  | bad r => rw [hr] at h; cases h
theorem bad_r3 {rows : List Str} {r : Ref3} (h : (resF rows).bad? = some (.r3 r)) : resF rows = .bad r := by
  cases hr : resF rows with
  | ok n ds ks => rw [hr] at h; cases h
  | maze => rw [hr] at h; cases h
  | bad r2 => rw [hr] at h; cases h; rfl
theorem ok_l_told (T : Txt K mg) : Kept P w K mg base 4 "_law_told" ["_law_line"] (sp_l_told K) := by
  refine T.d_l_told.kept sc_l_told (fun vs H Q E h => ?_) (fun cdv A outer s H vs Q E hr h => ?_)
  · obtain ⟨rows, rfl, _⟩ := h
    rfl
  · obtain ⟨rows, rfl, hR, q⟩ := h
    refine ⟨_, (pss_one (ps_try_many (Wout := fun _ _ _ _ => False) (by rfl) (by rfl) takes0x (fun W pn xe tk po => (pss_one (ps_ret (pe_fnS (ok_read (K := K) T) (hr.mono (by decide)) (fun st => passAt tk st) (pa_cons (pv 0) pa_nil))))) (HdsOk.cons ⟨by rfl, by decide, .inl T.e_NoMaze.gC⟩ (fun a oe cls dd pn _ _ => (pss_one (ps_ret pe_str))) (HdsOk.cons ⟨by rfl, by decide, .inl T.e_NoRoom.gC⟩ (fun a oe cls dd pn _ _ => (pss_one (ps_ret pe_str))) (HdsOk.cons ⟨by rfl, by decide, .inl T.e_NoKey.gC⟩ (fun a oe cls dd pn _ _ => (pss_one (ps_ret pe_str))) (HdsOk.cons ⟨by rfl, by decide, .inl T.e_TooMany.gC⟩ (fun a oe cls dd pn _ _ => (pss_one (ps_ret pe_str))) HdsOk.nil)))))), ?_⟩
    refine ⟨_, rfl, rows, rfl, hR, fun n ds ks hres v H1 e1 hv => q v H1 e1 (by rw [hres]; exact hv), fun r hb H1 e1 => ?_⟩
    cases r with
    | maze =>
      have hres := bad_maze hb
      exact ⟨true, T.m_NoMaze_NoMaze, fun _ a na => s_ret ev_c fun H2 e2 => q _ H2 (e1.trans e2) (by rw [hres]; rfl), fun z => by cases z⟩
    | r3 r =>
      have hres := bad_r3 hb
      have qq : ∀ H2, Ex H1 H2 → Q (.str (codeS (some r))) H2 := fun H2 e2 => q _ H2 (e1.trans e2) (by rw [hres]; rfl)
      cases r with
      | room => exact ⟨false, T.m_NoRoom_NoMaze, (fun z => by cases z), fun _ => ⟨true, T.m_NoRoom_NoRoom, fun _ a na => s_ret ev_c fun H2 e2 => qq H2 e2, fun z => by cases z⟩⟩
      | key => exact ⟨false, T.m_NoKey_NoMaze, (fun z => by cases z), fun _ => ⟨false, T.m_NoKey_NoRoom, (fun z => by cases z), fun _ => ⟨true, T.m_NoKey_NoKey, fun _ a na => s_ret ev_c fun H2 e2 => qq H2 e2, fun z => by cases z⟩⟩⟩
      | many => exact ⟨false, T.m_TooMany_NoMaze, (fun z => by cases z), fun _ => ⟨false, T.m_TooMany_NoRoom, (fun z => by cases z), fun _ => ⟨false, T.m_TooMany_NoKey, (fun z => by cases z), fun _ => ⟨true, T.m_TooMany_TooMany, fun _ a na => s_ret ev_c fun H2 e2 => qq H2 e2, fun z => by cases z⟩⟩⟩⟩
def sp_l_refused (K : PySem.W.Frag) : Sp := fun vs H Q _ => ∃ (rows : List Str) (r : Ref4), vs = [.str (Txt.join "\n" rows)] ∧ RowsOk2 rows ∧ (resF rows).bad? = some r ∧ ∀ H2, Ex H H2 → Q (.bl true) H2
theorem ok_l_refused (T : Txt K mg) : Kept P w K mg base 4 "_law_refused" ["_law_line"] (sp_l_refused K) := by
  refine T.d_l_refused.kept sc_l_refused (fun vs H Q E h => ?_) (fun cdv A outer s H vs Q E hr h => ?_)
  · obtain ⟨rows, r, rfl, _⟩ := h
    rfl
  · obtain ⟨rows, r, rfl, hR, hb, q⟩ := h
    refine ⟨_, (pss_cons (ps_try_as (i := 1) (Wout := fun _ _ _ _ => False) (by rfl) (by rfl) sc_l_refused.nd rfl (by rfl) ⟨by rfl, by decide, .inl T.e_MazeError.gC⟩ takes0x (fun W pn xe tk po => (pss_one (ps_expr (pe_fnS (ok_read (K := K) T) (hr.mono (by decide)) (fun st => passAt tk st) (pa_cons (pv 0) pa_nil))))) (fun a oe cls dd pn hz hf => pss_exc hz fun D hx hzz => (pss_cons (ps_set (i := 2) sc_l_refused.nd rfl (Or.inl rfl) (pe_lst (pa_cons (pe_callB (call_isE hx hzz hf) (by rfl) T.n_isinstance (by decide +kernel) (pa_cons (pv 1) (pa_cons (pe_gref T.e_NoRoom.gC (by rfl)) pa_nil))) (pa_cons (pe_callB (call_isE hx hzz hf) (by rfl) T.n_isinstance (by decide +kernel) (pa_cons (pv 1) (pa_cons (pe_gref T.e_NoDoor.gC (by rfl)) pa_nil))) (pa_cons (pe_callB (call_isE hx hzz hf) (by rfl) T.n_isinstance (by decide +kernel) (pa_cons (pv 1) (pa_cons (pe_gref T.e_Shut.gC (by rfl)) pa_nil))) pa_nil)))))
      (pss_cons (ps_set (i := 2) sc_l_refused.nd rfl (Or.inl rfl) (pe_op op_cat (pv 2) (pe_lst (pa_cons (pe_callB (call_isE hx hzz hf) (by rfl) T.n_isinstance (by decide +kernel) (pa_cons (pv 1) (pa_cons (pe_gref T.e_NoMaze.gC (by rfl)) pa_nil))) (pa_cons (pe_callB (call_isE hx hzz hf) (by rfl) T.n_isinstance (by decide +kernel) (pa_cons (pv 1) (pa_cons (pe_gref T.e_NoKey.gC (by rfl)) pa_nil))) (pa_cons (pe_callB (call_isE hx hzz hf) (by rfl) T.n_isinstance (by decide +kernel) (pa_cons (pv 1) (pa_cons (pe_gref T.e_TooMany.gC (by rfl)) pa_nil))) pa_nil))))))
      (pss_one (ps_ret (pe_and (pe_callB (call_isE hx hzz hf) (by rfl) T.n_isinstance (by decide +kernel) (pa_cons (pv 1) (pa_cons (pe_bltn (v := .ty "ValueError") (u := .type "ValueError") (by rfl) T.n_ValueError (by decide +kernel) rfl) pa_nil))) (pe_one (pe_cmpR op_eq (pe_bm_K (K := K) rfl PySem.F.plainAttrs_list PySem.F.slot_list_count PySem.F.type_list_count (mt_countF_K (K := K) rfl) (pv 2) (pa_cons pe_bl pa_nil)) pe_int (nomark _))))))))))
      (pss_one (ps_ret pe_bl))), ?_⟩
    refine ⟨_, rfl, rows, rfl, hR, (fun n ds ks hres => by rw [hres] at hb; cases hb), fun r2 hb2 H1 e1 => ?_⟩
    cases r2 with
    | maze =>
      refine ⟨true, T.m_NoMaze_MazeError, fun _ a na => ?_, fun z => by cases z⟩
      exact ⟨He.ga K "NoMaze", ⟨rfl, rfl, T.x_NoMaze⟩, kinds_one (by decide) rfl (by simp [L2.start]) T.k_NoMaze_NoRoom T.k_NoMaze_NoDoor T.k_NoMaze_Shut T.k_NoMaze_NoMaze T.k_NoMaze_NoKey T.k_NoMaze_TooMany T.k_NoMaze_ValueError rfl fun H2 e2 => q H2 (e1.trans e2)⟩
    | r3 r2 =>
      cases r2 with
      | room =>
        refine ⟨true, T.m_NoRoom_MazeError, fun _ a na => ?_, fun z => by cases z⟩
        exact ⟨He.ga K "NoRoom", ⟨rfl, rfl, T.x_NoRoom⟩, kinds_one (by decide) rfl (by simp [L2.start]) T.k_NoRoom_NoRoom T.k_NoRoom_NoDoor T.k_NoRoom_Shut T.k_NoRoom_NoMaze T.k_NoRoom_NoKey T.k_NoRoom_TooMany T.k_NoRoom_ValueError rfl fun H2 e2 => q H2 (e1.trans e2)⟩
      | key =>
        refine ⟨true, T.m_NoKey_MazeError, fun _ a na => ?_, fun z => by cases z⟩
        exact ⟨He.ga K "NoKey", ⟨rfl, rfl, T.x_NoKey⟩, kinds_one (by decide) rfl (by simp [L2.start]) T.k_NoKey_NoRoom T.k_NoKey_NoDoor T.k_NoKey_Shut T.k_NoKey_NoMaze T.k_NoKey_NoKey T.k_NoKey_TooMany T.k_NoKey_ValueError rfl fun H2 e2 => q H2 (e1.trans e2)⟩
      | many =>
        refine ⟨true, T.m_TooMany_MazeError, fun _ a na => ?_, fun z => by cases z⟩
        exact ⟨He.ga K "TooMany", ⟨rfl, rfl, T.x_TooMany⟩, kinds_one (by decide) rfl (by simp [L2.start]) T.k_TooMany_NoRoom T.k_TooMany_NoDoor T.k_TooMany_Shut T.k_TooMany_NoMaze T.k_TooMany_NoKey T.k_TooMany_TooMany T.k_TooMany_ValueError rfl fun H2 e2 => q H2 (e1.trans e2)⟩
theorem sv_l_refused {H : Hp} {rows : List Str} {r : Ref4} (h : RowsOk2 rows) (hb : (resF rows).bad? = some r) : SpV (sp_l_refused K) [.str (Txt.join "\n" rows)] H (.bl true) := fun H1 e Q q E => ⟨rows, r, rfl, h, hb, q⟩
/-! alike -/
theorem nb_maze (n : Int) (ds : List Door) (ks : List Key2) : nb (mazeF n ds ks) = true := by
  simp only [mazeF, mazeD, nb, nbAll, Bool.true_and, Bool.and_true, Bool.and_eq_true]
  exact ⟨nbAll_map nb_door ds, nbAll_map nb_key ks⟩
theorem sh_maze (n : Int) (ds : List Door) (ks : List Key2) : SeqAt.shaped (mazeF n ds ks) = true := shaped_of (nb_maze n ds ks) (by
  have : (mazeF n ds ks).depth ≤ 2 + 1 := depth_tuple fun d hd => by
    simp at hd
    rcases hd with rfl | rfl | rfl
    · simp [PyData.depth]
    · exact depth_list (depth_map dep_door ds)
    · exact depth_list (depth_map dep_key ks)
  omega)
def partN : Part → List PyData
  | .inl d => [.int d.1, .int d.2.1, lockD d.2.2]
  | .inr k => [.int k.1, .int k.2]
theorem partN_eq (p : Part) : partD p = .tuple (partN p) := by cases p <;> rfl
theorem partN_len (p : Part) : 2 ≤ (partN p).length := by cases p <;> simp [partN]
theorem partN_mem {p : Part} {d : PyData} (h : d ∈ partN p) : d = .none ∨ ∃ i, d = .int i := by
  cases p with
  | inl dd =>
    obtain ⟨a, b, l⟩ := dd
    simp [partN] at h
    rcases h with h | h | h
    · exact .inr ⟨_, h⟩
    · exact .inr ⟨_, h⟩
    · cases l with
      | none => exact .inl h
      | some k => exact .inr ⟨_, h⟩
  | inr kk =>
    simp [partN] at h
    rcases h with h | h
    · exact .inr ⟨_, h⟩
    · exact .inr ⟨_, h⟩
def sp_l_alike (K : PySem.W.Frag) : Sp := fun vs H Q _ => ∃ (v u : V) (n : Int) (ds : List Door) (ks : List Key2), vs = [v, u] ∧ MazeT H v n ds ks ∧ Dp K H u (mazeF n ds ks) ∧ ds.length ≤ 1000 ∧ ks.length ≤ 1000 ∧ ∀ H2, Ex H H2 → Q (.bl true) H2
theorem ok_l_alike (T : Txt K mg) : Kept P w K mg base 2 "_law_alike" ["_law_found", "_law_due_here"] (sp_l_alike K) := by
  refine T.d_l_alike.kept sc_l_alike (fun vs H Q E h => ?_) (fun cdv A outer s H vs Q E hr h => ?_)
  · obtain ⟨v, u, n, ds, ks, rfl, _⟩ := h
    rfl
  · obtain ⟨v, u, n, ds, ks, rfl, hv, hu, hdl, hkl, q⟩ := h
    refine ⟨_, (pss_cons (ps_if (PW.pt (pw_or (pt_not (pt_val (pe_callB (call_isi_K (K := K) rfl) (by rfl) T.n_isinstance (by decide +kernel) (pa_cons (pv 0) (pa_cons (pe_bltn (v := .ty "tuple") (u := .type "tuple") (by rfl) T.n_tuple (by decide +kernel) rfl) pa_nil))))) (pw_or (pt_cmpR op_ne (pe_callB (call_len_seq_K (K := K) rfl) (by rfl) T.n_len (by decide +kernel) (pa_cons (pv 0) pa_nil)) pe_int (nomark _)) (pw_or1 (pt_not (pt_val (pe_fn (ok_l_whole (K := K) T) (hr.mono (by decide)) passL (by rfl) (pa_cons (pe_ix (ix_tup_K (K := K) rfl) (pv 0) pe_int (fun _ _ => rfl)) pa_nil))))))))
        (pss_one (ps_ret pe_bl))
        pss_nil)
      (pss_cons (ps_if (PW.pt (pw_or (pt_not (pt_val (pe_callB (call_isi_K (K := K) rfl) (by rfl) T.n_isinstance (by decide +kernel) (pa_cons (pe_ix (ix_tup_K (K := K) rfl) (pv 0) pe_int (fun _ _ => rfl)) (pa_cons (pe_bltn (v := .ty "list") (u := .type "list") (by rfl) T.n_list (by decide +kernel) rfl) pa_nil))))) (pw_or1 (pt_not (pt_val (pe_callB (call_isi_K (K := K) rfl) (by rfl) T.n_isinstance (by decide +kernel) (pa_cons (pe_ix (ix_tup_K (K := K) rfl) (pv 0) pe_int (fun _ _ => rfl)) (pa_cons (pe_bltn (v := .ty "list") (u := .type "list") (by rfl) T.n_list (by decide +kernel) rfl) pa_nil))))))))
        (pss_one (ps_ret pe_bl))
        pss_nil)
      (pss_cons (ps_for (passes_of rfl) rfl (pi_list_K (K := K) rfl (pe_op op_cat (pe_ix (ix_tup_K (K := K) rfl) (pv 0) pe_int (fun _ _ => rfl)) (pe_ix (ix_tup_K (K := K) rfl) (pv 0) pe_int (fun _ _ => rfl)))) (pg_name (i := 2) sc_l_alike.nd rfl (Or.inl rfl))
        (pss_cons (ps_if (PW.pt (pw_or (pt_not (pt_val (pe_callB (call_isi_K (K := K) rfl) (by rfl) T.n_isinstance (by decide +kernel) (pa_cons (pv 2) (pa_cons (pe_bltn (v := .ty "tuple") (u := .type "tuple") (by rfl) T.n_tuple (by decide +kernel) rfl) pa_nil))))) (pw_or1 (pt_cmpR op_lt (pe_callB (call_len_seq_K (K := K) rfl) (by rfl) T.n_len (by decide +kernel) (pa_cons (pv 2) pa_nil)) pe_int (nomark _)))))
        (pss_one (ps_ret pe_bl))
        pss_nil)
      (pss_one (ps_for (passes_of rfl) rfl (pi_tup_K (K := K) rfl (pv 2)) (pg_name (i := 3) sc_l_alike.nd rfl (Or.inl rfl))
        (pss_one (ps_if (PW.pt (pw_and (pt_cmpR op_notN (pv 3) pe_non (nomark _)) (pw_and1 (pt_not (pt_val (pe_fn (ok_l_whole (K := K) T) (hr.mono (by decide)) passL (by rfl) (pa_cons (pv 3) pa_nil)))))))
        (pss_one (ps_ret pe_bl))
        pss_nil))))))
      (pss_one (ps_ret (pe_cmpR (op_eqD_K (K := K) rfl hr.units) (pv 0) (pv 1) (nomark _))))))), ?_⟩
    have hvd : Dp K H v (mazeF n ds ks) := hv.dp
    obtain ⟨p, dp, kp, rfl, hp, hdp, hkp⟩ := hv
    have it : ∀ {σ : L2.St} {H' : Hp} {i : Nat} {x : V}, Ex H H' → σ[0]? = some (some (.ref p)) → [V.int n, .ref dp, .ref kp][i]? = some x → Ev (tOp (rIxT K) (tVar 0) (tC (.int (i : Int)))) σ H' x := fun e h hx => ev_op (ev_var h) ev_c (rv_ixT (SqT.of (e _ _ hp)) (atI_nat hx))
    have tup0 : ∀ {σ : L2.St} {H' : Hp}, Ex H H' → σ[0]? = some (some (.ref p)) → Ev (tCB (rIsi K) (tCons (tVar 0) (tCons (tC (.ty "tuple")) tNil))) σ H' (.bl true) := fun e h => ev_isiD (K := K) (n := "tuple") (ed_any (ev_var h) (dp_ex e hvd)) (fun v H1 _ h => ty_tup h) (by decide +kernel)
    refine q_when (b := (!true) || ((!decide ((3 : Int) = 3)) || !true)) (et_or (et_not (et_B (tup0 (Ex.refl _) rfl))) fun _ => et_or (et_test (ev_op (ev_is (ev_lenD (K := K) (ed_any (ev_var rfl) hvd) (.inr rfl)) rfl) ev_c rv_neI)) fun _ => et_not (et_B (ev_call0 (ea_cons (it (i := 0) (Ex.refl _) rfl rfl) ea_nil) sv_l_whole))) (fun z => absurd z (by decide)) (fun _ H1 e1 => ?_)
    have isl : ∀ {σ : L2.St} {H' : Hp} {i : Nat} {l : Addr} {es : List PyData}, Ex H H' → σ[0]? = some (some (.ref p)) → [V.int n, .ref dp, .ref kp][i]? = some (.ref l) → LstT H l es → Ev (tCB (rIsi K) (tCons (tOp (rIxT K) (tVar 0) (tC (.int (i : Int)))) (tCons (tC (.ty "list")) tNil))) σ H' (.bl true) := fun e h hx hl => ev_isiD (K := K) (n := "list") (ed_any (it e h hx) (hl.ex e).dp) (fun v H1 _ h => ty_lst h) (by decide +kernel)
    refine q_when (b := (!true) || !true) (et_or (et_not (et_B (isl (i := 1) e1 rfl rfl hdp))) fun _ => et_not (et_B (isl (i := 2) e1 rfl rfl hkp))) (fun z => Bool.noConfusion z) (fun _ H2 e2 => ?_)
    have e12 := e1.trans e2
    refine q_forEL (K := K) (g := gName 2) (ds := ds.map doorD ++ ks.map keyD) (lt_catW (it (i := 1) e12 rfl rfl) (hdp.ex e12) (it (i := 2) e12 rfl rfl) (hkp.ex e12) (by rw [List.length_map, List.length_map]; omega)) fun pp xs H3 npp e3 hpp hpd => ⟨fun i σ' H' => Ex H3 H' ∧ ∃ y2 y3 : Option V, σ' = [some (.ref p), some u, y2, y3], ⟨Ex.refl _, none, none, rfl⟩, fun i σ' H' h => ⟨h.1 _ _ hpp, Tk.ex h.1⟩, fun i d x σ' H' hdi hx hP => ?_, fun σ' H' hP => ?_⟩
    · obtain ⟨eH, y2, y3, rfl⟩ := hP
      obtain ⟨pt, rfl⟩ : ∃ pt : Part, d = partD pt := by
        rcases List.mem_append.mp (List.mem_of_getElem? hdi) with h | h
        · obtain ⟨dd, _, rfl⟩ := List.mem_map.mp h
          exact ⟨.inl dd, rfl⟩
        · obtain ⟨dd, _, rfl⟩ := List.mem_map.mp h
          exact ⟨.inr dd, rfl⟩
      rw [partN_eq] at hx
      have hl2 := partN_len pt
      show tSeq _ _ _ _ _
      refine q_when (b := (!true) || decide (((partN pt).length : Int) < 2)) (et_or (et_not (et_B (ev_isiD (K := K) (n := "tuple") (ed_any (ev_var rfl) hx.dp) (fun v H1 _ h => ty_tup h) (by decide +kernel)))) fun _ => et_test (ev_op (ev_lenD (K := K) (ed_any (ev_var rfl) hx.dp) (.inr rfl)) ev_c rv_I0)) (fun hb H4 e4 => ?_) (fun _ H4 e4 => ?_)
      · simp at hb
        omega
      refine s_forU (K := K) (ds := partN pt) (ed_any (ev_var rfl) (hx.ex e4).dp) (fun H5 j σ' H6 => Ex H5 H6 ∧ ∃ y3 : Option V, σ' = [some (.ref p), some u, some x, y3]) (fun H5 e5 => ⟨Ex.refl _, y3, rfl⟩) (fun H5 j σ' H6 h => h.1) (fun H5 e5 j d z σ' H6 hdj hz hP => ?_) (fun H5 e5 σ' H6 hP => ?_)
      · obtain ⟨e6, y3, rfl⟩ := hP
        rcases partN_mem (List.mem_of_getElem? hdj) with rfl | ⟨k, rfl⟩
        · cases hz
          exact s_when (b := false) (et_and (a := false) (b := false) (et_test (ev_is (ev_notN (ev_var rfl)) (by simp))) fun z => Bool.noConfusion z) (fun z => Bool.noConfusion z) (fun _ H7 e7 => ⟨e6.trans e7, _, rfl⟩)
        · cases hz
          exact s_when (b := true && !true) (et_and (et_test (ev_is (ev_notN (ev_var rfl)) (by simp))) fun _ => et_not (et_B (ev_call0 (ea_cons (ev_var rfl) ea_nil) sv_l_whole))) (fun z => Bool.noConfusion z) (fun _ H7 e7 => ⟨e6.trans e7, _, rfl⟩)
      · obtain ⟨e6, y3, rfl⟩ := hP
        exact ⟨((eH.trans e4).trans e5).trans e6, _, _, rfl⟩
    · obtain ⟨eH, y2, y3, rfl⟩ := hP
      have eA := (e12.trans e3).trans eH
      exact s_ret (ev_is (ev_eqD (K := K) (ed_any (ev_var rfl) (dp_ex eA hvd)) (ed_any (ev_var rfl) (dp_ex eA hu)) (sh_maze n ds ks) (sh_maze n ds ks)) (by rw [eqv_self (nb_maze n ds ks)])) fun H4 e4 => q H4 (eA.trans e4)
end

section
variable {P : Program} {w : World} {K : PySem.W.Frag} {mg : Str → Option Value} {base : Heap}
/-! ### signs and odd rows -/
def SignOk (c : Nat) : Prop := c < 128 ∧ c ≠ 10
def rowOkB (r : Str) : Bool := decide (r.length ≤ 300) && (cs r).all fun c => decide (c < 128) && !decide (c = 10)
theorem rowOk_of {r : Str} (h : rowOkB r = true) : RowOk r := by
  unfold rowOkB at h
  simp only [Bool.and_eq_true, decide_eq_true_eq, List.all_eq_true] at h
  exact ⟨h.1, fun c hc => by have := h.2 c hc; simpa using this⟩
def signs1 : Str := " !\"#$&'()*+,-./0123456789:;<=>?@ABCDEFGHIJKLMNOPQRSTUVWXYZ[\\]^_`"
def signs2 : Str := "abcdefghijklmnopqrstuvwxyz{|}~\t"
theorem signs_ok : (cs (signs1 ++ signs2)).length = 95 ∧ (signs1.length + signs2.length ≤ 100000) ∧ ((cs (signs1 ++ signs2)).all fun c => decide (c < 128) && !decide (c = 10)) = true := by decide +kernel
def sp_l_sign_by (K : PySem.W.Frag) : Sp := fun vs H Q _ => ∃ c : Int, vs = [.int c] ∧ ∀ k, SignOk k → ∀ H2, Ex H H2 → Q (.str ⟨#[k]⟩) H2
theorem ok_l_sign_by (T : Txt K mg) : Kept P w K mg base 1 "_law_sign_by" ["_law_cell"] (sp_l_sign_by K) := by
  refine T.d_l_sign_by.kept sc_l_sign_by (fun vs H Q E h => ?_) (fun cdv A outer s H vs Q E hr h => ?_)
  · obtain ⟨c, rfl, _⟩ := h
    rfl
  · obtain ⟨c, rfl, q⟩ := h
    refine ⟨_, (pss_cons (ps_set (i := 1) sc_l_sign_by.nd rfl (Or.inl rfl) pe_str)
      (pss_cons (ps_set (i := 1) sc_l_sign_by.nd rfl (Or.inl rfl) (pe_op op_add_str (pv 1) pe_str))
      (pss_one (ps_ret (pe_ix ix_str (pv 1) (pe_op op_mod (pv 0) pe_int) (fun _ _ => rfl)))))), ?_⟩
    obtain ⟨hl, hz, hall⟩ := signs_ok
    have h0 := Int.emod_nonneg c (show (95 : Int) ≠ 0 by decide)
    have h1 := Int.emod_lt_of_pos c (show (0 : Int) < 95 by decide)
    obtain ⟨j, hj⟩ : ∃ j : Nat, c % 95 = (j : Int) := ⟨(c % 95).toNat, by omega⟩
    have hjl : j < (cs (signs1 ++ signs2)).length := by omega
    have hat : atI (signs1 ++ signs2).cps.toList (c % 95) = some ((cs (signs1 ++ signs2))[j]) := by
      rw [hj]
      exact atI_nat (List.getElem?_eq_getElem hjl)
    have hk : SignOk ((cs (signs1 ++ signs2))[j]) := by
      have := List.all_eq_true.mp hall _ (List.getElem_mem hjl)
      simpa [SignOk] using this
    refine q_asg (v := .str signs1) ev_c fun H1 e1 => ?_
    refine q_asg (v := .str (signs1 ++ signs2)) (ev_op (ev_var rfl) ev_c (rv_addS hz)) fun H2 e2 => ?_
    exact s_ret (ev_op (ev_var rfl) (by walk_at "mz ev") (rv_ixS (i := c % 95) (by rw [← cs_len, hl]; omega) hat)) fun H3 e3 => q _ hk H3 ((e1.trans e2).trans e3)
theorem ep_sign {σ : L2.St} {H : Hp} {ta : TE} {E : XK} {c : Int} (h : Ev ta σ H (.int c)) : EvP (tCall (sp_l_sign_by K) [] E (tCons ta tNil)) σ H fun v _ => ∃ k, SignOk k ∧ v = .str ⟨#[k]⟩ := ep_call0 (Pa := fun vs _ => vs = [.int c]) (fun H1 e Q q => (ea_cons h ea_nil) H1 e _ fun H2 e2 => q _ H2 e2 rfl) fun vs H1 e hv Q q => ⟨c, hv, fun k hk H2 e2 => q _ H2 e2 ⟨k, hk, rfl⟩⟩
def odd1 : List Str := ["", "rooms 3", "rooms", "rooms 03", "rooms 5 ", "Rooms 5", "rooms  5", "rooms -1", "door 0", "door 0 0 by"]
def odd2 : List Str := ["door 0 0 by 00", "door 0 0  by 1", "door 0 0 in 1", "door 0 0 by 1 ", " door 0 0", "door 00 0"]
def odd3 : List Str := ["key 0 by 0", "key 0 in", "key 0 in 0 0", "keys 0 in 0", "key 01 in 0", "door 0 x"]
def odd4 : List Str := ["key 0 in 0a", "door0 0", "Door 0 0", "door 0 0 By 1", "key 0 IN 0", "KEY 0 in 0"]
def odd5 : List Str := ["door 0 0 by +1", "door 0 0_0", "door 0\t0", "key 0 in 0\t", "rooms", "door", "key"]
def odds : List Str := odd1 ++ odd2 ++ odd3 ++ odd4 ++ odd5
theorem odds_ok : odds.length = 35 ∧ odds.all rowOkB = true := by decide +kernel
def sp_l_odd (K : PySem.W.Frag) : Sp := fun vs H Q _ => ∃ c : Int, vs = [.int c] ∧ ∀ x, RowOk x → ∀ H2, Ex H H2 → Q (.str x) H2
theorem lt_catS {σ : L2.St} {H : Hp} {ta tb : TE} {l : Addr} {xs ys : List Str} (ha : Ev ta σ H (.ref l)) (hl : LstT H l (xs.map PyData.str)) (hb : EvLT tb σ H (ys.map PyData.str)) (hz : xs.length + ys.length ≤ 100000) : EvLT (tOp rCat ta tb) σ H ((xs ++ ys).map PyData.str) := by
  rw [List.map_append]
  exact lt_cat ha hl hb (by rw [List.length_map, List.length_map]; exact hz)
theorem ok_l_odd (T : Txt K mg) : Kept P w K mg base 1 "_law_odd" ["_law_cell"] (sp_l_odd K) := by
  refine T.d_l_odd.kept sc_l_odd (fun vs H Q E h => ?_) (fun cdv A outer s H vs Q E hr h => ?_)
  · obtain ⟨c, rfl, _⟩ := h
    rfl
  · obtain ⟨c, rfl, q⟩ := h
    refine ⟨_, (pss_cons (ps_set (i := 1) sc_l_odd.nd rfl (Or.inl rfl) (pe_lst (pa_cons pe_str (pa_cons pe_str (pa_cons pe_str (pa_cons pe_str (pa_cons pe_str (pa_cons pe_str (pa_cons pe_str (pa_cons pe_str (pa_cons pe_str (pa_cons pe_str pa_nil))))))))))))
      (pss_cons (ps_set (i := 1) sc_l_odd.nd rfl (Or.inl rfl) (pe_op op_cat (pv 1) (pe_lst (pa_cons pe_str (pa_cons pe_str (pa_cons pe_str (pa_cons pe_str (pa_cons pe_str (pa_cons pe_str pa_nil)))))))))
      (pss_cons (ps_set (i := 1) sc_l_odd.nd rfl (Or.inl rfl) (pe_op op_cat (pv 1) (pe_lst (pa_cons pe_str (pa_cons pe_str (pa_cons pe_str (pa_cons pe_str (pa_cons pe_str (pa_cons pe_str pa_nil)))))))))
      (pss_cons (ps_set (i := 1) sc_l_odd.nd rfl (Or.inl rfl) (pe_op op_cat (pv 1) (pe_lst (pa_cons pe_str (pa_cons pe_str (pa_cons pe_str (pa_cons pe_str (pa_cons pe_str (pa_cons pe_str pa_nil)))))))))
      (pss_cons (ps_set (i := 1) sc_l_odd.nd rfl (Or.inl rfl) (pe_op op_cat (pv 1) (pe_lst (pa_cons pe_str (pa_cons pe_str (pa_cons pe_str (pa_cons pe_str (pa_cons pe_str (pa_cons pe_str (pa_cons pe_str pa_nil))))))))))
      (pss_one (ps_ret (pe_ix (ix_list_K (K := K) rfl) (pv 1) (pe_op op_mod (pv 0) pe_int) (fun _ _ => rfl))))))))), ?_⟩
    obtain ⟨hl, hall⟩ := odds_ok
    have h0 := Int.emod_nonneg c (show (35 : Int) ≠ 0 by decide)
    have h1 := Int.emod_lt_of_pos c (show (0 : Int) < 35 by decide)
    obtain ⟨j, hj⟩ : ∃ j : Nat, c % 35 = (j : Int) := ⟨(c % 35).toNat, by omega⟩
    have hjl : j < odds.length := by omega
    have hat : atI (odds.map PyData.str) (c % 35) = some (.str odds[j]) := by
      rw [hj]
      exact atI_nat (by rw [List.getElem?_map, List.getElem?_eq_getElem hjl]; rfl)
    have hk : RowOk odds[j] := rowOk_of (List.all_eq_true.mp hall _ (List.getElem_mem hjl))
    have s : ∀ {σ : L2.St} {H : Hp} {x : Str}, EvTd (tC (.str x)) σ H (.str x) := td_str ev_c
    refine q_asgLT (ds := odd1.map PyData.str) (lt_lst (ea_tc s (ea_tc s (ea_tc s (ea_tc s (ea_tc s (ea_tc s (ea_tc s (ea_tc s (ea_tc s (ea_tc s ea_tn)))))))))) (by decide +kernel)) fun p1 H1 n1 e1 hp1 => ?_
    refine q_asgLT (ds := (odd1 ++ odd2).map PyData.str) (lt_catS (ev_var rfl) hp1 (lt_lst (ea_tc s (ea_tc s (ea_tc s (ea_tc s (ea_tc s (ea_tc s ea_tn)))))) (by decide +kernel)) (by decide +kernel)) fun p2 H2 n2 e2 hp2 => ?_
    refine q_asgLT (ds := (odd1 ++ odd2 ++ odd3).map PyData.str) (lt_catS (ev_var rfl) hp2 (lt_lst (ea_tc s (ea_tc s (ea_tc s (ea_tc s (ea_tc s (ea_tc s ea_tn)))))) (by decide +kernel)) (by decide +kernel)) fun p3 H3 n3 e3 hp3 => ?_
    refine q_asgLT (ds := (odd1 ++ odd2 ++ odd3 ++ odd4).map PyData.str) (lt_catS (ev_var rfl) hp3 (lt_lst (ea_tc s (ea_tc s (ea_tc s (ea_tc s (ea_tc s (ea_tc s ea_tn)))))) (by decide +kernel)) (by decide +kernel)) fun p4 H4 n4 e4 hp4 => ?_
    refine q_asgLT (ds := odds.map PyData.str) (lt_catS (ev_var rfl) hp4 (lt_lst (ea_tc s (ea_tc s (ea_tc s (ea_tc s (ea_tc s (ea_tc s (ea_tc s ea_tn))))))) (by decide +kernel)) (by decide +kernel)) fun p5 H5 n5 e5 hp5 => ?_
    exact s_ret (ev_of_tdS (td_ixLV (ev_var rfl) hp5 (by walk_at "mz ev") hat)) fun H6 e6 => q _ hk H6 (((((e1.trans e2).trans e3).trans e4).trans e5).trans e6)
theorem ep_odd {σ : L2.St} {H : Hp} {ta : TE} {E : XK} {c : Int} (h : Ev ta σ H (.int c)) : EvP (tCall (sp_l_odd K) [] E (tCons ta tNil)) σ H fun v _ => ∃ x, RowOk x ∧ v = .str x := ep_call0 (Pa := fun vs _ => vs = [.int c]) (fun H1 e Q q => (ea_cons h ea_nil) H1 e _ fun H2 e2 => q _ H2 e2 rfl) fun vs H1 e hv Q q => ⟨c, hv, fun k hk H2 e2 => q _ H2 e2 ⟨k, hk, rfl⟩⟩
end

section
variable {P : Program} {w : World} {K : PySem.W.Frag} {mg : Str → Option Value} {base : Heap}
/-! ### the rows -/
def NumOk (i : Int) : Prop := 0 ≤ i ∧ i < 10 ^ 60
theorem NumOk.len {i : Int} (h : NumOk i) : (ts i).length ≤ 60 := PyProof.Rows.toString_length_le h.1 (by decide) h.2
theorem NumOk.small {i : Int} (h : NumOk i) : i.natAbs < 2 ^ 1000 := by
  have h1 : i.natAbs < 10 ^ 60 := by
    have h0 := h.1
    have h2 := h.2
    omega
  exact Nat.lt_trans h1 (by decide +kernel)
theorem num_lt {i : Int} (h0 : 0 ≤ i) (h1 : i < 100000) : NumOk i := ⟨h0, by omega⟩
def SgOk (r : Str) : Prop := ∀ c ∈ cs r, SignOk c
theorem cs_app (a b : Str) : cs (a ++ b) = cs a ++ cs b := by
  show (a.cps ++ b.cps).toList = _
  rw [Array.toList_append]
theorem SgOk.app {a b : Str} (ha : SgOk a) (hb : SgOk b) : SgOk (a ++ b) := fun c hc => by
  rw [cs_app] at hc
  rcases List.mem_append.mp hc with h | h
  · exact ha c h
  · exact hb c h
theorem sg_ts (i : Int) : SgOk (ts i) := fun c hc => by
  by_cases h : c ≠ 45 ∧ (c < 48 ∨ 57 < c)
  · exact absurd hc (PyProof.Rows.int_text_free' c h i)
  · exact ⟨by omega, by omega⟩
theorem sg_lit {r : Str} (h : ((cs r).all fun c => decide (c < 128) && !decide (c = 10)) = true := by decide +kernel) : SgOk r := fun c hc => by
  have := List.all_eq_true.mp h c hc
  simpa [SignOk] using this
theorem sp_app {a b : Str} (h : 32 ∈ cs a) : 32 ∈ cs (a ++ b) := by
  rw [cs_app]
  exact List.mem_append_left _ h
def RowOr (r : Str) : Prop := r.length ≤ 200 ∧ 32 ∈ cs r ∧ SgOk r
theorem RowOr.ok {r : Str} (h : RowOr r) : RowOk r := ⟨by have := h.1; omega, h.2.2⟩
def row0F (n : Int) : Str := Str.empty ++ ("rooms " : Str) ++ ts n
def row1F (a b : Int) : Str := Str.empty ++ ("door " : Str) ++ ts a ++ (" " : Str) ++ ts b
def row2F (a b l : Int) : Str := Str.empty ++ ("door " : Str) ++ ts a ++ (" " : Str) ++ ts b ++ (" by " : Str) ++ ts l
def row3F (b l : Int) : Str := Str.empty ++ ("key " : Str) ++ ts l ++ (" in " : Str) ++ ts b
theorem lens5 : (Str.empty).length = 0 ∧ ("rooms " : Str).length = 6 ∧ ("door " : Str).length = 5 ∧ (" " : Str).length = 1 ∧ (" by " : Str).length = 4 ∧ ("key " : Str).length = 4 ∧ (" in " : Str).length = 4 := by decide +kernel
theorem row0_ok {n : Int} (h : NumOk n) : RowOr (row0F n) := by
  obtain ⟨l0, l1, l2, l3, l4, l5, l6⟩ := lens5
  have := h.len
  refine ⟨?_, sp_app (by decide +kernel), ((sg_lit).app (sg_lit)).app (sg_ts _)⟩
  simp only [row0F, Str.length_append, l0, l1]
  omega
theorem row1_ok {a b : Int} (ha : NumOk a) (hb : NumOk b) : RowOr (row1F a b) := by
  obtain ⟨l0, l1, l2, l3, l4, l5, l6⟩ := lens5
  have := ha.len
  have := hb.len
  refine ⟨?_, sp_app (sp_app (sp_app (by decide +kernel))), ((((sg_lit).app (sg_lit)).app (sg_ts _)).app sg_lit).app (sg_ts _)⟩
  simp only [row1F, Str.length_append, l0, l2, l3]
  omega
theorem row2_ok {a b l : Int} (ha : NumOk a) (hb : NumOk b) (hl : NumOk l) : RowOr (row2F a b l) := by
  obtain ⟨l0, l1, l2, l3, l4, l5, l6⟩ := lens5
  have := ha.len
  have := hb.len
  have := hl.len
  refine ⟨?_, sp_app (sp_app (sp_app (sp_app (sp_app (by decide +kernel))))), ((((((sg_lit).app (sg_lit)).app (sg_ts _)).app sg_lit).app (sg_ts _)).app sg_lit).app (sg_ts _)⟩
  simp only [row2F, Str.length_append, l0, l2, l3, l4]
  omega
theorem row3_ok {b l : Int} (hb : NumOk b) (hl : NumOk l) : RowOr (row3F b l) := by
  obtain ⟨l0, l1, l2, l3, l4, l5, l6⟩ := lens5
  have := hb.len
  have := hl.len
  refine ⟨?_, sp_app (sp_app (sp_app (by decide +kernel))), ((((sg_lit).app (sg_lit)).app (sg_ts _)).app sg_lit).app (sg_ts _)⟩
  simp only [row3F, Str.length_append, l0, l5, l6]
  omega
section
variable {σ : L2.St} {H : Hp} {ta tb te : TE}
theorem lt_slI {a : Addr} {ns : List Int} {lo hi : Option Int} {t1 t2 : TO} (h : Ev te σ H (.ref a)) (hl : SqL K H a (ns.map V.int)) (h1 : EvO t1 σ H lo) (h2 : EvO t2 σ H hi) : EvLT (tSl (rSlL K) te t1 t2) σ H (cutD (ns.map PyData.int) lo hi) := fun H1 e Q q => h H1 e _ fun H2 e2 => h1 H2 (e.trans e2) _ fun H3 e3 => h2 H3 ((e.trans e2).trans e3) _ fun H4 e4 => by
  have e24 := (e2.trans e3).trans e4
  refine ⟨a, ns.map V.int, rfl, ex_l (e.trans e24) hl, fun p np => q p _ (fresh_back e24 np) (e24.trans (Ex.new np)) ⟨_, upd_same, ?_⟩⟩
  unfold cutD cutV
  rw [List.length_map, List.length_map, ← List.map_drop, ← List.map_drop, ← List.map_take, ← List.map_take]
  exact td_ints _
theorem TdAll.repW {H : Hp} {ds : List PyData} {vs : List V} (h : TdAll H vs ds) : ∀ k : Nat, TdAll H (List.replicate k vs).flatten (List.replicate k ds).flatten
  | 0 => .nil
  | k + 1 => by
    rw [List.replicate_succ, List.replicate_succ, List.flatten_cons, List.flatten_cons]
    exact TdAll.append h (TdAll.repW h k)
theorem lt_repW {ds : List PyData} {k : Int} (ha : EvLT ta σ H ds) (hb : Ev tb σ H (.int k)) (h1 : -100000 ≤ k ∧ k ≤ 100000) (h2 : ds.length * k.toNat ≤ 100000) : EvLT (tOp rRep ta tb) σ H (List.replicate k.toNat ds).flatten := fun H1 e Q q => ha H1 e _ fun l H2 nl e2 hl => hb H2 (e.trans e2) _ fun H3 e3 => by
  obtain ⟨xs, hx, hd⟩ := hl.ex e3
  exact ⟨l, k, xs, rfl, rfl, hx, by omega, by omega, sz_of (by rw [hd.len]; exact h2), fun p np => q p _ (fresh_back (e2.trans e3) np) ((e2.trans e3).trans (Ex.new np)) ⟨_, upd_same, (hd.repW _).ex (Ex.new np)⟩⟩
end
theorem cut_cells {ns : List Int} : (cutD (ns.map PyData.int) (some 3) (some 33)).length ≤ 30 ∧ ∀ d ∈ cutD (ns.map PyData.int) (some 3) (some 33), ∃ c : Int, d = .int c := by
  unfold cutD
  refine ⟨?_, fun d hd => ?_⟩
  · rw [show (some (3 : Int)) = some ((3 : Nat) : Int) from rfl, show (some (33 : Int)) = some ((33 : Nat) : Int) from rfl, HT.sIx_nat, HT.sIx_nat, List.length_take]
    omega
  · obtain ⟨c, _, rfl⟩ := List.mem_map.mp (List.mem_of_mem_drop (List.mem_of_mem_take hd))
    exact ⟨c, rfl⟩
def RowsOr (m : Nat) (rows : List Str) : Prop := rows ≠ [] ∧ rows.length ≤ m ∧ ∀ r ∈ rows, RowOr r
theorem RowsOr.push {m : Nat} {rows : List Str} {r : Str} (h : RowsOr m rows) (hr : RowOr r) : RowsOr (m + 1) (rows ++ [r]) := ⟨by simp, by have := h.2.1; rw [List.length_append, List.length_singleton]; omega, fun x hx => by
  rcases List.mem_append.mp hx with h1 | h1
  · exact h.2.2 x h1
  · simp at h1
    subst h1
    exact hr⟩
theorem RowsOr.rep {m k j : Nat} {rows : List Str} {r : Str} (h : RowsOr m rows) (hr : RowOr r) (hk : k ≤ j) : RowsOr (m + j) (rows ++ List.replicate k r) := ⟨by simp [h.1], by have := h.2.1; rw [List.length_append, List.length_replicate]; omega, fun x hx => by
  rcases List.mem_append.mp hx with h1 | h1
  · exact h.2.2 x h1
  · rw [(List.mem_replicate.mp h1).2]
    exact hr⟩
def cntF (rows : List Str) (lit : Str) (k : Int) : Nat := (rows.filter fun r => decide (cutS r none (some k) = lit)).length
def sp_l_rows (K : PySem.W.Frag) : Sp := fun vs H Q _ => ∃ (a : Addr) (ns : List Int), vs = [.ref a] ∧ SqL K H a (ns.map V.int) ∧ ∀ p rows H2, Ex H H2 → LstT H2 p (rows.map PyData.str) → RowsOr 240 rows → Q (.ref p) H2
theorem ok_l_rows (T : Txt K mg) : Kept P w K mg base 2 "_law_rows" ["_law_script"] (sp_l_rows K) := by
  refine T.d_l_rows.kept sc_l_rows (fun vs H Q E h => ?_) (fun cdv A outer s H vs Q E hr h => ?_)
  · obtain ⟨a, ns, rfl, _⟩ := h
    rfl
  · obtain ⟨a, ns, rfl, hS, q⟩ := h
    refine ⟨_, (pss_cons (ps_set (i := 1) sc_l_rows.nd rfl (Or.inl rfl) (pe_ix (ix_list_K (K := K) rfl) (pe_lst (pa_cons (pe_op op_add pe_int (pe_op op_mod (pe_fn (ok_l_cell_at (K := K) T) (hr.mono (by decide)) passL (by rfl) (pa_cons (pv 0) (pa_cons pe_int pa_nil))) pe_int)) (pa_cons (pe_op op_mod (pe_fn (ok_l_cell_at (K := K) T) (hr.mono (by decide)) passL (by rfl) (pa_cons (pv 0) (pa_cons pe_int pa_nil))) pe_int) (pa_cons pe_int pa_nil)))) (pe_op op_mod (pe_fn (ok_l_cell_at (K := K) T) (hr.mono (by decide)) passL (by rfl) (pa_cons (pv 0) (pa_cons pe_int pa_nil))) pe_int) (fun _ _ => rfl)))
      (pss_cons (ps_set (i := 2) sc_l_rows.nd rfl (Or.inl rfl) (pe_lst (pa_cons (pe_joined (PJ.cons pe_str (PJ.cons (pe_fmt (pv 1)) PJ.nil))) pa_nil)))
      (pss_cons (ps_for (passes_of rfl) rfl (pi_list_K (K := K) rfl (pe_slice (sl_list_K (K := K) rfl) (pv 0) (po_some pe_int) (po_some pe_int))) (pg_name (i := 3) sc_l_rows.nd rfl (Or.inl rfl))
        (pss_cons (ps_set (i := 4) sc_l_rows.nd rfl (Or.inl rfl) (pe_op op_mod (pe_fn (ok_l_mix (K := K) T) (hr.mono (by decide)) passL (by rfl) (pa_cons (pv 3) (pa_cons pe_int pa_nil))) (pe_callB (call_max2 rfl) (by rfl) T.n_max (by decide +kernel) (pa_cons pe_int (pa_cons (pv 1) pa_nil)))))
      (pss_cons (ps_set (i := 5) sc_l_rows.nd rfl (Or.inl rfl) (pe_op op_mod (pe_fn (ok_l_mix (K := K) T) (hr.mono (by decide)) passL (by rfl) (pa_cons (pv 3) (pa_cons pe_int pa_nil))) (pe_callB (call_max2 rfl) (by rfl) T.n_max (by decide +kernel) (pa_cons pe_int (pa_cons (pv 1) pa_nil)))))
      (pss_cons (ps_set (i := 6) sc_l_rows.nd rfl (Or.inl rfl) (pe_op op_mod (pe_fn (ok_l_mix (K := K) T) (hr.mono (by decide)) passL (by rfl) (pa_cons (pv 3) (pa_cons pe_int pa_nil))) pe_int))
      (pss_cut (ps_if (pt_cmpR op_eq (pe_op op_mod (pv 3) pe_int) pe_int (nomark _))
        (pss_one (ps_set (i := 5) sc_l_rows.nd rfl (Or.inl rfl) (pe_ix (ix_list_K (K := K) rfl) (pe_lst (pa_cons (pv 1) (pa_cons (pe_op op_mod (pe_callB call_abs (by rfl) T.n_abs (by decide +kernel) (pa_cons (pv 3) pa_nil)) (pe_op op_pow pe_int pe_int)) pa_nil))) (pe_op op_mod (pe_op op_fdiv (pv 3) pe_int) pe_int) (fun _ _ => rfl))))
        pss_nil)
      (pss_cut (ps_if (pt_cmpR op_eq (pe_op op_mod (pv 3) pe_int) pe_int (nomark _))
        (pss_one (ps_set (i := 6) sc_l_rows.nd rfl (Or.inl rfl) (pe_op op_add pe_int (pe_op op_mod (pe_callB call_abs (by rfl) T.n_abs (by decide +kernel) (pa_cons (pv 3) pa_nil)) (pe_op op_pow pe_int pe_int)))))
        pss_nil)
      (pss_cons (ps_set (i := 7) sc_l_rows.nd rfl (Or.inl rfl) (pe_lst (pa_cons (pe_joined (PJ.cons pe_str (PJ.cons (pe_fmt (pv 4)) (PJ.cons pe_str (PJ.cons (pe_fmt (pv 5)) PJ.nil))))) (pa_cons (pe_joined (PJ.cons pe_str (PJ.cons (pe_fmt (pv 4)) (PJ.cons pe_str (PJ.cons (pe_fmt (pv 5)) (PJ.cons pe_str (PJ.cons (pe_fmt (pv 6)) PJ.nil))))))) (pa_cons (pe_joined (PJ.cons pe_str (PJ.cons (pe_fmt (pv 6)) (PJ.cons pe_str (PJ.cons (pe_fmt (pv 5)) PJ.nil))))) pa_nil)))))
      (pss_one (ps_expr (pe_bm_K (K := K) rfl PySem.F.plainAttrs_list PySem.F.slot_list_append PySem.F.type_list_append mt_append (pv 2) (pa_cons (pe_ix (ix_list_K (K := K) rfl) (pv 7) (pe_op op_mod (pv 3) pe_int) (fun _ _ => rfl)) pa_nil)))))))))))
      (pss_cons (ps_set (i := 8) sc_l_rows.nd rfl (Or.inl rfl) (pe_callB (call_len_seq_K (K := K) rfl) (by rfl) T.n_len (by decide +kernel) (pa_cons (pe_lc (own := [("_law_row", 11)]) (g := gName 11) rfl sc_l_rows.nd (pi_list_K (K := K) rfl (pv 2)) (blkOk_by (own := [("_law_row", 11)]) (N := ["_law_script", "_law_size", "_law_made", "_law_cell", "_law_one", "_law_other", "_law_lock", "_law_some", "_law_doors", "_law_lying", "_law_pick", "_law_row"]) (sc := defScope s_l_rows) (by decide +kernel)) (fun _ _ _ _ _ => (pg_name (i := 11) sc_l_rows.nd rfl (Or.inl rfl))) (fun _ _ _ _ _ => pts_one (pt_cmpR op_eq (pe_slice sl_str (pv 11) po_none (po_some pe_int)) pe_str (nomark _))) (fun _ _ _ _ _ => (pv 11))) pa_nil)))
      (pss_cons (ps_set (i := 9) sc_l_rows.nd rfl (Or.inl rfl) (pe_callB (call_len_seq_K (K := K) rfl) (by rfl) T.n_len (by decide +kernel) (pa_cons (pe_lc (own := [("_law_row", 11)]) (g := gName 11) rfl sc_l_rows.nd (pi_list_K (K := K) rfl (pv 2)) (blkOk_by (own := [("_law_row", 11)]) (N := ["_law_script", "_law_size", "_law_made", "_law_cell", "_law_one", "_law_other", "_law_lock", "_law_some", "_law_doors", "_law_lying", "_law_pick", "_law_row"]) (sc := defScope s_l_rows) (by decide +kernel)) (fun _ _ _ _ _ => (pg_name (i := 11) sc_l_rows.nd rfl (Or.inl rfl))) (fun _ _ _ _ _ => pts_one (pt_cmpR op_eq (pe_slice sl_str (pv 11) po_none (po_some pe_int)) pe_str (nomark _))) (fun _ _ _ _ _ => (pv 11))) pa_nil)))
      (pss_cons (ps_set (i := 10) sc_l_rows.nd rfl (Or.inl rfl) (pe_fn (ok_l_cell_at (K := K) T) (hr.mono (by decide)) passL (by rfl) (pa_cons (pv 0) (pa_cons pe_int pa_nil))))
      (pss_cut (ps_if (pt_cmpR (op_in_seq_K (K := K) rfl) (pe_op op_mod (pv 10) pe_int) (pe_tup (pa_cons pe_int (pa_cons pe_int pa_nil))) (by rfl))
        (pss_one (ps_set (i := 2) sc_l_rows.nd rfl (Or.inl rfl) (pe_op op_cat (pv 2) (pe_op op_rep (pe_lst (pa_cons pe_str pa_nil)) (pe_op op_add (pe_op op_sub pe_int (pv 8)) (pe_op op_mod (pe_op op_fdiv (pv 10) pe_int) pe_int))))))
        pss_nil)
      (pss_cut (ps_if (pt_cmpR (op_in_seq_K (K := K) rfl) (pe_op op_mod (pv 10) pe_int) (pe_tup (pa_cons pe_int (pa_cons pe_int pa_nil))) (by rfl))
        (pss_one (ps_set (i := 2) sc_l_rows.nd rfl (Or.inl rfl) (pe_op op_cat (pv 2) (pe_op op_rep (pe_lst (pa_cons pe_str pa_nil)) (pe_op op_add (pe_op op_sub pe_int (pv 9)) (pe_op op_mod (pe_op op_fdiv (pv 10) pe_int) pe_int))))))
        pss_nil)
      (pss_one (ps_ret (pv 2))))))))))), ?_⟩
    have cell : ∀ {σ : L2.St} {H' : Hp} {k : Int} {E : XK}, Ex H H' → σ[0]? = some (some (.ref a)) → 0 ≤ k → Ev (tCall (sp_l_cell_at K) [] E (tCons (tVar 0) (tCons (tC (.int k)) tNil))) σ H' (.int (cellAt ns k)) := fun e h h0 => ev_call0 (ea_cons (ev_var h) (ea_cons ev_c ea_nil)) (sv_l_cell_at (ex_l e hS) h0)
    obtain ⟨c0, ec0⟩ : ∃ c0, cellAt ns 0 = c0 := ⟨_, rfl⟩
    obtain ⟨c1, ec1⟩ : ∃ c1, cellAt ns 1 = c1 := ⟨_, rfl⟩
    have hsz0 : ∃ sz : Int, ([1 + c0 % 60, c0 % 63, 60] : List Int).getD (c1 % 3).toNat 0 = sz ∧ 0 ≤ sz ∧ sz < 100 := by
      refine ⟨_, rfl, ?_⟩
      rcases (show c1 % 3 = 0 ∨ c1 % 3 = 1 ∨ c1 % 3 = 2 by omega) with h | h | h <;> rw [h]
      · show 0 ≤ 1 + c0 % 60 ∧ 1 + c0 % 60 < 100
        omega
      · show 0 ≤ c0 % 63 ∧ c0 % 63 < 100
        omega
      · show (0 : Int) ≤ 60 ∧ (60 : Int) < 100
        omega
    obtain ⟨sz, esz, hsz⟩ := hsz0
    refine q_asg (v := .int sz) (by
      rw [← esz, ← ec0, ← ec1]
      exact ev_ixInts (xs := [1 + cellAt ns 0 % 60, cellAt ns 0 % 63, 60]) (ea_tc (td_int (ev_op ev_c (ev_op (cell (Ex.refl _) rfl (by decide)) ev_c (rv_I (by decide))) rv_I0)) (ea_tc (td_int (ev_op (cell (Ex.refl _) rfl (by decide)) ev_c (rv_I (by decide)))) (ea_tc (td_int ev_c) ea_tn))) (ev_op (cell (Ex.refl _) rfl (by decide)) ev_c (rv_I (by decide))) (by omega) (by simp only [List.length_cons, List.length_nil]; omega)) fun H1 e1 => ?_
    have nsz := num_lt hsz.1 (by omega)
    refine q_asgLT (ds := [row0F sz].map PyData.str) (lt_lst (ea_tc (td_str (ev_joined (ej_cons ev_c (by decide +kernel) (ej_cons (ev_fmtI (ev_var rfl) nsz.small) (by have := (row0_ok nsz).1; unfold row0F at this; omega) ej_nil)))) ea_tn) (by simp)) fun mp H2 nm e2 hmp => ?_
    have e12 := e1.trans e2
    have nmH : H mp = none := fresh_back e1 nm
    obtain ⟨hcl, hci⟩ := cut_cells (ns := ns)
    obtain ⟨cells, ecells⟩ : ∃ cells, cutD (ns.map PyData.int) (some 3) (some 33) = cells := ⟨_, rfl⟩
    rw [ecells] at hcl hci
    obtain ⟨mx, emx, hmx⟩ : ∃ mx : Int, (if sz > 1 then sz else 1) = mx ∧ 0 < mx ∧ mx < 100 := ⟨_, rfl, by split <;> omega⟩
    refine q_forEL (K := K) (g := gName 3) (ds := cells) (by rw [← ecells]; exact lt_slI (ev_var rfl) (ex_l e12 hS) (eo_some ev_c) (eo_some ev_c)) fun pp xs H3 npp e3 hpp hpd => ⟨fun i σ' H' => Ex H H' ∧ H' pp = some (.lst xs) ∧ Tk H3 H' ∧ ∃ (y3 y4 y5 y6 y7 : Option V) (rows : List Str), σ' = [some (.ref a), some (.int sz), some (.ref mp), y3, y4, y5, y6, y7, none, none, none, none] ∧ LstT H' mp (rows.map PyData.str) ∧ RowsOr (i + 1) rows, ⟨e12.trans e3, hpp, Tk.refl _, none, none, none, none, none, _, rfl, hmp.ex e3, by simp, by simp, fun r hr => by simp at hr; subst hr; exact row0_ok nsz⟩, fun i σ' H' h => ⟨h.2.1, h.2.2.1⟩, fun i d x σ' H' hdi hx hP => ?_, fun σ' H' hP => ?_⟩
    · obtain ⟨eH, hpp', tk, y3, y4, y5, y6, y7, rows, rfl, hL, hRo⟩ := hP
      obtain ⟨c, rfl⟩ := hci d (List.mem_of_getElem? hdi)
      have hil : i < 30 := by have := (List.getElem?_eq_some_iff.mp hdi).1; omega
      cases hx
      have hne : pp ≠ mp := fun z => by
        subst z
        obtain ⟨ys, hys, _⟩ := hmp
        rw [hys] at npp
        cases npp
      have mix0 : ∀ {σ : L2.St} {H2 : Hp} {k : Int} {E : XK}, σ[3]? = some (some (.int c)) → Ev (tCall (sp_l_mix K) [] E (tCons (tVar 3) (tCons (tC (.int k)) tNil))) σ H2 (.int (mix c k)) := fun h => ev_call0 (ea_cons (ev_var h) (ea_cons ev_c ea_nil)) sv_l_mix
      have a0 := Int.emod_nonneg (mix c 0) (show mx ≠ 0 by omega)
      have a1 := Int.emod_lt_of_pos (mix c 0) hmx.1
      have b0 := Int.emod_nonneg (mix c 1) (show mx ≠ 0 by omega)
      have b1 := Int.emod_lt_of_pos (mix c 1) hmx.1
      have l0 := Int.emod_nonneg (mix c 2) (show (5 : Int) ≠ 0 by decide)
      have l1 := Int.emod_lt_of_pos (mix c 2) (show (0 : Int) < 5 by decide)
      obtain ⟨one, eone⟩ : ∃ one, mix c 0 % mx = one := ⟨_, rfl⟩
      obtain ⟨oth, eoth⟩ : ∃ oth, mix c 1 % mx = oth := ⟨_, rfl⟩
      obtain ⟨lk, elk⟩ : ∃ lk, mix c 2 % 5 = lk := ⟨_, rfl⟩
      rw [eone] at a0 a1
      rw [eoth] at b0 b1
      rw [elk] at l0 l1
      have n1 : NumOk one := num_lt a0 (by omega)
      have n2 : NumOk oth := num_lt b0 (by omega)
      have n3 : NumOk lk := num_lt l0 (by omega)
      show tSeq _ _ _ _ _
      refine q_asg (v := .int one) (by rw [← eone, ← emx]; exact ev_op (mix0 rfl) (ev_max2 ev_c (ev_var rfl)) (rv_I (by rw [emx]; exact hmx.1))) fun H4 e4 => ?_
      refine q_asg (v := .int oth) (by rw [← eoth, ← emx]; exact ev_op (mix0 rfl) (ev_max2 ev_c (ev_var rfl)) (rv_I (by rw [emx]; exact hmx.1))) fun H5 e5 => ?_
      refine q_asg (v := .int lk) (by rw [← elk]; exact ev_op (mix0 rfl) ev_c (rv_I (by decide))) fun H6 e6 => ?_
      have e46 := (e4.trans e5).trans e6
      have hab : ∃ ab : Int, (if c < 0 then -c else c) = ab ∧ 0 ≤ ab := ⟨_, rfl, by split <;> omega⟩
      obtain ⟨ab, eab, hab⟩ := hab
      have evab : ∀ {σ : L2.St} {H2 : Hp}, σ[3]? = some (some (.int c)) → Ev (tCB (fun xs H Q => ∃ i, xs = [.int i] ∧ Q (.int (if i < 0 then -i else i)) H) (tCons (tVar 3) tNil)) σ H2 (.int ab) := fun h => by
        rw [← eab]
        exact ev_abs (ev_var h)
      refine q_cut (M := fun σ' H7 => Ex H6 H7 ∧ ∃ o2, NumOk o2 ∧ σ' = [some (.ref a), some (.int sz), some (.ref mp), some (.int c), some (.int one), some (.int o2), some (.int lk), y7, none, none, none, none]) ?_ fun σ' H7 hM => ?_
      · refine s_when (b := decide (c % 29 = 28)) (et_test (ev_op (ev_op (ev_var rfl) ev_c (rv_I (by decide))) ev_c rv_eqI)) (fun hb H7 e7 => ?_) (fun hb H7 e7 => ⟨e7, oth, n2, rfl⟩)
        have hx0 : ∃ o2 : Int, ([sz, ab % 10 ^ 59] : List Int).getD (c / 29 % 2).toNat 0 = o2 ∧ NumOk o2 := by
          refine ⟨_, rfl, ?_⟩
          rcases (show c / 29 % 2 = 0 ∨ c / 29 % 2 = 1 by omega) with h | h <;> rw [h]
          · exact nsz
          · have h1 := Int.emod_nonneg ab (show (10 ^ 59 : Int) ≠ 0 by decide)
            have h2 := Int.emod_lt_of_pos ab (show (0 : Int) < 10 ^ 59 by decide)
            exact ⟨h1, Int.lt_trans h2 (by decide)⟩
        obtain ⟨o2, eo2, no2⟩ := hx0
        refine s_asg (v := .int o2) ?_ fun H8 e8 => ⟨e7.trans e8, o2, no2, rfl⟩
        rw [← eo2]
        exact ev_ixInts (xs := [sz, ab % 10 ^ 59]) (ea_tc (td_int (ev_var rfl)) (ea_tc (td_int (ev_op (evab rfl) (ev_op ev_c ev_c (rv_I ⟨by decide, by decide, by decide⟩)) (rv_I (by decide)))) ea_tn)) (ev_op (ev_op (ev_var rfl) ev_c (rv_I ⟨by decide, by decide⟩)) ev_c (rv_I (by decide))) (by omega) (by simp only [List.length_cons, List.length_nil]; omega)
      obtain ⟨e67, o2, no2, rfl⟩ := hM
      refine q_cut (M := fun σ' H8 => Ex H6 H8 ∧ ∃ l2, NumOk l2 ∧ σ' = [some (.ref a), some (.int sz), some (.ref mp), some (.int c), some (.int one), some (.int o2), some (.int l2), y7, none, none, none, none]) ?_ fun σ' H8 hM => ?_
      · refine s_when (b := decide (c % 31 = 30)) (et_test (ev_op (ev_op (ev_var rfl) ev_c (rv_I (by decide))) ev_c rv_eqI)) (fun hb H8 e8 => ?_) (fun hb H8 e8 => ⟨e67.trans e8, lk, n3, rfl⟩)
        have h1 := Int.emod_nonneg ab (show (10 ^ 58 : Int) ≠ 0 by decide)
        have h2 := Int.emod_lt_of_pos ab (show (0 : Int) < 10 ^ 58 by decide)
        refine s_asg (v := .int (5 + ab % 10 ^ 58)) (ev_op ev_c (ev_op (evab rfl) (ev_op ev_c ev_c (rv_I ⟨by decide, by decide, by decide⟩)) (rv_I (by decide))) rv_I0) fun H9 e9 => ⟨(e67.trans e8).trans e9, _, ⟨by omega, ?_⟩, rfl⟩
        have h3 : 5 + ab % 10 ^ 58 < 5 + 10 ^ 58 := Int.add_lt_add_left h2 5
        exact Int.lt_trans h3 (by decide)
      obtain ⟨e68, l2, nl2, rfl⟩ := hM
      have r1 := row1_ok n1 no2
      have r2 := row2_ok n1 no2 nl2
      have r3 := row3_ok no2 nl2
      obtain ⟨z0, z1, z2, z3, z4, z5, z6⟩ := lens5
      have t1 := n1.len
      have t2 := no2.len
      have t3 := nl2.len
      refine q_asgLT (ds := [row1F one o2, row2F one o2 l2, row3F o2 l2].map PyData.str) (lt_lst (ea_tc (td_str (ev_joined (ej_cons ev_c ?_ (ej_cons (ev_fmtI (ev_var rfl) n1.small) ?_ (ej_cons ev_c ?_ (ej_cons (ev_fmtI (ev_var rfl) no2.small) ?_ ej_nil)))))) (ea_tc (td_str (ev_joined (ej_cons ev_c ?_ (ej_cons (ev_fmtI (ev_var rfl) n1.small) ?_ (ej_cons ev_c ?_ (ej_cons (ev_fmtI (ev_var rfl) no2.small) ?_ (ej_cons ev_c ?_ (ej_cons (ev_fmtI (ev_var rfl) nl2.small) ?_ ej_nil)))))))) (ea_tc (td_str (ev_joined (ej_cons ev_c ?_ (ej_cons (ev_fmtI (ev_var rfl) nl2.small) ?_ (ej_cons ev_c ?_ (ej_cons (ev_fmtI (ev_var rfl) no2.small) ?_ ej_nil)))))) ea_tn))) (by simp)) fun sp H9 ns9 e9 hsp => ?_
      all_goals first | (simp only [Str.length_append, z0, z2, z3, z4, z5, z6]; omega) | skip
      have e49 := (e46.trans e68).trans e9
      have hc3 : ∃ r : Str, RowOr r ∧ atI ([row1F one o2, row2F one o2 l2, row3F o2 l2].map PyData.str) (c % 3) = some (.str r) := by
        rcases (show c % 3 = 0 ∨ c % 3 = 1 ∨ c % 3 = 2 by omega) with h | h | h <;> rw [h]
        · exact ⟨_, r1, atI0⟩
        · exact ⟨_, r2, atI1⟩
        · exact ⟨_, r3, atI2⟩
      obtain ⟨r, hr, hat⟩ := hc3
      refine s_appT (K := K) (d := .str r) (hL.ex e49) (ev_var rfl) (td_ixLV (ev_var rfl) hsp (ev_op (ev_var rfl) ev_c (rv_I (by decide))) hat) (by rw [List.length_map]; have := hRo.2.1; omega) fun H10 zs v e10 hzs hl => ?_
      have e410 := e49.trans e10
      refine ⟨Ex.mut (eH.trans e410) nmH, ?_, (tk.trans (Tk.ex e410)).trans (Tk.lst hzs), _, _, _, _, _, rows ++ [r], rfl, ?_, hRo.push hr⟩
      · rw [L2.upd_ne hne]
        exact e410 _ _ hpp'
      · rw [List.map_append]
        exact hl
    · obtain ⟨eH, _, _, y3, y4, y5, y6, y7, rows, rfl, hL, hRo⟩ := hP
      have hRo31 : RowsOr 31 rows := ⟨hRo.1, by have := hRo.2.1; omega, hRo.2.2⟩
      have hcnt : ∀ (lit : Str) (k : Int) (y8 : Option V) {H2 : Hp}, Ex H' H2 → Ev (tCB (fun xs H Q => ∃ p ys, xs = [.ref p] ∧ (SqL K H p ys ∨ SqT K H p ys) ∧ Q (.int ys.length) H) (tCons (tLc (iList K (tVar 2)) (gName 11) (tTest (tOp rEq (tSl rSlS (tVar 11) tNoPart (tPart (tC (.int k)))) (tC (.str lit)))) (tVar 11) [11]) tNil)) [some (.ref a), some (.int sz), some (.ref mp), y3, y4, y5, y6, y7, y8, none, none, none] H2 (.int (cntF rows lit k : Int)) := fun lit k y8 H2 e => by
        refine ev_is (ev_lenD (K := K) (ed_lt (lt_lcT (K := K) (vs := [11]) (g := gName 11) (Dd := PyData.str) (xs := rows) (fun r => decide (cutS r none (some k) = lit)) PyData.str (ev_var rfl) (hL.ex e) (by have := hRo31.2.1; omega) (fun r hr x H3 e3 hx Q3 q3 => ?_))) (.inl rfl)) (by rw [List.length_map]; rfl)
        cases hx
        exact q3 _ rfl (et_test (ev_op (ev_slS (ev_var rfl) eo_none (eo_some ev_c) (by have := (hRo31.2.2 r hr).1; omega)) ev_c rv_eqS)) fun _ => td_str (ev_var rfl)
      have hcl31 : ∀ lit k, cntF rows lit k ≤ 31 := fun lit k => Nat.le_trans (List.length_filter_le _ _) hRo31.2.1
      obtain ⟨nd, end_⟩ : ∃ nd, cntF rows "door" 4 = nd := ⟨_, rfl⟩
      obtain ⟨nk, enk⟩ : ∃ nk, cntF rows "key" 3 = nk := ⟨_, rfl⟩
      have hnd : nd ≤ 31 := by rw [← end_]; exact hcl31 _ _
      have hnk : nk ≤ 31 := by rw [← enk]; exact hcl31 _ _
      refine q_asg (v := .int (nd : Int)) (by rw [← end_]; exact hcnt "door" 4 none (Ex.refl _)) fun H4 e4 => ?_
      refine q_asg (v := .int (nk : Int)) (by rw [← enk]; exact hcnt "key" 3 _ e4) fun H5 e5 => ?_
      have eH5 := (eH.trans e4).trans e5
      refine q_asg (v := .int c1) (by rw [← ec1]; exact cell eH5 rfl (by decide)) fun H6 e6 => ?_
      have eH6 := eH5.trans e6
      have hL6 := hL.ex ((e4.trans e5).trans e6)
      have more : ∀ {σ : L2.St} {H7 : Hp} {p2 : Addr} {rows2 : List Str} {m : Nat} {r : Str} {tk : TE} {kk : Int}, σ[2]? = some (some (.ref p2)) → LstT H7 p2 (rows2.map PyData.str) → RowsOr m rows2 → m ≤ 1000 → Ev tk σ H7 (.int kk) → 0 ≤ kk → kk ≤ 1000 → EvLT (tOp rCat (tVar 2) (tOp rRep (tLst (tCons (tC (.str r)) tNil)) tk)) σ H7 ((rows2 ++ List.replicate kk.toNat r).map PyData.str) := fun hv hl hr hm hk h0 h1 => by
        rename_i rows2 m r tk kk
        have hfl : (List.replicate kk.toNat [PyData.str r]).flatten = List.replicate kk.toNat (PyData.str r) := by simp
        rw [List.map_append, List.map_replicate, ← hfl]
        exact lt_cat (ev_var hv) hl (lt_repW (lt_lst (ea_tc (td_str ev_c) ea_tn) (by simp)) hk ⟨by omega, by omega⟩ (by simp only [List.length_cons, List.length_nil]; omega)) (by rw [hfl, List.length_map, List.length_replicate]; have := hr.2.1; omega)
      have rd : RowOr "door 0 0" := ⟨by decide +kernel, by decide +kernel, sg_lit⟩
      have rk : RowOr "key 4 in 0" := ⟨by decide +kernel, by decide +kernel, sg_lit⟩
      refine q_cut (M := fun σ' H7 => Ex H H7 ∧ ∃ p2 rows2, σ' = [some (.ref a), some (.int sz), some (.ref p2), y3, y4, y5, y6, y7, some (.int (nd : Int)), some (.int (nk : Int)), some (.int c1), none] ∧ LstT H7 p2 (rows2.map PyData.str) ∧ RowsOr 131 rows2) ?_ fun σ' H7 hM => ?_
      · refine s_when (b := decide (c1 % 7 ∈ [5, 6])) (et_test (ev_in2 (ev_op (ev_var rfl) ev_c (rv_I (by decide))))) (fun hb H7 e7 => ?_) (fun hb H7 e7 => ⟨eH6.trans e7, mp, rows, rfl, hL6.ex e7, hRo31.1, by have := hRo31.2.1; omega, hRo31.2.2⟩)
        refine s_asgLT (more (kk := 90 - (nd : Int) + c1 / 7 % 2) rfl (hL6.ex e7) hRo31 (by omega) (ev_op (ev_op ev_c (ev_var rfl) rv_I0) (ev_op (ev_op (ev_var rfl) ev_c (rv_I ⟨by decide, by decide⟩)) ev_c (rv_I (by decide))) rv_I0) (by omega) (by omega)) fun p2 H8 n8 e8 hp2 => ⟨(eH6.trans e7).trans e8, p2, _, rfl, hp2, hRo31.rep (j := 100) rd (by omega)⟩
      obtain ⟨eH7, p2, rows2, rfl, hL7, hRo7⟩ := hM
      refine q_cut (M := fun σ' H8 => Ex H H8 ∧ ∃ p3 rows3, σ' = [some (.ref a), some (.int sz), some (.ref p3), y3, y4, y5, y6, y7, some (.int (nd : Int)), some (.int (nk : Int)), some (.int c1), none] ∧ LstT H8 p3 (rows3.map PyData.str) ∧ RowsOr 201 rows3) ?_ fun σ' H8 hM => ?_
      · refine s_when (b := decide (c1 % 7 ∈ [4, 6])) (et_test (ev_in2 (ev_op (ev_var rfl) ev_c (rv_I (by decide))))) (fun hb H8 e8 => ?_) (fun hb H8 e8 => ⟨eH7.trans e8, p2, rows2, rfl, hL7.ex e8, hRo7.1, by have := hRo7.2.1; omega, hRo7.2.2⟩)
        refine s_asgLT (more (kk := 60 - (nk : Int) + c1 / 14 % 2) rfl (hL7.ex e8) hRo7 (by omega) (ev_op (ev_op ev_c (ev_var rfl) rv_I0) (ev_op (ev_op (ev_var rfl) ev_c (rv_I ⟨by decide, by decide⟩)) ev_c (rv_I (by decide))) rv_I0) (by omega) (by omega)) fun p3 H9 n9 e9 hp3 => ⟨(eH7.trans e8).trans e9, p3, _, rfl, hp3, hRo7.rep (j := 70) rk (by omega)⟩
      obtain ⟨eH8, p3, rows3, rfl, hL8, hRo8⟩ := hM
      exact s_ret (ev_var rfl) fun H9 e9 => q p3 rows3 H9 (eH8.trans e9) (hL8.ex e9) ⟨hRo8.1, by have := hRo8.2.1; omega, hRo8.2.2⟩
theorem ep_rows {σ : L2.St} {H : Hp} {ta : TE} {E : XK} {a : Addr} {ns : List Int} (h : Ev ta σ H (.ref a)) (hS : SqL K H a (ns.map V.int)) : EvP (tCall (sp_l_rows K) [] E (tCons ta tNil)) σ H fun v H' => ∃ p rows, v = .ref p ∧ LstT H' p (rows.map PyData.str) ∧ RowsOr 240 rows := ep_call0 (Pa := fun vs _ => vs = [.ref a]) (fun H1 e Q q => (ea_cons h ea_nil) H1 e _ fun H2 e2 => q _ H2 e2 rfl) fun vs H1 e hv Q q => ⟨a, ns, hv, ex_l e hS, fun p rows H2 e2 hp hr => q _ H2 e2 ⟨p, rows, rfl, hp, hr⟩⟩
end

/-! ### split and join of one row -/
theorem pre_self (c : Nat) (r : List Nat) : TL.pre [c] (c :: r) = true := by simp [TL.pre]
theorem spl_sum2 {c : Nat} : ∀ {l acc : List Nat}, ((TL.spl [c] 0 acc l).map List.length).sum + (TL.spl [c] 0 acc l).length = acc.length + l.length + 1
  | [], acc => by simp [TL.spl]
  | d :: r, acc => by
    rw [TL.spl]
    split
    · have h := spl_sum2 (c := c) (l := r) (acc := [])
      simp only [List.map_cons, List.sum_cons, List.length_cons, List.length_nil, Nat.sub_self] at h ⊢
      omega
    · have h := spl_sum2 (c := c) (l := r) (acc := acc ++ [d])
      simp only [List.length_append, List.length_cons, List.length_nil] at h ⊢
      omega
theorem spl_two {c : Nat} : ∀ {l acc : List Nat}, c ∈ l → 2 ≤ (TL.spl [c] 0 acc l).length
  | [], acc, h => by cases h
  | d :: r, acc, h => by
    rw [TL.spl]
    split
    · have h1 := PyProof.Rows.split_pos (SX.S r) ⟨#[c]⟩
      have h2 : 1 ≤ (TL.spl [c] 0 [] r).length := by
        cases hr : TL.spl [c] 0 [] r with
        | nil =>
          have h3 := spl_sum2 (c := c) (l := r) (acc := [])
          rw [hr] at h3
          simp at h3
        | cons a b => simp
      simp only [List.length_cons, List.length_nil, Nat.sub_self] at h2 ⊢
      omega
    · rename_i hp
      rcases List.mem_cons.mp h with h | h
      · subst h
        exact absurd (pre_self _ _) hp
      · exact spl_two h
theorem words_sum2 (x : Str) : ((wordsF x).map (·.length)).sum + (wordsF x).length = x.length + 1 := by
  have e := split_codes (c := 32) (by decide) x
  rw [← sp_eq] at e
  have h := spl_sum2 (c := 32) (l := cs x) (acc := [])
  rw [← e, List.map_map, List.length_map] at h
  have e2 : ((wordsF x).map (·.length)) = (wordsF x).map (List.length ∘ cs) := List.map_congr_left fun a _ => (cs_len a).symm
  rw [e2]
  have e3 : (cs x).length = x.length := cs_len x
  rw [e3] at h
  simpa using h
theorem words_two {x : Str} (h : 32 ∈ cs x) : 2 ≤ (wordsF x).length := by
  have e := split_codes (c := 32) (by decide) x
  rw [← sp_eq] at e
  have h2 := spl_two (c := 32) (acc := []) h
  rw [← e, List.length_map] at h2
  exact h2
theorem join_ok {sep : Str} (hs : SgOk sep) : ∀ {xs : List Str}, (∀ x ∈ xs, SgOk x) → SgOk (Str.join sep xs)
  | [], _ => fun c hc => by
    have : c ∈ cs (Str.empty) := hc
    have e : cs Str.empty = [] := by decide
    rw [e] at this
    cases this
  | [a], h => h a (by simp)
  | a :: b :: r, h => by
    show SgOk (a ++ sep ++ Str.join sep (b :: r))
    exact ((h a (by simp)).app hs).app (join_ok hs fun x hx => h x (List.mem_cons_of_mem _ hx))
theorem join_len2 {sep : Str} : ∀ xs : List Str, (Str.join sep xs).length ≤ (xs.map (·.length)).sum + (xs.length - 1) * sep.length
  | [] => by
    show (Str.empty).length ≤ _
    have e : (Str.empty).length = 0 := by decide
    rw [e]
    exact Nat.zero_le _
  | [a] => by
    show a.length ≤ _
    simp
  | a :: b :: r => by
    show (a ++ sep ++ Str.join sep (b :: r)).length ≤ _
    have h := join_len2 (sep := sep) (b :: r)
    simp only [Str.length_append, List.map_cons, List.sum_cons, List.length_cons, Nat.add_sub_cancel, Nat.succ_mul] at h ⊢
    omega
/-- the words of a row, joined again -/
def WordsOk (ws : List Str) : Prop := (∀ x ∈ ws, SgOk x) ∧ (ws.map (·.length)).sum + ws.length ≤ 250
theorem WordsOk.row {ws : List Str} (h : WordsOk ws) : RowOk (Txt.join " " ws) := by
  rw [join_eq]
  refine ⟨?_, join_ok sg_lit h.1⟩
  have h1 := join_len2 (sep := " ") ws
  have h2 : (" " : Str).length = 1 := by decide +kernel
  rw [h2] at h1
  have := h.2
  omega
theorem words_ok {r : Str} (h : RowOr r) : WordsOk (wordsF r) := ⟨fun x hx c hc => h.2.2 c (words_sub hx c hc), by have := words_sum2 r; have := h.1; omega⟩
theorem sum_set : ∀ {l : List Nat} {i a : Nat}, (l.set i a).sum ≤ l.sum + a
  | [], i, a => by simp
  | x :: r, 0, a => by simp only [List.set_cons_zero, List.sum_cons]; omega
  | x :: r, i + 1, a => by
    have := sum_set (l := r) (i := i) (a := a)
    simp only [List.set_cons_succ, List.sum_cons]
    omega
theorem sum_set2 : ∀ {l : List Nat} {i a : Nat} (h : i < l.length), (l.set i a).sum + l[i] = l.sum + a
  | [], i, a, h => by simp at h
  | x :: r, 0, a, h => by simp only [List.set_cons_zero, List.sum_cons, List.getElem_cons_zero]; omega
  | x :: r, i + 1, a, h => by
    have := sum_set2 (l := r) (i := i) (a := a) (by simpa using h)
    simp only [List.set_cons_succ, List.sum_cons, List.getElem_cons_succ]
    omega
theorem words_zero {r : Str} (h : RowOr r) {i : Nat} (hi : i < (wordsF r).length) : WordsOk ((wordsF r).set i (("0" : Str) ++ (wordsF r).getD i "")) := by
  have h0 := words_ok h
  have hm : (wordsF r).getD i "" ∈ wordsF r := by
    rw [List.getD_eq_getElem?_getD, List.getElem?_eq_getElem hi]
    exact List.getElem_mem hi
  refine ⟨fun x hx => ?_, ?_⟩
  · rcases List.mem_or_eq_of_mem_set hx with h1 | h1
    · exact h0.1 x h1
    · rw [h1]
      exact (sg_lit).app (h0.1 _ hm)
  · rw [List.map_set, List.length_set]
    have h1 := sum_set2 (l := (wordsF r).map (·.length)) (i := i) (a := (("0" : Str) ++ (wordsF r).getD i "").length) (by rw [List.length_map]; exact hi)
    have h2 := words_sum2 r
    have h3 := h.1
    have h4 : ((wordsF r).map (·.length))[i]'(by rw [List.length_map]; exact hi) = ((wordsF r).getD i "").length := by
      rw [List.getElem_map, List.getD_eq_getElem?_getD, List.getElem?_eq_getElem hi]
      rfl
    have h5 : ("0" : Str).length = 1 := by decide +kernel
    have h6 : (("0" : Str) ++ (wordsF r).getD i "").length = 1 + ((wordsF r).getD i "").length := by rw [Str.length_append, h5]
    rw [h4] at h1
    omega
theorem cs_cut (z : Str) (lo hi : Option Int) : (∀ c ∈ cs (cutS z lo hi), c ∈ cs z) ∧ (cutS z lo hi).length ≤ z.length := by
  have e : cs (cutS z lo hi) = ((cs z).drop (HT.sIx z.length 0 lo)).take (HT.sIx z.length z.length hi - HT.sIx z.length 0 lo) := rfl
  refine ⟨fun c hc => ?_, ?_⟩
  · rw [e] at hc
    exact List.mem_of_mem_drop (List.mem_of_mem_take hc)
  · have h1 : (cs z).length = z.length := cs_len z
    have h2 : (cs (cutS z lo hi)).length = (cutS z lo hi).length := cs_len _
    rw [e, List.length_take, List.length_drop] at h2
    omega
theorem sg_cut {z : Str} {lo hi : Option Int} (h : SgOk z) : SgOk (cutS z lo hi) := fun c hc => h c ((cs_cut z lo hi).1 c hc)
theorem sg_one {k : Nat} (h : SignOk k) : SgOk ⟨#[k]⟩ := fun c hc => by
  have : c = k := by simpa using hc
  rw [this]
  exact h
theorem len_one (k : Nat) : (⟨#[k]⟩ : Str).length = 1 := rfl
theorem RowsOr.ok {m : Nat} {rows : List Str} (h : RowsOr m rows) (hm : m ≤ 250) : RowsOk2 rows := ⟨h.1, by have := h.2.1; omega, fun r hr => (h.2.2 r hr).ok⟩
theorem RowsOk2.set {rows : List Str} {i : Nat} {r : Str} (h : RowsOk2 rows) (hr : RowOk r) : RowsOk2 (rows.set i r) := ⟨by
  have := h.1
  intro z
  exact this (by simpa using z), by rw [List.length_set]; exact h.2.1, fun x hx => by
  rcases List.mem_or_eq_of_mem_set hx with h1 | h1
  · exact h.2.2 x h1
  · rw [h1]; exact hr⟩
theorem res_chk {rows : List Str} {n : Int} {ds : List Door} {ks : List Key2} (h : resF rows = .ok n ds ks) : chk n ds ks = none := by
  unfold resF at h
  split at h
  · cases h
  · split at h
    · rename_i hc
      cases h
      exact hc
    · cases h
theorem chk_len {n : Int} {ds : List Door} {ks : List Key2} (h : chk n ds ks = none) : ds.length ≤ 90 ∧ ks.length ≤ 60 := by
  unfold chk at h
  split at h
  · cases h
  · split at h
    · cases h
    · rename_i h2
      omega

section
variable {P : Program} {w : World} {K : PySem.W.Frag} {mg : Str → Option Value} {base : Heap}
section
variable {σ : L2.St} {H : Hp} {ta tb te to ti : TE} {tr : TA} {D : Ends}
/-- xs[i] = a text -/
theorem s_setStr {l : Addr} {i : Nat} {Pr : Str → Prop} {rows : List Str} (hl : LstT H l (rows.map PyData.str)) (hv : EvP te σ H fun v _ => ∃ x, Pr x ∧ v = .str x) (ho : Ev to σ H (.ref l)) (hi : Ev ti σ H (.int (i : Int))) (hin : i < rows.length) (k : ∀ H1 xs ys x, Pr x → Ex H H1 → H1 l = some (.lst xs) → LstT (upd H1 l (.lst ys)) l ((rows.set i x).map PyData.str) → D.nx σ (upd H1 l (.lst ys))) : tAsg te (gSub to ti rSetL) D σ H := hv H (Ex.refl H) _ fun v H1 e1 t => ho H1 e1 _ fun H2 e2 => hi H2 (e1.trans e2) _ fun H3 e3 => by
  obtain ⟨x, hx, rfl⟩ := t
  have e13 := (e1.trans e2).trans e3
  obtain ⟨xs, hxs, hd⟩ := hl.ex e13
  have hlen := hd.len
  rw [List.length_map] at hlen
  refine ⟨l, xs, (i : Int), i, rfl, rfl, hxs, ixN_nat (by omega), k H3 xs _ x hx e13 hxs ⟨_, upd_same, ?_⟩⟩
  rw [List.map_set]
  exact tdAll_set i (hd.upd hxs) (.str x)
theorem ep_str {x : Str} {Pr : Str → Prop} (h : Ev te σ H (.str x)) (hp : Pr x) : EvP te σ H fun v _ => ∃ x, Pr x ∧ v = .str x := ep_ev h fun _ _ => ⟨x, hp, rfl⟩
/-- one of some texts -/
theorem ep_pick {Pr : Str → Prop} {n : Nat} {i : Int} (hr : EaP tr σ H fun vs _ => ∃ xs : List Str, vs = xs.map V.str ∧ xs.length = n ∧ ∀ x ∈ xs, Pr x) (hi : Ev ti σ H (.int i)) (h0 : 0 ≤ i) (h1 : i < (n : Int)) (hn : n ≤ 1000) : EvP (tOp (rIxL K) (tLst tr) ti) σ H fun v _ => ∃ x, Pr x ∧ v = .str x := fun H1 e Q q => hr H1 e _ fun vs H2 e2 hvs => by
  obtain ⟨xs, rfl, hlen, hall⟩ := hvs
  refine ⟨sz_of (by rw [List.length_map]; omega), fun a na => hi _ (e.trans (e2.trans (Ex.new na))) _ fun H3 e3 => ?_⟩
  have hl : i.toNat < xs.length := by omega
  have hat : atI (xs.map V.str) i = some (.str xs[i.toNat]) := by
    have := atI_nat (xs := xs.map V.str) (j := i.toNat) (v := .str xs[i.toNat]) (by rw [List.getElem?_map, List.getElem?_eq_getElem hl]; rfl)
    rw [show ((i.toNat : Nat) : Int) = i by omega] at this
    exact this
  exact ⟨a, _, i, _, rfl, rfl, SqL.of (e3 _ _ upd_same), hat, q _ H3 ((e2.trans (Ex.new na)).trans e3) ⟨_, hall _ (List.getElem_mem hl), rfl⟩⟩
theorem ep_addS {x : Str} {P1 P2 : Str → Prop} (ha : Ev ta σ H (.str x)) (hb : EvP tb σ H fun v _ => ∃ y, P1 y ∧ v = .str y) (hz : ∀ y, P1 y → x.length + y.length ≤ 100000 ∧ P2 (x ++ y)) : EvP (tOp (fun x y H Q => ∃ i j, x = .str i ∧ y = .str j ∧ i.length + j.length ≤ sizeLine ∧ Q (.str (i ++ j)) H) ta tb) σ H fun v _ => ∃ x, P2 x ∧ v = .str x := fun H1 e Q q => ha H1 e _ fun H2 e2 => hb H2 (e.trans e2) _ fun v H3 e3 hv => by
  obtain ⟨y, hy, rfl⟩ := hv
  exact ⟨x, y, rfl, rfl, sz_of (hz y hy).1, q _ H3 (e2.trans e3) ⟨_, (hz y hy).2, rfl⟩⟩
end
def ShortOk (x : Str) : Prop := x.length ≤ 5 ∧ SgOk x
theorem row_short {r x : Str} (h : RowOr r) (hx : ShortOk x) : r.length + x.length ≤ 100000 ∧ RowOk (r ++ x) := by
  have h1 := h.1
  have h2 := hx.1
  exact ⟨by omega, by rw [Str.length_append]; omega, h.2.2.app hx.2⟩
theorem sv_l_alike {H : Hp} {v u : V} {n : Int} {ds : List Door} {ks : List Key2} (hv : MazeT H v n ds ks) (hu : Dp K H u (mazeF n ds ks)) (hd : ds.length ≤ 1000) (hk : ks.length ≤ 1000) : SpV (sp_l_alike K) [v, u] H (.bl true) := fun H1 e Q q E => ⟨v, u, n, ds, ks, rfl, hv.ex e, dp_ex e hu, hd, hk, q⟩
theorem cut_pair {z : Str} {k : Nat} (hk : k < z.length) : (cutS z none (some (k : Int))).length + (cutS z (some ((k : Int) + 1)) none).length ≤ z.length := by
  have e1 : cs (cutS z none (some (k : Int))) = ((cs z).drop (HT.sIx z.length 0 none)).take (HT.sIx z.length z.length (some (k : Int)) - HT.sIx z.length 0 none) := rfl
  have e2 : cs (cutS z (some ((k : Int) + 1)) none) = ((cs z).drop (HT.sIx z.length 0 (some ((k : Int) + 1)))).take (HT.sIx z.length z.length none - HT.sIx z.length 0 (some ((k : Int) + 1))) := rfl
  rw [HT.sIx_none, HT.sIx_nat] at e1
  rw [HT.sIx_none, show (some ((k : Int) + 1)) = some ((k + 1 : Nat) : Int) from rfl, HT.sIx_nat] at e2
  have h0 : (cs z).length = z.length := cs_len z
  have h1 : (cs (cutS z none (some (k : Int)))).length = (cutS z none (some (k : Int))).length := cs_len _
  have h2 : (cs (cutS z (some ((k + 1 : Nat) : Int)) none)).length = (cutS z (some ((k : Int) + 1)) none).length := cs_len _
  rw [e1, List.length_take, List.length_drop] at h1
  rw [e2, List.length_take, List.length_drop] at h2
  omega
theorem ok_law (T : Txt K mg) {f : Addr} {fd : FuncData} (F : FunD K "law" "law" (defArgs s_law) (defBody s_law) (defScope s_law) [] [] f fd) : FnOk P w K mg base CX0 5 f fd ["_law_script"] (sp_law K) := by
  refine F.ok sc_law (fun vs H Q E h => ?_) (fun cdv A outer s H vs Q E hr h => ?_)
  · obtain ⟨a, ns, rfl, _⟩ := h
    rfl
  · obtain ⟨a, ns, rfl, hS, hl63, q⟩ := h
    refine ⟨_, (PSs.nox (pss_cons (ps_set (i := 1) sc_law.nd rfl (Or.inl rfl) (pe_fn (ok_l_rows (K := K) T) (hr.mono (by decide)) passL (by rfl) (pa_cons (pv 0) pa_nil)))
      (pss_cons (ps_set (i := 2) sc_law.nd rfl (Or.inl rfl) (pe_fn (ok_l_cell_at (K := K) T) (hr.mono (by decide)) passL (by rfl) (pa_cons (pv 0) (pa_cons pe_int pa_nil))))
      (pss_cons (ps_set (i := 3) sc_law.nd rfl (Or.inl rfl) (pe_ix (ix_list_K (K := K) rfl) (pe_lst (pa_cons (pe_op op_mod (pe_fn (ok_l_mix (K := K) T) (hr.mono (by decide)) passL (by rfl) (pa_cons (pe_op op_fdiv (pv 2) pe_int) (pa_cons pe_int pa_nil))) (pe_callB (call_len_seq_K (K := K) rfl) (by rfl) T.n_len (by decide +kernel) (pa_cons (pv 1) pa_nil))) (pa_cons pe_int (pa_cons (pe_op op_sub (pe_callB (call_len_seq_K (K := K) rfl) (by rfl) T.n_len (by decide +kernel) (pa_cons (pv 1) pa_nil)) pe_int) pa_nil)))) (pe_op op_mod (pe_op op_fdiv (pv 2) pe_int) pe_int) (fun _ _ => rfl)))
      (pss_cut (ps_if (pt_cmpR op_eq (pe_op op_mod (pv 2) pe_int) pe_int (nomark _))
        (pss_one (ps_asg (pe_fn (ok_l_odd (K := K) T) (hr.mono (by decide)) passL (by rfl) (pa_cons (pe_op op_fdiv (pv 2) pe_int) pa_nil)) (pg_sub (pv 1) (pv 3) set_list)))
        pss_nil)
      (pss_cut (ps_if (pt_cmpR op_eq (pe_op op_mod (pv 2) pe_int) pe_int (nomark _))
        (pss_one (ps_asg (pe_op op_add_str (pe_ix (ix_list_K (K := K) rfl) (pv 1) (pv 3) (fun _ _ => rfl)) (pe_ix (ix_list_K (K := K) rfl) (pe_lst (pa_cons pe_str (pa_cons pe_str (pa_cons pe_str (pa_cons pe_str (pa_cons (pe_fn (ok_l_sign_by (K := K) T) (hr.mono (by decide)) passL (by rfl) (pa_cons (pe_op op_fdiv (pv 2) pe_int) pa_nil)) pa_nil)))))) (pe_op op_mod (pe_op op_mod (pe_op op_fdiv (pv 2) pe_int) pe_int) pe_int) (fun _ _ => rfl))) (pg_sub (pv 1) (pv 3) set_list)))
        pss_nil)
      (pss_cut (ps_if (pt_cmpR op_eq (pe_op op_mod (pv 2) pe_int) pe_int (nomark _))
        (pss_cons (ps_set (i := 4) sc_law.nd rfl (Or.inl rfl) (pe_split (pe_ix (ix_list_K (K := K) rfl) (pv 1) (pv 3) (fun _ _ => rfl)) pe_str))
      (pss_cons (ps_set (i := 5) sc_law.nd rfl (Or.inl rfl) (pe_op op_add pe_int (pe_op op_mod (pe_op op_fdiv (pv 2) pe_int) (pe_op op_sub (pe_callB (call_len_seq_K (K := K) rfl) (by rfl) T.n_len (by decide +kernel) (pa_cons (pv 4) pa_nil)) pe_int))))
      (pss_cut (ps_if (pt_val (pe_m0 PySem.F.slot_str_isdigit PySem.F.type_str_isdigit mt_isdigit (pe_ix (ix_list_K (K := K) rfl) (pv 4) (pv 5) (fun _ _ => rfl))))
        (pss_one (ps_asg (pe_op op_add_str pe_str (pe_ix (ix_list_K (K := K) rfl) (pv 4) (pv 5) (fun _ _ => rfl))) (pg_sub (pv 4) (pv 5) set_list)))
        pss_nil)
      (pss_one (ps_asg (pe_join pe_str (pv 4)) (pg_sub (pv 1) (pv 3) set_list))))))
        pss_nil)
      (pss_cut (ps_if (pt_cmpR op_eq (pe_op op_mod (pv 2) pe_int) pe_int (nomark _))
        (pss_cons (ps_set (i := 5) sc_law.nd rfl (Or.inl rfl) (pe_op op_mod (pe_fn (ok_l_mix (K := K) T) (hr.mono (by decide)) passL (by rfl) (pa_cons (pv 2) (pa_cons pe_int pa_nil))) (pe_callB call_len_str (by rfl) T.n_len (by decide +kernel) (pa_cons (pe_ix (ix_list_K (K := K) rfl) (pv 1) (pv 3) (fun _ _ => rfl)) pa_nil))))
      (pss_cons (ps_set (i := 6) sc_law.nd rfl (Or.inl rfl) (pe_fn (ok_l_sign_by (K := K) T) (hr.mono (by decide)) passL (by rfl) (pa_cons (pe_fn (ok_l_mix (K := K) T) (hr.mono (by decide)) passL (by rfl) (pa_cons (pv 2) (pa_cons pe_int pa_nil))) pa_nil)))
      (pss_cons (ps_set (i := 7) sc_law.nd rfl (Or.inl rfl) (pe_ix (ix_list_K (K := K) rfl) (pv 1) (pv 3) (fun _ _ => rfl)))
      (pss_one (ps_asg (pe_op op_add_str (pe_op op_add_str (pe_slice sl_str (pv 7) po_none (po_some (pv 5))) (pv 6)) (pe_slice sl_str (pv 7) (po_some (pe_op op_add (pv 5) pe_int)) po_none)) (pg_sub (pv 1) (pv 3) set_list))))))
        pss_nil)
      (pss_cons (ps_set (i := 8) sc_law.nd rfl (Or.inl rfl) (pe_join pe_str (pv 1)))
      (pss_cons (ps_set (i := 9) sc_law.nd rfl (Or.inl rfl) (pe_fn (ok_l_due (K := K) T) (hr.mono (by decide)) passL (by rfl) (pa_cons (pv 1) pa_nil)))
      (pss_cons (ps_set (i := 10) sc_law.nd rfl (Or.inl rfl) (pe_fn (ok_l_told (K := K) T) (hr.mono (by decide)) passL (by rfl) (pa_cons (pv 8) pa_nil)))
      (pss_cons (ps_if (pt_val (pe_callB (call_isi_K (K := K) rfl) (by rfl) T.n_isinstance (by decide +kernel) (pa_cons (pv 9) (pa_cons (pe_bltn (v := .ty "str") (u := .type "str") (by rfl) T.n_str (by decide +kernel) rfl) pa_nil))))
        (pss_one (ps_ret (pe_and (pe_callB (call_isi_K (K := K) rfl) (by rfl) T.n_isinstance (by decide +kernel) (pa_cons (pv 10) (pa_cons (pe_bltn (v := .ty "str") (u := .type "str") (by rfl) T.n_str (by decide +kernel) rfl) pa_nil))) (pe_and (pe_cmpR op_eq (pv 10) (pv 9) (nomark _)) (pe_one (pe_fn (ok_l_refused (K := K) T) (hr.mono (by decide)) passL (by rfl) (pa_cons (pv 8) pa_nil)))))))
        pss_nil)
      (pss_one (ps_ret (pe_fn (ok_l_alike (K := K) T) (hr.mono (by decide)) passL (by rfl) (pa_cons (pv 10) (pa_cons (pv 9) pa_nil))))))))))))))))), ?_⟩
    refine q_asgP (ep_rows (ev_var rfl) hS) fun v H1 e1 hv => ?_
    obtain ⟨p, rows, rfl, hp, hR⟩ := hv
    have hlen : 0 < rows.length := List.length_pos_iff.mpr hR.1
    have hR2 := hR.ok (by omega)
    obtain ⟨c2, ec2⟩ : ∃ c2, cellAt ns 2 = c2 := ⟨_, rfl⟩
    refine q_asg (v := .int c2) (by rw [← ec2]; exact ev_call0 (ea_cons (ev_var rfl) (ea_cons ev_c ea_nil)) (sv_l_cell_at (ex_l e1 hS) (by decide))) fun H2 e2 => ?_
    have hat0 : ∃ j : Nat, ([mix (c2 / 12) 0 % (rows.length : Int), 0, (rows.length : Int) - 1] : List Int).getD (c2 / 4 % 3).toNat 0 = (j : Int) ∧ j < rows.length := by
      have h1 := Int.emod_nonneg (mix (c2 / 12) 0) (show (rows.length : Int) ≠ 0 by omega)
      have h2 := Int.emod_lt_of_pos (mix (c2 / 12) 0) (show 0 < (rows.length : Int) by omega)
      rcases (show c2 / 4 % 3 = 0 ∨ c2 / 4 % 3 = 1 ∨ c2 / 4 % 3 = 2 by omega) with h | h | h <;> rw [h]
      · refine ⟨(mix (c2 / 12) 0 % (rows.length : Int)).toNat, ?_, by omega⟩
        show mix (c2 / 12) 0 % (rows.length : Int) = _
        omega
      · exact ⟨0, rfl, hlen⟩
      · refine ⟨rows.length - 1, ?_, by omega⟩
        show (rows.length : Int) - 1 = _
        omega
    obtain ⟨j, ej, hj⟩ := hat0
    have hp2 := hp.ex e2
    refine q_asg (v := .int (j : Int)) (by
      rw [← ej]
      exact ev_ixInts (xs := [mix (c2 / 12) 0 % (rows.length : Int), 0, (rows.length : Int) - 1]) (ea_tc (td_int (ev_op (ev_call0 (ea_cons (ev_op (ev_var rfl) ev_c (rv_I ⟨by decide, by decide⟩)) (ea_cons ev_c ea_nil)) sv_l_mix) (ev_lenW (K := K) (ev_var rfl) hp2) (rv_I (by omega)))) (ea_tc (td_int ev_c) (ea_tc (td_int (ev_op (ev_lenW (K := K) (ev_var rfl) hp2) ev_c rv_I0)) ea_tn))) (ev_op (ev_op (ev_var rfl) ev_c (rv_I ⟨by decide, by decide⟩)) ev_c (rv_I (by decide))) (by omega) (by simp only [List.length_cons, List.length_nil]; omega)) fun H3 e3 => ?_
    have hp3 := hp2.ex e3
    obtain ⟨r, er⟩ : ∃ r, rows.getD j "" = r := ⟨_, rfl⟩
    have hr : RowOr r := by
      rw [← er]
      exact hR.2.2 _ (mem_getD hj)
    have hrl : 1 ≤ r.length := by
      have := List.length_pos_of_mem hr.2.1
      rw [cs_len] at this
      exact this
    have row : ∀ {σ : L2.St} {H' : Hp}, LstT H' p (rows.map PyData.str) → σ[1]? = some (some (.ref p)) → σ[3]? = some (some (.int (j : Int))) → Ev (tOp (rIxL K) (tVar 1) (tVar 3)) σ H' (.str r) := fun hl h1 h3 => by
      rw [← er]
      exact ev_wd (ev_var h1) hl (ev_var h3) hj
    -- an odd row
    refine q_cut (M := fun σ' H' => ∃ rows1, σ' = [some (.ref a), some (.ref p), some (.int c2), some (.int (j : Int)), none, none, none, none, none, none, none] ∧ LstT H' p (rows1.map PyData.str) ∧ RowsOk2 rows1 ∧ rows1.length = rows.length ∧ (c2 % 4 ≠ 1 → rows1 = rows)) ?_ fun σ' H4 hM => ?_
    · refine s_when (b := decide (c2 % 4 = 1)) (et_test (ev_op (ev_op (ev_var rfl) ev_c (rv_I (by decide))) ev_c rv_eqI)) (fun hb H4 e4 => ?_) (fun hb H4 e4 => ⟨rows, rfl, hp3.ex e4, hR2, rfl, fun _ => rfl⟩)
      have hb := of_decide_eq_true hb
      exact s_setStr (hp3.ex e4) (ep_odd (ev_op (ev_var rfl) ev_c (rv_I ⟨by decide, by decide⟩))) (ev_var rfl) (ev_var rfl) hj fun H5 xs ys x hx e5 _ hl => ⟨_, rfl, hl, hR2.set hx, List.length_set, fun z => absurd hb z⟩
    obtain ⟨rows1, rfl, hp4, hok1, hln1, hsame1⟩ := hM
    -- something behind it
    refine q_cut (M := fun σ' H' => ∃ rows1, σ' = [some (.ref a), some (.ref p), some (.int c2), some (.int (j : Int)), none, none, none, none, none, none, none] ∧ LstT H' p (rows1.map PyData.str) ∧ RowsOk2 rows1 ∧ rows1.length = rows.length ∧ (c2 % 4 ≠ 1 → c2 % 4 ≠ 3 → rows1 = rows)) ?_ fun σ' H5 hM => ?_
    · refine s_when (b := decide (c2 % 4 = 3)) (et_test (ev_op (ev_op (ev_var rfl) ev_c (rv_I (by decide))) ev_c rv_eqI)) (fun hb H5 e5 => ?_) (fun hb H5 e5 => ⟨rows1, rfl, hp4.ex e5, hok1, hln1, fun h _ => hsame1 h⟩)
      have hb := of_decide_eq_true hb
      have hs := hsame1 (by omega)
      rw [hs] at hp4
      have short : ∀ {x : Str}, (decide (x.length ≤ 5) && (cs x).all fun c => decide (c < 128) && !decide (c = 10)) = true → ShortOk x := fun h => by
        rw [Bool.and_eq_true] at h
        exact ⟨of_decide_eq_true h.1, sg_lit h.2⟩
      refine s_setStr (hp4.ex e5) (ep_addS (P1 := ShortOk) (P2 := RowOk) (row (hp4.ex e5) rfl rfl) (ep_pick (n := 5) (i := c2 / 12 % 6 % 5) (Pr := ShortOk) (ea_pv ev_c fun H6 e6 => ea_pv ev_c fun H7 e7 => ea_pv ev_c fun H8 e8 => ea_pv ev_c fun H9 e9 => ea_pc (ep_sign (ev_op (ev_var rfl) ev_c (rv_I ⟨by decide, by decide⟩))) fun v H10 e10 hv => ea_pn fun H11 e11 => ?_) (ev_op (ev_op (ev_op (ev_var rfl) ev_c (rv_I ⟨by decide, by decide⟩)) ev_c (rv_I (by decide))) ev_c (rv_I (by decide))) (by omega) (by omega) (by omega)) fun y hy => row_short hr hy) (ev_var rfl) (ev_var rfl) hj fun H6 xs ys x hx e6 _ hl => ⟨_, rfl, hl, hR2.set hx, List.length_set, fun _ z => absurd hb z⟩
      obtain ⟨k, hk, rfl⟩ := hv
      refine ⟨[" 0", " by 0", " in 0", " ", ⟨#[k]⟩], rfl, rfl, fun x hx => ?_⟩
      simp only [List.mem_cons, List.not_mem_nil, or_false] at hx
      rcases hx with rfl | rfl | rfl | rfl | rfl
      · exact short (by decide +kernel)
      · exact short (by decide +kernel)
      · exact short (by decide +kernel)
      · exact short (by decide +kernel)
      · exact ⟨by rw [len_one]; decide, sg_one hk⟩
    obtain ⟨rows2, rfl, hp5, hok2, hln2, hsame2⟩ := hM
    -- a nought ahead of a number
    refine q_cut (M := fun σ' H' => ∃ (rows1 : List Str) (y4 y5 : Option V), σ' = [some (.ref a), some (.ref p), some (.int c2), some (.int (j : Int)), y4, y5, none, none, none, none, none] ∧ LstT H' p (rows1.map PyData.str) ∧ RowsOk2 rows1 ∧ rows1.length = rows.length ∧ (c2 % 4 = 2 → rows1 = rows)) ?_ fun σ' H6 hM => ?_
    · refine s_when (b := decide (c2 % 8 = 4)) (et_test (ev_op (ev_op (ev_var rfl) ev_c (rv_I (by decide))) ev_c rv_eqI)) (fun hb H6 e6 => ?_) (fun hb H6 e6 => ⟨rows2, none, none, rfl, hp5.ex e6, hok2, hln2, fun h => hsame2 (by omega) (by omega)⟩)
      have hb := of_decide_eq_true hb
      have hs := hsame2 (by omega) (by omega)
      rw [hs] at hp5
      have hp6 := hp5.ex e6
      have hw2 := words_two hr.2.1
      refine q_asgLT (ds := (wordsF r).map PyData.str) (lt_split (row hp6 rfl rfl) ev_c (by have := hr.1; omega) (by decide +kernel)) fun wp H7 nw e7 hwp => ?_
      have hne : p ≠ wp := fun z => by
        subst z
        obtain ⟨ys, hys, _⟩ := hp6
        rw [hys] at nw
        cases nw
      have hcut : ∃ k : Nat, 1 + c2 / 24 % (((wordsF r).length : Int) - 1) = (k : Int) ∧ k < (wordsF r).length := by
        have h1 := Int.emod_nonneg (c2 / 24) (show ((wordsF r).length : Int) - 1 ≠ 0 by omega)
        have h2 := Int.emod_lt_of_pos (c2 / 24) (show 0 < ((wordsF r).length : Int) - 1 by omega)
        exact ⟨(1 + c2 / 24 % (((wordsF r).length : Int) - 1)).toNat, by omega, by omega⟩
      obtain ⟨k, ek, hk⟩ := hcut
      refine q_asg (v := .int (k : Int)) (by rw [← ek]; exact ev_op ev_c (ev_op (ev_op (ev_var rfl) ev_c (rv_I ⟨by decide, by decide⟩)) (ev_op (ev_lenW (K := K) (ev_var rfl) hwp) ev_c rv_I0) (rv_I (by omega))) rv_I0) fun H8 e8 => ?_
      have hp8 := (hp6.ex e7).ex e8
      have hwp8 := hwp.ex e8
      obtain ⟨wk, ewk⟩ : ∃ wk, (wordsF r).getD k "" = wk := ⟨_, rfl⟩
      have word : ∀ {σ : L2.St} {H' : Hp}, Ex H8 H' → σ[4]? = some (some (.ref wp)) → σ[5]? = some (some (.int (k : Int))) → Ev (tOp (rIxL K) (tVar 4) (tVar 5)) σ H' (.str wk) := fun e h1 h3 => by
        rw [← ewk]
        exact ev_wd (ev_var h1) (hwp8.ex e) (ev_var h3) hk
      refine q_cut (M := fun σ' H' => ∃ ws : List Str, σ' = [some (.ref a), some (.ref p), some (.int c2), some (.int (j : Int)), some (.ref wp), some (.int (k : Int)), none, none, none, none, none] ∧ LstT H' p (rows.map PyData.str) ∧ LstT H' wp (ws.map PyData.str) ∧ WordsOk ws) ?_ fun σ' H9 hM => ?_
      · refine s_when (b := Txt.isdigit wk) (et_B (ev_isdigit (word (Ex.refl _) rfl rfl))) (fun hb9 H9 e9 => ?_) (fun hb9 H9 e9 => ⟨_, rfl, hp8.ex e9, hwp8.ex e9, words_ok hr⟩)
        have hwz := words_zero hr hk
        rw [ewk] at hwz
        have hwl : wk.length ≤ 300 := by
          rw [← ewk]
          have := words_len (mem_getD hk)
          have := hr.1
          omega
        have h5 : ("0" : Str).length = 1 := by decide +kernel
        exact s_setStr (Pr := fun x => x = ("0" : Str) ++ wk) (hwp8.ex e9) (ep_str (ev_op ev_c (word e9 rfl rfl) (rv_addS (by rw [h5]; omega))) rfl) (ev_var rfl) (ev_var rfl) hk fun H10 xs ys x hx e10 hxs hl => ⟨_, rfl, LstT.upd_ne (hp8.ex (e9.trans e10)) hxs hne, hl, by rw [hx]; exact hwz⟩
      obtain ⟨ws, rfl, hp9, hwp9, hwok⟩ := hM
      exact s_setStr (Pr := RowOk) hp9 (ep_str (ev_join (K := K) ev_c (ev_var rfl) hwp9 (by
        have h1 := hwok.2
        have h2 : (" " : Str).length = 1 := by decide +kernel
        rw [h2]
        omega)) hwok.row) (ev_var rfl) (ev_var rfl) hj fun H10 xs ys x hx e10 _ hl => ⟨_, _, _, rfl, hl, hR2.set hx, List.length_set, fun z => by omega⟩
    obtain ⟨rows3, y4, y5, rfl, hp6, hok3, hln3, hsame3⟩ := hM
    -- one sign of it exchanged
    refine q_cut (M := fun σ' H' => ∃ (rows1 : List Str) (y4 y5 y6 y7 : Option V), σ' = [some (.ref a), some (.ref p), some (.int c2), some (.int (j : Int)), y4, y5, y6, y7, none, none, none] ∧ LstT H' p (rows1.map PyData.str) ∧ RowsOk2 rows1) ?_ fun σ' H7 hM => ?_
    · refine s_when (b := decide (c2 % 4 = 2)) (et_test (ev_op (ev_op (ev_var rfl) ev_c (rv_I (by decide))) ev_c rv_eqI)) (fun hb H7 e7 => ?_) (fun hb H7 e7 => ⟨rows3, _, _, none, none, rfl, hp6.ex e7, hok3⟩)
      have hs := hsame3 (of_decide_eq_true hb)
      rw [hs] at hp6
      have hp7 := hp6.ex e7
      refine q_asg (v := .int (mix c2 0 % (r.length : Int))) (ev_op (ev_call0 (ea_cons (ev_var rfl) (ea_cons ev_c ea_nil)) sv_l_mix) (ev_lenStr (row hp7 rfl rfl) (by have := hr.1; omega)) (rv_I (by omega))) fun H8 e8 => ?_
      refine q_asgP (ep_sign (ev_call0 (ea_cons (ev_var rfl) (ea_cons ev_c ea_nil)) sv_l_mix)) fun v H9 e9 hv => ?_
      obtain ⟨sg, hsg, rfl⟩ := hv
      refine q_asg (v := .str r) (row ((hp7.ex e8).ex e9) rfl rfl) fun H10 e10 => ?_
      have hp10 := ((hp7.ex e8).ex e9).ex e10
      have hrz := hr.1
      have c1 := (cs_cut r none (some (mix c2 0 % (r.length : Int)))).2
      have c3 := (cs_cut r (some (mix c2 0 % (r.length : Int) + 1)) none).2
      refine s_setStr (Pr := RowOk) hp10 (ep_str (x := cutS r none (some (mix c2 0 % (r.length : Int))) ++ (⟨#[sg]⟩ : Str) ++ cutS r (some (mix c2 0 % (r.length : Int) + 1)) none) (ev_op (ev_op (ev_slS (ev_var rfl) eo_none (eo_some (ev_var rfl)) (by omega)) (ev_var rfl) (rv_addS (by rw [len_one]; omega))) (ev_slS (ev_var rfl) (eo_some (ev_op (ev_var rfl) ev_c rv_I0)) eo_none (by omega)) (rv_addS (by rw [Str.length_append, len_one]; omega))) ⟨?_, ((sg_cut hr.2.2).app (sg_one hsg)).app (sg_cut hr.2.2)⟩) (ev_var rfl) (ev_var rfl) hj fun H11 xs ys x hx e11 _ hl => ⟨_, _, _, _, _, rfl, hl, hR2.set hx⟩
      rw [Str.length_append, Str.length_append, len_one]
      have hcut : (cutS r none (some (mix c2 0 % (r.length : Int)))).length + (cutS r (some (mix c2 0 % (r.length : Int) + 1)) none).length ≤ 290 := by
        have i0 := Int.emod_nonneg (mix c2 0) (show (r.length : Int) ≠ 0 by omega)
        have i1 := Int.emod_lt_of_pos (mix c2 0) (show 0 < (r.length : Int) by omega)
        have h := cut_pair (z := r) (k := (mix c2 0 % (r.length : Int)).toNat)
        rw [show (((mix c2 0 % (r.length : Int)).toNat : Nat) : Int) = mix c2 0 % (r.length : Int) by omega] at h
        have := h (by omega)
        omega
      omega
    obtain ⟨rowsZ, y4, y5, y6, y7, rfl, hp7, hokZ⟩ := hM
    have hnl : ("\n" : Str).length = 1 := by decide +kernel
    refine q_asg (v := .str (Txt.join "\n" rowsZ)) (ev_join (K := K) ev_c (ev_var rfl) hp7 (by
      have h1 := sum_len_le (xs := rowsZ) (c := 300) fun x hx => (hokZ.2.2 x hx).1
      have h2 := hokZ.2.1
      rw [hnl]
      omega)) fun H8 e8 => ?_
    refine q_asgP (P := fun v H' => DueV K H' v (resF rowsZ)) (ep_call0 (Pa := fun vs _ => vs = [.ref p]) (fun H9 e9 Q9 q9 => ea_cons (ev_var rfl) ea_nil H9 e9 _ fun H10 e10 => q9 _ H10 e10 rfl) fun vs H9 e9 hvs Q9 q9 => ⟨p, rowsZ, hvs, (hp7.ex e8).ex e9, hokZ, q9⟩) fun dv H9 e9 hdv => ?_
    refine q_asgP (P := fun v H' => ToldV H' v (resF rowsZ)) (ep_call0 (Pa := fun vs _ => vs = [.str (Txt.join "\n" rowsZ)]) (fun H10 e10 Q10 q10 => ea_cons (ev_var rfl) ea_nil H10 e10 _ fun H11 e11 => q10 _ H11 e11 rfl) fun vs H10 e10 hvs Q10 q10 => ⟨rowsZ, hvs, hokZ, q10⟩) fun tv H10 e10 htv => ?_
    have hcase : (∃ n ds ks, resF rowsZ = .ok n ds ks) ∨ (∃ x r, dv = .str x ∧ tv = .str x ∧ (resF rowsZ).bad? = some r) := by
      cases hres : resF rowsZ with
      | ok n ds ks => exact .inl ⟨n, ds, ks, rfl⟩
      | maze =>
        rw [hres] at hdv htv
        exact .inr ⟨_, _, hdv, htv, rfl⟩
      | bad r =>
        rw [hres] at hdv htv
        exact .inr ⟨_, _, hdv, htv, rfl⟩
    rcases hcase with ⟨n, ds, ks, hres⟩ | ⟨x, r4, rfl, rfl, hb4⟩
    · rw [hres] at hdv htv
      have hz := chk_len (res_chk hres)
      refine q_when (b := false) (et_B (ev_isiD (K := K) (n := "tuple") (ed_any (ev_var rfl) (dp_ex e10 hdv)) (fun v H1 _ h => ty_tup h) (by decide +kernel))) (fun z => Bool.noConfusion z) (fun _ H11 e11 => ?_)
      exact s_ret (ev_call0 (ea_cons (ev_var rfl) (ea_cons (ev_var rfl) ea_nil)) (sv_l_alike (htv.ex e11) (dp_ex (e10.trans e11) hdv) (by omega) (by omega))) fun H12 e12 => q H12
    · refine q_when (b := true) (et_B (ev_isi (n := "str") (ev_var rfl) (fun _ _ => .base (.str _)) (by decide +kernel))) (fun _ H11 e11 => ?_) (fun z => Bool.noConfusion z)
      refine s_ret (v := .bl (true && (decide (x = x) && true))) (ev_andV (ev_isi (n := "str") (ev_var rfl) (fun _ _ => .base (.str _)) (by decide +kernel)) fun _ => ev_andV (ev_op (ev_var rfl) (ev_var rfl) rv_eqS) fun _ => ev_call0 (ea_cons (ev_var rfl) ea_nil) (sv_l_refused hokZ hb4)) fun H12 e12 => ?_
      have := q H12
      simpa using this
end

set_option maxHeartbeats 0

/-! ### the head -/
section
variable {K : PySem.W.Frag} {h : Heap} {mg : Str → Option Value}
def faL : List Fx := ([.fa (.free "ValueError"), .fa (.free "abs"), .fa (.free "bool"), .fa (.free "int"), .fa (.free "isinstance"), .fa (.free "len"), .fa (.free "list"), .fa (.free "max"), .fa (.free "str"), .fa (.free "tuple"), .fa (.int "MOST_ROOMS" 60), .fa (.int "MOST_DOORS" 90), .fa (.int "MOST_KEYS" 60), .fa (.int "KINDS" 5), .fa (.str "FIGURES" "0123456789"), .fa (.glo "MazeError"), .fa (.exc "MazeError"), .fa (.glo "NoMaze"), .fa (.exc "NoMaze"), .fa (.glo "NoRoom"), .fa (.exc "NoRoom"), .fa (.glo "NoKey"), .fa (.exc "NoKey"), .fa (.glo "TooMany"), .fa (.exc "TooMany"), .fa (.glo "NoDoor"), .fa (.exc "NoDoor"), .fa (.glo "Shut"), .fa (.exc "Shut"), .excC "NoMaze"] : List Fx) ++ ([.fa (.exm "NoMaze" "MazeError" true), .kit "NoMaze" "MazeError" true, .fa (.exm "NoMaze" "NoMaze" true), .kit "NoMaze" "NoMaze" true, .fa (.exm "NoMaze" "NoRoom" false), .kit "NoMaze" "NoRoom" false, .fa (.exm "NoMaze" "NoKey" false), .kit "NoMaze" "NoKey" false, .fa (.exm "NoMaze" "TooMany" false), .kit "NoMaze" "TooMany" false, .fa (.exm "NoMaze" "NoDoor" false), .kit "NoMaze" "NoDoor" false, .fa (.exm "NoMaze" "Shut" false), .kit "NoMaze" "Shut" false, .kitT "NoMaze" "ValueError" true, .excC "NoRoom", .fa (.exm "NoRoom" "MazeError" true), .kit "NoRoom" "MazeError" true, .fa (.exm "NoRoom" "NoMaze" false), .kit "NoRoom" "NoMaze" false, .fa (.exm "NoRoom" "NoRoom" true), .kit "NoRoom" "NoRoom" true, .fa (.exm "NoRoom" "NoKey" false), .kit "NoRoom" "NoKey" false, .fa (.exm "NoRoom" "TooMany" false), .kit "NoRoom" "TooMany" false, .fa (.exm "NoRoom" "NoDoor" false), .kit "NoRoom" "NoDoor" false, .fa (.exm "NoRoom" "Shut" false), .kit "NoRoom" "Shut" false] : List Fx) ++ ([.kitT "NoRoom" "ValueError" true, .excC "NoKey", .fa (.exm "NoKey" "MazeError" true), .kit "NoKey" "MazeError" true, .fa (.exm "NoKey" "NoMaze" false), .kit "NoKey" "NoMaze" false, .fa (.exm "NoKey" "NoRoom" false), .kit "NoKey" "NoRoom" false, .fa (.exm "NoKey" "NoKey" true), .kit "NoKey" "NoKey" true, .fa (.exm "NoKey" "TooMany" false), .kit "NoKey" "TooMany" false, .fa (.exm "NoKey" "NoDoor" false), .kit "NoKey" "NoDoor" false, .fa (.exm "NoKey" "Shut" false), .kit "NoKey" "Shut" false, .kitT "NoKey" "ValueError" true, .excC "TooMany", .fa (.exm "TooMany" "MazeError" true), .kit "TooMany" "MazeError" true, .fa (.exm "TooMany" "NoMaze" false), .kit "TooMany" "NoMaze" false, .fa (.exm "TooMany" "NoRoom" false), .kit "TooMany" "NoRoom" false, .fa (.exm "TooMany" "NoKey" false), .kit "TooMany" "NoKey" false, .fa (.exm "TooMany" "TooMany" true), .kit "TooMany" "TooMany" true, .fa (.exm "TooMany" "NoDoor" false), .kit "TooMany" "NoDoor" false] : List Fx) ++ ([.fa (.exm "TooMany" "Shut" false), .kit "TooMany" "Shut" false, .kitT "TooMany" "ValueError" true, .fa (.glo "need_room"), .fa (.glo "need_kind"), .fa (.glo "checked"), .fa (.glo "number_of"), .fa (.glo "door_of"), .fa (.glo "key_of"), .fa (.glo "read"), .fa (.glo "_law_mix"), .fa (.glo "_law_whole"), .fa (.glo "_law_cell_at"), .fa (.glo "_law_sign_by"), .fa (.glo "_law_odd"), .fa (.glo "_law_number"), .fa (.glo "_law_part"), .fa (.glo "_law_due"), .fa (.glo "_law_told"), .fa (.glo "_law_refused"), .fa (.glo "_law_alike"), .fa (.glo "_law_rows"), .fa (.glo "law")] : List Fx)
def fnL : List He.DefD := ([⟨("need_room", none), "need_room", "need_room", defArgs s_need_room, defBody s_need_room, defScope s_need_room, [], []⟩, ⟨("need_kind", none), "need_kind", "need_kind", defArgs s_need_kind, defBody s_need_kind, defScope s_need_kind, [], []⟩, ⟨("checked", none), "checked", "checked", defArgs s_checked, defBody s_checked, defScope s_checked, [], []⟩, ⟨("number_of", none), "number_of", "number_of", defArgs s_number_of, defBody s_number_of, defScope s_number_of, [], []⟩, ⟨("door_of", none), "door_of", "door_of", defArgs s_door_of, defBody s_door_of, defScope s_door_of, [], []⟩, ⟨("key_of", none), "key_of", "key_of", defArgs s_key_of, defBody s_key_of, defScope s_key_of, [], []⟩, ⟨("read", none), "read", "read", defArgs s_read, defBody s_read, defScope s_read, [], []⟩, ⟨("_law_mix", none), "_law_mix", "_law_mix", defArgs s_l_mix, defBody s_l_mix, defScope s_l_mix, [], []⟩, ⟨("_law_whole", none), "_law_whole", "_law_whole", defArgs s_l_whole, defBody s_l_whole, defScope s_l_whole, [], []⟩, ⟨("_law_cell_at", none), "_law_cell_at", "_law_cell_at", defArgs s_l_cell_at, defBody s_l_cell_at, defScope s_l_cell_at, [], []⟩, ⟨("_law_sign_by", none), "_law_sign_by", "_law_sign_by", defArgs s_l_sign_by, defBody s_l_sign_by, defScope s_l_sign_by, [], []⟩, ⟨("_law_odd", none), "_law_odd", "_law_odd", defArgs s_l_odd, defBody s_l_odd, defScope s_l_odd, [], []⟩, ⟨("_law_number", none), "_law_number", "_law_number", defArgs s_l_number, defBody s_l_number, defScope s_l_number, [], []⟩, ⟨("_law_part", none), "_law_part", "_law_part", defArgs s_l_part, defBody s_l_part, defScope s_l_part, [], []⟩, ⟨("_law_due", none), "_law_due", "_law_due", defArgs s_l_due, defBody s_l_due, defScope s_l_due, [], []⟩, ⟨("_law_told", none), "_law_told", "_law_told", defArgs s_l_told, defBody s_l_told, defScope s_l_told, [], []⟩, ⟨("_law_refused", none), "_law_refused", "_law_refused", defArgs s_l_refused, defBody s_l_refused, defScope s_l_refused, [], []⟩, ⟨("_law_alike", none), "_law_alike", "_law_alike", defArgs s_l_alike, defBody s_l_alike, defScope s_l_alike, [], []⟩, ⟨("_law_rows", none), "_law_rows", "_law_rows", defArgs s_l_rows, defBody s_l_rows, defScope s_l_rows, [], []⟩, ⟨("law", none), "law", "law", defArgs s_law, defBody s_law, defScope s_law, [], []⟩] : List He.DefD)
theorem txt_of (X : K.In h) (G : h.Ns mainGlobals mg) (c : SaysX faL fnL K) : Txt K mg where
  n_ValueError := He.free_ok X G (c.fact 0 (f := .fa (.free "ValueError")) rfl)
  n_abs := He.free_ok X G (c.fact 1 (f := .fa (.free "abs")) rfl)
  n_bool := He.free_ok X G (c.fact 2 (f := .fa (.free "bool")) rfl)
  n_int := He.free_ok X G (c.fact 3 (f := .fa (.free "int")) rfl)
  n_isinstance := He.free_ok X G (c.fact 4 (f := .fa (.free "isinstance")) rfl)
  n_len := He.free_ok X G (c.fact 5 (f := .fa (.free "len")) rfl)
  n_list := He.free_ok X G (c.fact 6 (f := .fa (.free "list")) rfl)
  n_max := He.free_ok X G (c.fact 7 (f := .fa (.free "max")) rfl)
  n_str := He.free_ok X G (c.fact 8 (f := .fa (.free "str")) rfl)
  n_tuple := He.free_ok X G (c.fact 9 (f := .fa (.free "tuple")) rfl)
  i_MOST_ROOMS := He.int_ok X G (c.fact 10 (f := .fa (.int "MOST_ROOMS" 60)) rfl)
  i_MOST_DOORS := He.int_ok X G (c.fact 11 (f := .fa (.int "MOST_DOORS" 90)) rfl)
  i_MOST_KEYS := He.int_ok X G (c.fact 12 (f := .fa (.int "MOST_KEYS" 60)) rfl)
  i_KINDS := He.int_ok X G (c.fact 13 (f := .fa (.int "KINDS" 5)) rfl)
  i_FIGURES := He.str_ok X G (c.fact 14 (f := .fa (.str "FIGURES" "0123456789")) rfl)
  e_MazeError := excT_ok X G (c.fact 15 (f := .fa (.glo "MazeError")) rfl) (c.fact 16 (f := .fa (.exc "MazeError")) rfl)
  e_NoMaze := excT_ok X G (c.fact 17 (f := .fa (.glo "NoMaze")) rfl) (c.fact 18 (f := .fa (.exc "NoMaze")) rfl)
  e_NoRoom := excT_ok X G (c.fact 19 (f := .fa (.glo "NoRoom")) rfl) (c.fact 20 (f := .fa (.exc "NoRoom")) rfl)
  e_NoKey := excT_ok X G (c.fact 21 (f := .fa (.glo "NoKey")) rfl) (c.fact 22 (f := .fa (.exc "NoKey")) rfl)
  e_TooMany := excT_ok X G (c.fact 23 (f := .fa (.glo "TooMany")) rfl) (c.fact 24 (f := .fa (.exc "TooMany")) rfl)
  e_NoDoor := excT_ok X G (c.fact 25 (f := .fa (.glo "NoDoor")) rfl) (c.fact 26 (f := .fa (.exc "NoDoor")) rfl)
  e_Shut := excT_ok X G (c.fact 27 (f := .fa (.glo "Shut")) rfl) (c.fact 28 (f := .fa (.exc "Shut")) rfl)
  x_NoMaze := excC_ok (c.fact 29 (f := .excC "NoMaze") rfl)
  m_NoMaze_MazeError := He.exm_ok (c.fact 30 (f := .fa (.exm "NoMaze" "MazeError" true)) rfl)
  k_NoMaze_MazeError := of_decide_eq_true (c.fact 31 (f := .kit "NoMaze" "MazeError" true) rfl)
  m_NoMaze_NoMaze := He.exm_ok (c.fact 32 (f := .fa (.exm "NoMaze" "NoMaze" true)) rfl)
  k_NoMaze_NoMaze := of_decide_eq_true (c.fact 33 (f := .kit "NoMaze" "NoMaze" true) rfl)
  m_NoMaze_NoRoom := He.exm_ok (c.fact 34 (f := .fa (.exm "NoMaze" "NoRoom" false)) rfl)
  k_NoMaze_NoRoom := of_decide_eq_true (c.fact 35 (f := .kit "NoMaze" "NoRoom" false) rfl)
  m_NoMaze_NoKey := He.exm_ok (c.fact 36 (f := .fa (.exm "NoMaze" "NoKey" false)) rfl)
  k_NoMaze_NoKey := of_decide_eq_true (c.fact 37 (f := .kit "NoMaze" "NoKey" false) rfl)
  m_NoMaze_TooMany := He.exm_ok (c.fact 38 (f := .fa (.exm "NoMaze" "TooMany" false)) rfl)
  k_NoMaze_TooMany := of_decide_eq_true (c.fact 39 (f := .kit "NoMaze" "TooMany" false) rfl)
  m_NoMaze_NoDoor := He.exm_ok (c.fact 40 (f := .fa (.exm "NoMaze" "NoDoor" false)) rfl)
  k_NoMaze_NoDoor := of_decide_eq_true (c.fact 41 (f := .kit "NoMaze" "NoDoor" false) rfl)
  m_NoMaze_Shut := He.exm_ok (c.fact 42 (f := .fa (.exm "NoMaze" "Shut" false)) rfl)
  k_NoMaze_Shut := of_decide_eq_true (c.fact 43 (f := .kit "NoMaze" "Shut" false) rfl)
  k_NoMaze_ValueError := of_decide_eq_true (c.fact 44 (f := .kitT "NoMaze" "ValueError" true) rfl)
  x_NoRoom := excC_ok (c.fact 45 (f := .excC "NoRoom") rfl)
  m_NoRoom_MazeError := He.exm_ok (c.fact 46 (f := .fa (.exm "NoRoom" "MazeError" true)) rfl)
  k_NoRoom_MazeError := of_decide_eq_true (c.fact 47 (f := .kit "NoRoom" "MazeError" true) rfl)
  m_NoRoom_NoMaze := He.exm_ok (c.fact 48 (f := .fa (.exm "NoRoom" "NoMaze" false)) rfl)
  k_NoRoom_NoMaze := of_decide_eq_true (c.fact 49 (f := .kit "NoRoom" "NoMaze" false) rfl)
  m_NoRoom_NoRoom := He.exm_ok (c.fact 50 (f := .fa (.exm "NoRoom" "NoRoom" true)) rfl)
  k_NoRoom_NoRoom := of_decide_eq_true (c.fact 51 (f := .kit "NoRoom" "NoRoom" true) rfl)
  m_NoRoom_NoKey := He.exm_ok (c.fact 52 (f := .fa (.exm "NoRoom" "NoKey" false)) rfl)
  k_NoRoom_NoKey := of_decide_eq_true (c.fact 53 (f := .kit "NoRoom" "NoKey" false) rfl)
  m_NoRoom_TooMany := He.exm_ok (c.fact 54 (f := .fa (.exm "NoRoom" "TooMany" false)) rfl)
  k_NoRoom_TooMany := of_decide_eq_true (c.fact 55 (f := .kit "NoRoom" "TooMany" false) rfl)
  m_NoRoom_NoDoor := He.exm_ok (c.fact 56 (f := .fa (.exm "NoRoom" "NoDoor" false)) rfl)
  k_NoRoom_NoDoor := of_decide_eq_true (c.fact 57 (f := .kit "NoRoom" "NoDoor" false) rfl)
  m_NoRoom_Shut := He.exm_ok (c.fact 58 (f := .fa (.exm "NoRoom" "Shut" false)) rfl)
  k_NoRoom_Shut := of_decide_eq_true (c.fact 59 (f := .kit "NoRoom" "Shut" false) rfl)
  k_NoRoom_ValueError := of_decide_eq_true (c.fact 60 (f := .kitT "NoRoom" "ValueError" true) rfl)
  x_NoKey := excC_ok (c.fact 61 (f := .excC "NoKey") rfl)
  m_NoKey_MazeError := He.exm_ok (c.fact 62 (f := .fa (.exm "NoKey" "MazeError" true)) rfl)
  k_NoKey_MazeError := of_decide_eq_true (c.fact 63 (f := .kit "NoKey" "MazeError" true) rfl)
  m_NoKey_NoMaze := He.exm_ok (c.fact 64 (f := .fa (.exm "NoKey" "NoMaze" false)) rfl)
  k_NoKey_NoMaze := of_decide_eq_true (c.fact 65 (f := .kit "NoKey" "NoMaze" false) rfl)
  m_NoKey_NoRoom := He.exm_ok (c.fact 66 (f := .fa (.exm "NoKey" "NoRoom" false)) rfl)
  k_NoKey_NoRoom := of_decide_eq_true (c.fact 67 (f := .kit "NoKey" "NoRoom" false) rfl)
  m_NoKey_NoKey := He.exm_ok (c.fact 68 (f := .fa (.exm "NoKey" "NoKey" true)) rfl)
  k_NoKey_NoKey := of_decide_eq_true (c.fact 69 (f := .kit "NoKey" "NoKey" true) rfl)
  m_NoKey_TooMany := He.exm_ok (c.fact 70 (f := .fa (.exm "NoKey" "TooMany" false)) rfl)
  k_NoKey_TooMany := of_decide_eq_true (c.fact 71 (f := .kit "NoKey" "TooMany" false) rfl)
  m_NoKey_NoDoor := He.exm_ok (c.fact 72 (f := .fa (.exm "NoKey" "NoDoor" false)) rfl)
  k_NoKey_NoDoor := of_decide_eq_true (c.fact 73 (f := .kit "NoKey" "NoDoor" false) rfl)
  m_NoKey_Shut := He.exm_ok (c.fact 74 (f := .fa (.exm "NoKey" "Shut" false)) rfl)
  k_NoKey_Shut := of_decide_eq_true (c.fact 75 (f := .kit "NoKey" "Shut" false) rfl)
  k_NoKey_ValueError := of_decide_eq_true (c.fact 76 (f := .kitT "NoKey" "ValueError" true) rfl)
  x_TooMany := excC_ok (c.fact 77 (f := .excC "TooMany") rfl)
  m_TooMany_MazeError := He.exm_ok (c.fact 78 (f := .fa (.exm "TooMany" "MazeError" true)) rfl)
  k_TooMany_MazeError := of_decide_eq_true (c.fact 79 (f := .kit "TooMany" "MazeError" true) rfl)
  m_TooMany_NoMaze := He.exm_ok (c.fact 80 (f := .fa (.exm "TooMany" "NoMaze" false)) rfl)
  k_TooMany_NoMaze := of_decide_eq_true (c.fact 81 (f := .kit "TooMany" "NoMaze" false) rfl)
  m_TooMany_NoRoom := He.exm_ok (c.fact 82 (f := .fa (.exm "TooMany" "NoRoom" false)) rfl)
  k_TooMany_NoRoom := of_decide_eq_true (c.fact 83 (f := .kit "TooMany" "NoRoom" false) rfl)
  m_TooMany_NoKey := He.exm_ok (c.fact 84 (f := .fa (.exm "TooMany" "NoKey" false)) rfl)
  k_TooMany_NoKey := of_decide_eq_true (c.fact 85 (f := .kit "TooMany" "NoKey" false) rfl)
  m_TooMany_TooMany := He.exm_ok (c.fact 86 (f := .fa (.exm "TooMany" "TooMany" true)) rfl)
  k_TooMany_TooMany := of_decide_eq_true (c.fact 87 (f := .kit "TooMany" "TooMany" true) rfl)
  m_TooMany_NoDoor := He.exm_ok (c.fact 88 (f := .fa (.exm "TooMany" "NoDoor" false)) rfl)
  k_TooMany_NoDoor := of_decide_eq_true (c.fact 89 (f := .kit "TooMany" "NoDoor" false) rfl)
  m_TooMany_Shut := He.exm_ok (c.fact 90 (f := .fa (.exm "TooMany" "Shut" false)) rfl)
  k_TooMany_Shut := of_decide_eq_true (c.fact 91 (f := .kit "TooMany" "Shut" false) rfl)
  k_TooMany_ValueError := of_decide_eq_true (c.fact 92 (f := .kitT "TooMany" "ValueError" true) rfl)
  d_need_room := c.dfn X G 0 93 rfl rfl fun _ _ _ _ _ _ us hl => match us, hl with | [_, _], _ => rfl
  d_need_kind := c.dfn X G 1 94 rfl rfl fun _ _ _ _ _ _ us hl => match us, hl with | [_], _ => rfl
  d_checked := c.dfn X G 2 95 rfl rfl fun _ _ _ _ _ _ us hl => match us, hl with | [_], _ => rfl
  d_number_of := c.dfn X G 3 96 rfl rfl fun _ _ _ _ _ _ us hl => match us, hl with | [_], _ => rfl
  d_door_of := c.dfn X G 4 97 rfl rfl fun _ _ _ _ _ _ us hl => match us, hl with | [_], _ => rfl
  d_key_of := c.dfn X G 5 98 rfl rfl fun _ _ _ _ _ _ us hl => match us, hl with | [_], _ => rfl
  d_read := c.dfn X G 6 99 rfl rfl fun _ _ _ _ _ _ us hl => match us, hl with | [_], _ => rfl
  d_l_mix := c.dfn X G 7 100 rfl rfl fun _ _ _ _ _ _ us hl => match us, hl with | [_, _], _ => rfl
  d_l_whole := c.dfn X G 8 101 rfl rfl fun _ _ _ _ _ _ us hl => match us, hl with | [_], _ => rfl
  d_l_cell_at := c.dfn X G 9 102 rfl rfl fun _ _ _ _ _ _ us hl => match us, hl with | [_, _], _ => rfl
  d_l_sign_by := c.dfn X G 10 103 rfl rfl fun _ _ _ _ _ _ us hl => match us, hl with | [_], _ => rfl
  d_l_odd := c.dfn X G 11 104 rfl rfl fun _ _ _ _ _ _ us hl => match us, hl with | [_], _ => rfl
  d_l_number := c.dfn X G 12 105 rfl rfl fun _ _ _ _ _ _ us hl => match us, hl with | [_], _ => rfl
  d_l_part := c.dfn X G 13 106 rfl rfl fun _ _ _ _ _ _ us hl => match us, hl with | [_], _ => rfl
  d_l_due := c.dfn X G 14 107 rfl rfl fun _ _ _ _ _ _ us hl => match us, hl with | [_], _ => rfl
  d_l_told := c.dfn X G 15 108 rfl rfl fun _ _ _ _ _ _ us hl => match us, hl with | [_], _ => rfl
  d_l_refused := c.dfn X G 16 109 rfl rfl fun _ _ _ _ _ _ us hl => match us, hl with | [_], _ => rfl
  d_l_alike := c.dfn X G 17 110 rfl rfl fun _ _ _ _ _ _ us hl => match us, hl with | [_, _], _ => rfl
  d_l_rows := c.dfn X G 18 111 rfl rfl fun _ _ _ _ _ _ us hl => match us, hl with | [_], _ => rfl
  d_law := c.dfn X G 19 112 rfl rfl fun _ _ _ _ _ _ us hl => match us, hl with | [_], _ => rfl
end
abbrev Rrow : PySem.W.OpenRow := PySem.W.OpenLaw.row PySem.Challenge.rw_mazeguide_k12_read
abbrev hkL : PySem.W.Hook := hookX 4 faL fnL
def looseL : List Str := (["need_room", "need_kind", "checked", "number_of", "door_of", "key_of", "read", "_law_mix", "_law_whole", "_law_cell_at", "_law_sign_by", "_law_odd", "_law_number", "_law_part", "_law_due", "_law_told", "_law_refused", "_law_alike", "_law_rows", "MazeError", "NoMaze", "NoRoom", "NoKey", "TooMany", "NoDoor", "Shut", "MOST_ROOMS", "MOST_DOORS", "MOST_KEYS", "KINDS"] : List Str) ++ (["FIGURES"] : List Str)
def obL (s : PySem.W.SharedT) : He.AlD := obsXG 4 faL fnL (HandSHeadRun.getT s)
theorem obL_eq (s : PySem.W.SharedT) : obL s = hkL.obs s.abs := obsXG_eq (HandSHeadRun.getT_eq s)
theorem runL (w : World) : HandSHeadRun.RunEq Rrow (PySem.W.view Rrow.prog [35]) hkL obL 6000 looseL w := by
  intro os
  kernel_rfl
theorem law_fn {P : Program} {w : World} {K : PySem.W.Frag} {h : Heap} {mg : Str → Option Value} {f : Addr} (X : K.In h) (G : h.Ns mainGlobals mg) (hfa : mg ("law" : Str) = some (.ref f)) (c : SaysX faL fnL K) :
    ∃ fd : FuncData, (∀ (s : Shared) (v : Value), BindsTo s fd ⟨[v], []⟩ [("_law_script", v)]) ∧ ∀ base : Heap, K.In base → base.Ns mainGlobals mg → FnOk P w K mg base CX0 5 f fd ["_law_script"] (sp_law K) := by
  have T : Txt K mg := txt_of X G c
  obtain ⟨fd, F⟩ := c.def_ 19 (d := ⟨("law", none), "law", "law", defArgs s_law, defBody s_law, defScope s_law, [], []⟩) rfl
  have e := hfa.symm.trans T.d_law.1
  cases e
  have b := FunD.bindsA (ps := ["_law_script"]) F fun _ _ _ _ _ _ us hl => match us, hl with | [_], _ => rfl
  exact ⟨fd, fun s v => b s [v] rfl, fun base _ _ => ok_law T F⟩
end Mz
open PySem PySem.W PySem.Calls PyProof.Rows
theorem PySem.Challenge.cw_mazeguide_k12_read_holds : PySem.Challenge.rw_mazeguide_k12_read.Holds := by
  w_on; o_law
  refine HandSHeadRun.head_any (r := OpenLaw.row PySem.Challenge.rw_mazeguide_k12_read) (q := view (OpenLaw.row PySem.Challenge.rw_mazeguide_k12_read).prog [35]) (H := Mz.hkL) (ob := Mz.obL) (M := 6000) (loose := Mz.looseL) (d := HandSHeadRun.topDef (OpenLaw.row PySem.Challenge.rw_mazeguide_k12_read).prog 35) (kwd := []) Mz.obL_eq
    (by kernel_rfl) (fun s => by kernel_rfl) Mz.runL (by kernel_rfl) (by kernel_rfl) (by kernel_rfl) (by rfl) (by first | assumption | decide +kernel) (by decide +kernel) ⟨rfl, rfl, rfl, rfl, rfl, by decide +kernel⟩ ?hw ?hc
  case hw => w_witness2
  case hc =>
    refine L2.walk_ofE (l := PySem.Challenge.rw_mazeguide_k12_read) (n := 63) (k := 5) (x := "_law_script") (CX := L2.CX0) rfl (by decide) (by kernel_rfl) ⟨rfl, by decide, by decide⟩ ?F (fun _ _ _ _ z => z)
    intro w mg fa h Y G hmg0
    obtain ⟨K, KX, c⟩ := Y
    have hmg : mg ("law" : PySem.Str) = some (.ref fa) := by
      have e : (HandSHeadRun.topDef (OpenLaw.row PySem.Challenge.rw_mazeguide_k12_read).prog 35).name = ("law" : PySem.Str) := by kernel_rfl
      rw [← e]
      exact hmg0
    obtain ⟨fd, hb, hF⟩ := Mz.law_fn (P := (PySem.Challenge.rw_mazeguide_k12_read).prog) (w := w) KX G hmg c
    exact ⟨K, fd, Mz.sp_law K, KX, hb, fun H a ns hl _ hS => ⟨a, ns, rfl, hS, hl, fun _ => rfl⟩, hF⟩
