import PyProof.Rows.All
import Wide.All
import OpenK.AllK
import Wide.FinOn
import HandS.ForMost
import HandS.ForExc
import HandS.IsInst
import HandS.More
import HandS.Defaults
import HandS.MakeKw
import HandS.MakeKwOnly
import HandS.CallLocal
import HandS.Codes
import HandS.Lambda
import HandS.Finally
import HandS.EndTab
import HandS.HeadWalk
import HandS.HeadHook4
import HandS.Head2
import HandS.HeadEnd
import HandS.SortRule
import HandS.SortInts
import HandS.DictComp
import HandS.ListItems
import HandS.Zip
import HandS.Flow
import HandS.Style
import HandS.Steps
import HandS.TupAny
import HandS.NoneIn
import HandS.TryMany
import HandS.Small
import HandS.WrittenGet
import HandS.CallSlots
import KE.KExcInit
import HandS.Conv
import HandS.DictTup
import KE.GoesMore
import KE.GoesEnum
import KE.GoesEnumKw
import PySem.Challenge.RW_reedtapes_k60_whole_decks_back_and_again
import HandS.Head0
import HandS.Head1
import HandS.HeadHook1
import HandS.HeadHook2
import HandS.HeadHook3
import HandS.NestedK
import HandS.OwnEq
import OpenK.KOps
import HandS.ExcOwn
set_option Elab.async false
set_option linter.all false
set_option maxRecDepth 100000
set_option maxHeartbeats 4000000
/-! ### calls by one datum -/
namespace R60
open PySem PySem.Spec PyProof.Rows L2
section
variable (P : Program) (w : World) (K : PySem.W.Frag) (mg : Str → Option Value) (base : Heap)
/-- the module's name x is a def that keeps sp -/
def CalX (k : Nat) (x : Str) (sp : Sp) : Prop := ∃ (f : Addr) (fd : FuncData) (ps : List Str), mg x = some (.ref f) ∧ PySem.W.keepIn K (.ref f) = true ∧ Binds K fd ps [] ∧ FnOk P w K mg base (L2.CX P w) k f fd ps sp
/-- the class at C has the method m, which keeps sp -/
def MetX (k : Nat) (C : Addr) (m : Str) (sp : Sp) : Prop := ∃ (f : Addr) (fd : FuncData) (ps : List Str), Cls K C ∧ Meth K C m f ∧ Binds K fd ps [] ∧ FnOk P w K mg base (L2.CX P w) k f fd ps sp
/-- the module's name x is the class at C, its __init__ (dvs behind the arguments) keeps sp -/
def MakX (k : Nat) (x : Str) (C : Addr) (sp : Sp) (dvs : List V) : Prop := ∃ (f : Addr) (fd : FuncData) (ps : List Str) (ds : List Value), mg x = some (.ref C) ∧ Mk K C f ∧ Binds K fd ps ds ∧ Vals dvs ds ∧ FnOk P w K mg base (L2.CX P w) k f fd ps sp
end
section
variable {X : Cx} {k j : Nat} {x m : Str} {sp : Sp} {E : XK} {C : Addr} {dvs : List V} {e o : Expr} {es : List Expr} {ta : TE} {t : TA} {p pos apos : Pos}
theorem pe_cx (c : CalX X.prog X.w X.K X.mg X.base k x sp) (hr : Room j X.A) (hk : k ≤ j) (hg : Gl X x) (hx : Passes (L2.CX X.prog X.w) X E) (ha : PA X (e :: es) t)
    (hdb : (x == ("__debug__" : Str)) = false := by decide) (he : starEach (e :: es) X.env = (false, eval e X.env) :: starEach es X.env := by rfl) (hpl : (backTo pos (starEach es X.env)).any (·.1) = false := by rfl) :
    PE X (.Call (.Name x p) (e :: es) [] pos) (tCall sp [] E t) := by
  obtain ⟨f, fd, ps, h1, h2, h3, h4⟩ := c
  exact pe_call h4 (hr.mono hk) hg h1 h2 h3 .nil hx ha hdb he hpl
theorem pe_cx0 (c : CalX X.prog X.w X.K X.mg X.base k x sp) (hr : Room j X.A) (hk : k ≤ j) (hg : Gl X x) (hx : Passes (L2.CX X.prog X.w) X E) (hdb : (x == ("__debug__" : Str)) = false := by decide) :
    PE X (.Call (.Name x p) [] [] pos) (tCall sp [] E tNil) := by
  obtain ⟨f, fd, ps, h1, h2, h3, h4⟩ := c
  exact pe_call0 h4 (hr.mono hk) hg h1 h2 h3 .nil hx hdb
theorem pe_mx (c : MetX X.prog X.w X.K X.mg X.base k C m sp) (hr : Room j X.A) (hk : k ≤ j) (hx : Passes (L2.CX X.prog X.w) X E) (he : PE X o ta) (ha : PA X (e :: es) t)
    (hst : starEach (e :: es) X.env = (false, eval e X.env) :: starEach es X.env := by rfl) (hpl : (backTo pos (starEach es X.env)).any (·.1) = false := by rfl) {pl : Sem Bool}
    (ht : eval (.Call (.Attribute o m apos) (e :: es) [] pos) X.env = (do
      let ov ← eval o X.env
      standAt apos.atName
      let (f, first) ← holding [ov] (getMethod ov m pl)
      callWith pos f first (backTo pos (starEach (e :: es) X.env)) (backToKw pos (keywordEach [] X.env))) := by rfl) :
    PE X (.Call (.Attribute o m apos) (e :: es) [] pos) (tMeth C m sp [] E ta t) := by
  obtain ⟨f, fd, ps, h1, h2, h3, h4⟩ := c
  exact pe_meth he h1 h2 h4 (hr.mono hk) h3 .nil hx ha hst hpl ht
theorem pe_mx0 (c : MetX X.prog X.w X.K X.mg X.base k C m sp) (hr : Room j X.A) (hk : k ≤ j) (hx : Passes (L2.CX X.prog X.w) X E) (he : PE X o ta) {pl : Sem Bool}
    (ht : eval (.Call (.Attribute o m apos) [] [] pos) X.env = (do
      let ov ← eval o X.env
      standAt apos.atName
      let (f, first) ← holding [ov] (getMethod ov m pl)
      callWith pos f first (backTo pos (starEach [] X.env)) (backToKw pos (keywordEach [] X.env))) := by rfl) :
    PE X (.Call (.Attribute o m apos) [] [] pos) (tMeth C m sp [] E ta tNil) := by
  obtain ⟨f, fd, ps, h1, h2, h3, h4⟩ := c
  exact pe_meth0 he h1 h2 h4 (hr.mono hk) h3 .nil hx ht
theorem pe_nx (c : MakX X.prog X.w X.K X.mg X.base k x C sp dvs) (hr : Room j X.A) (hk : k + 1 ≤ j) (hg : Gl X x) (hx : Passes (L2.CX X.prog X.w) X E) (ha : PA X (e :: es) t)
    (hdb : (x == ("__debug__" : Str)) = false := by decide) (he : starEach (e :: es) X.env = (false, eval e X.env) :: starEach es X.env := by rfl) (hpl : (backTo pos (starEach es X.env)).any (·.1) = false := by rfl) :
    PE X (.Call (.Name x p) (e :: es) [] pos) (tMake C sp dvs E t) := by
  obtain ⟨f, fd, ps, ds, h1, h2, h3, h5, h4⟩ := c
  exact pe_make h2 h4 (hr.mono hk) hg h1 h3 h5 hx ha hdb he hpl
theorem pe_nx0 (c : MakX X.prog X.w X.K X.mg X.base k x C sp dvs) (hr : Room j X.A) (hk : k + 1 ≤ j) (hg : Gl X x) (hx : Passes (L2.CX X.prog X.w) X E) (hdb : (x == ("__debug__" : Str)) = false := by decide) :
    PE X (.Call (.Name x p) [] [] pos) (tMake C sp dvs E tNil) := by
  obtain ⟨f, fd, ps, ds, h1, h2, h3, h5, h4⟩ := c
  exact pe_make0 h2 h4 (hr.mono hk) hg h1 h3 h5 hx hdb
end
/-- where the text has a def -/
def DefX (K : PySem.W.Frag) (mg : Str → Option Value) (x name qual : Str) (st : Stmt) : Prop := ∃ (f : Addr) (fd : FuncData), mg x = some (.ref f) ∧ Fun K name qual st f fd
def DefM (K : PySem.W.Frag) (C : Addr) (m qual : Str) (st : Stmt) : Prop := ∃ (f : Addr) (fd : FuncData), Cls K C ∧ Meth K C m f ∧ Fun K m qual st f fd
section
variable {P : Program} {w : World} {K : PySem.W.Frag} {mg : Str → Option Value} {base : Heap} {C : Addr} {x m name qual : Str} {st : Stmt} {N ps : List Str} {k : Nat} {sp : Sp}
abbrev BindH (name qual : Str) (st : Stmt) (ps : List Str) : Prop := ∀ (kV doc pm : Value) (an : Option Addr) (cdv ct : Value) (us : List Value), us.length = ps.length → bindArgs (PySem.W.fnOf name qual (defArgs st) (defBody st) (defScope st) .none kV doc pm an cdv ct) ⟨us, []⟩ = pure (ps.zip us)
abbrev BodyH (P : Program) (w : World) (K : PySem.W.Frag) (mg : Str → Option Value) (base : Heap) (qual : Str) (st : Stmt) (N : List Str) (k : Nat) (sp : Sp) : Prop :=
  ∀ (f : Addr) (cdv : Value) (A : Around) (outer : List Env) (s : Shared) (H : Hp) (vs : List V) (Q : VK) (E : XK), Room k (A.deeper (envOfC qual (defScope st) s.heap.objs.size f cdv)) → sp vs H Q E →
    ∃ t, PSs (cxOf (L2.CX P w) P w K mg base N qual (defScope st) f cdv A outer s H E) (defBody st) t ∧ t { nx := fun _ H' => Q .non H', rt := Q } (start N vs) H
theorem cal_of (D : DefX K mg x name qual st) (S : FnScope N ps (defScope st)) (b : BindH name qual st ps) (len : ∀ vs H Q E, sp vs H Q E → vs.length = ps.length) (hb : BodyH P w K mg base qual st N k sp) : CalX P w K mg base (k + 1) x sp := by
  obtain ⟨f, fd, h1, F⟩ := D
  exact ⟨f, fd, ps, h1, F.kp, F.binds b, F.okX S len fun cdv A outer s H vs Q E hr h => hb f cdv A outer s H vs Q E hr h⟩
theorem met_of (D : DefM K C m qual st) (S : FnScope N ps (defScope st)) (b : BindH m qual st ps) (len : ∀ vs H Q E, sp vs H Q E → vs.length = ps.length) (hb : BodyH P w K mg base qual st N k sp) : MetX P w K mg base (k + 1) C m sp := by
  obtain ⟨f, fd, h1, h2, F⟩ := D
  exact ⟨f, fd, ps, h1, h2, F.binds b, F.okX S len fun cdv A outer s H vs Q E hr h => hb f cdv A outer s H vs Q E hr h⟩
theorem CalX.imp {sp' : Sp} (c : CalX P w K mg base k x sp) (h : ∀ vs H Q E, sp' vs H Q E → sp vs H Q E) : CalX P w K mg base k x sp' := by
  obtain ⟨f, fd, ps, h1, h2, h3, h4⟩ := c
  exact ⟨f, fd, ps, h1, h2, h3, h4.imp h⟩
end
/-- what a callee raises leaves this def too -/
theorem passE {P : Program} {w : World} {K : PySem.W.Frag} {mg : Str → Option Value} {base : Heap} {N : List Str} {qual : Str} {scope : Scope} {f : Addr} {cd : Value} {A : Around} {outer : List Env} {s : Shared} {H : Hp} {E : XK} :
    Passes (L2.CX P w) (cxOf (L2.CX P w) P w K mg base N qual scope f cd A outer s H E) E := passes_call (takes_of rfl rfl rfl rfl) fun _ _ _ _ h => h
/-- a module's value -/
def GloV (mg : Str → Option Value) (x : Str) (v : V) : Prop := ∃ u, mg x = some u ∧ RelV v u
end R60
/-! ### own exceptions: class X(Base): def __init__(self): self.called = 'z' -/
namespace PySem
namespace ErX
open PySem.W PySem.Calls PyProof.Rows PySem.HandSPX Builtin Builtin.ObjectAttr
def iA (p1 : Pos) : Arguments := { posonlyargs := [], args := [{ arg := "self", annotation := none, pos := p1 }], vararg := none, kwonlyargs := [], kw_defaults := [], kwarg := none, defaults := [] }
def iB (q1 q2 q3 q4 : Pos) (z : Str) : List Stmt := [.Assign [.Attribute (.Name "self" q1) "called" q2] (.Constant (.str z) 0 q3) q4]
def iS : Scope := { kind := .function, names := [(PySem.Str.ofString "self", .local)], isGenerator := false, isCoroutine := false, more := [] }
/-- what the written part says of a base's family: the base's own facts -/
structure Base (B newId initId : String) (bm : List Value) : Prop where
  fb : ExcBaseFacts B newId initId bm
  sf : StoreFacts B bm "object.__setattr__" "object"
theorem base_VE : Base "ValueError" "ValueError.__new__" "ValueError.__init__" [.type "ValueError", .type "Exception", .type "BaseException", .type "object"] := ⟨F.excBase_ValueError, F.store_ValueError⟩
theorem base_LE : Base "LookupError" "LookupError.__new__" "LookupError.__init__" [.type "LookupError", .type "Exception", .type "BaseException", .type "object"] := ⟨F.excBase_LookupError, F.store_LookupError⟩
/-- an own class at C, told by the written part -/
structure Err (K : Frag) (C fI : Addr) (z : Str) (q : Str) : Prop where
  fam : ∃ B newId initId bm, Base B newId initId bm ∧ excInitIn K C bm newId = true ∧ excOver K C bm = true
  sa : findIn K (.ref C) "__setattr__" = some (some (.builtin "object.__setattr__"))
  ga : findIn K (.ref C) "__getattribute__" = some (some (.builtin "BaseException.__getattribute__"))
  gg : findIn K (.ref C) "__getattr__" = some none
  noN : findIn K (.ref C) "called" = some none
  iC : findIn K (.ref C) "__init__" = some (some (.ref fI))
  tC : typeIn K (.ref fI) = some (.type "function")
  kC : keepIn K (.ref C) = true
  exC : subIn K (.ref C) (.type "BaseException") = some true
  tyC : typeIn K (.ref C) = some (.type "type")
  hdC : hasDictIn K C = true
  fn : ∃ (oc : Value) (od : Option Addr) (kV doc pm : Value) (an : Option Addr) (cdv ct : Value) (osl : Array (Option Value)) (p1 q1 q2 q3 q4 : Pos),
    K.lookup fI = some ⟨oc, od, .func (fnOf "__init__" q (iA p1) (iB q1 q2 q3 q4 z) iS .none kV doc pm an cdv ct), osl⟩ ∧ codeIn K cdv q = true
theorem size0 : ([] : List Value).length ≤ sizeLine := Nat.zero_le _
theorem ldE {M : Model} {s : Shared} {name : Str} {scope : Scope} {L a : Addr} {cd : Value} {m : Str → Option Value} {x : Str} {pos : Pos} {v : Value} {Q : Value → Shared → Prop} {A : Around} {E : Value → Shared → Prop} (hn : s.heap.Ns L m) (hv : m x = some v) (h : Q v s)
    (hk : scope.kind = .function := by rfl) (hl : (envOfC name scope L a cd).kindOf x = some .local := by rfl) (hd : (x == ("__debug__" : Str)) = false := by decide) :
    wpAny M A (eval (.Name x pos) (envOfC name scope L a cd)) Q E s := wpAny_Name (wpAny_loadName_local hk hl hn hv h) hd
/-- behind __init__ a fresh exception at x has its dict at dx -/
structure Ini (h h' : Heap) (x C dx t1 : Addr) (v : Value) : Prop where
  keep : ∀ b o, b ≠ x → h.get? b = some o → h'.get? b = some o
  obj : h'.get? x = some { cls := .ref C, dict := some dx, data := .fields #[.ref t1, .none, .none, .none, .bool false, .none] }
  dbig : h.objs.size ≤ dx
  dne : dx ≠ x
  ns : h'.Ns1 dx (fun y => if y = "called" then some v else none)
structure Made (h h' : Heap) (e C d : Addr) (v : Value) : Prop where
  keep : ∀ b o, h.get? b = some o → h'.get? b = some o
  new : h.objs.size ≤ e
  obj : ∃ oe vs, h'.get? e = some oe ∧ oe.cls = .ref C ∧ oe.dict = some d ∧ oe.data = .fields vs ∧ vs[1]? = some .none
  dbig : h.objs.size ≤ d
  dne : d ≠ e
  ns : h'.Ns1 d (fun y => if y = "called" then some v else none)
section
variable {prog : Program} {w : World} {A : Around} {E : Value → Shared → Prop} {R : Result → Shared → Prop} {hp : Heap} {g : Array GenState} {d : Drawn} {t : Nat} {os : OsState} {K : Frag} {C fI : Addr} {z q : Str}
/-- the first store into such an exception -/
theorem osa_new {B newId initId : String} {bm : List Value} (BF : Base B newId initId bm) {name : Str} {tk : Tok} {v : Value} {x : Addr} {fv : Array Value} (X : K.In hp) (hx : hp.get? x = some { cls := .ref C, data := .fields fv })
    (ho : excOver K C bm = true) (hh : hasDictIn K C = true) (ha : findIn K (.ref C) name = some none)
    (hq : ∀ h' tk' dx, (∀ b o, b ≠ x → hp.get? b = some o → h'.get? b = some o) → hp.objs.size ≤ dx → dx ≠ x → h'.get? x = some { cls := .ref C, dict := some dx, data := .fields fv } →
      h'.Ns1 dx (fun y => if y = name then some v else none) → R (.ok (.ret .none)) ⟨h', g, d, tk', os⟩) :
    codeAny (model prog w) A (.call (.builtin "object.__setattr__") ⟨[.ref x, .str name tk, v], []⟩) R ⟨hp, g, d, t, os⟩ := by
  have I : InstAt hp x { cls := .ref C, data := .fields fv } C none := ⟨hx, rfl, rfl, trivial⟩
  have ht : takerIn K C name = some none := by
    unfold takerIn
    rw [ha] <;> rfl
  have hxs : x ≠ hp.objs.size := Nat.ne_of_lt (Heap.lt_size hx)
  refine osa_openX (od := none) (s := ⟨hp, g, d, t, os⟩) BF.sf X I ho ht fun b => ?_
  obtain ⟨cd, hc, hd'⟩ := any_some hh
  have hcls : Looks (model prog w) hp (classData C) cd := looks_clsIn X hc
  show wpAny _ _ (storeInOwnDict (.ref x) (.ref C) (.str name tk) name v b) _ _ _
  obtain ⟨nm, bs, mro, ns, qn, hd, sn, sb, ab, col, del⟩ := cd
  dsimp only at hd'
  subst hd'
  unfold storeInOwnDict ownDictForStores
  repeat (first | with_reducible refine store_in_new ?_ ?_ | with_reducible refine wpAny_loadPart_at hx ?_ | with_reducible refine hcls.at ?_ | wp_step)
  · exact ⟨_, #[], _, (Heap.get?_update_ne _ _ _ _ hxs.symm).trans (Heap.get?_push_at rfl rfl), rfl, fun e he => absurd he (by simp), fun _ => rfl⟩
  · intro h' tk' hn' hs
    have hx1 : (hp.push { cls := .type "dict", data := .dict #[] }).get? x = some { cls := .ref C, data := .fields fv } := Heap.get?_push_of_some _ hx
    refine hq h' tk' hp.objs.size (fun b o hb ho => ?_) (Nat.le_refl _) hxs.symm ?_ hn'
    · exact (hs.2 b (Nat.ne_of_lt (Heap.lt_size ho))).trans ((Heap.get?_update_ne _ _ _ _ hb).trans (Heap.get?_push_of_some _ ho))
    · exact (hs.2 x hxs).trans (Heap.get?_update_self _ hx1 rfl)
end
section
variable {prog : Program} {w : World} {A : Around} {E : Value → Shared → Prop} {R : Result → Shared → Prop} {s : Shared} {K : Frag} {C fI : Addr} {z q : Str}
theorem ini_run (T : Err K C fI z q) {x t0 : Addr} (X : K.In s.heap) (hlim : s.heap.NoLimit) (hx : s.heap.get? x = some (excO C t0)) (hroom : A.depth < recursionLimit)
    (hq : ∀ h' tk dx v, Ini s.heap h' x C dx t0 v → (∃ u, v = Value.str z u) → R (.ok (.ret .none)) { s with heap := h', toks := tk }) :
    codeAny (model prog w) A (.call (.ref fI) ⟨[.ref x], []⟩) R s := by
  obtain ⟨oc, od, kV, doc, pm, an, cdv, ct, osl, p1, q1, q2, q3, q4, ho, hcd⟩ := T.fn
  obtain ⟨B, newId, initId, bm, BF, qi, qo⟩ := T.fam
  refine Att.call_fn (binds := [("self", .ref x)]) X hlim ho hcd hroom (BindsTo.of_eq (by first | rfl | with_unfolding_all rfl)) (by first | rfl | decide | with_unfolding_all rfl) (fun s1 IC => ?_) rfl rfl rfl
  obtain ⟨h1, tk1, rfl⟩ := IC.toInCall.same
  have k : ∀ b o, s.heap.get? b = some o → h1.get? b = some o := IC.toInCall.keep
  have hn := IC.toInCall.ns
  have hxL : s.heap.objs.size ≠ x := Nat.ne_of_gt (Heap.lt_size hx)
  have X1 : K.In h1 := X.keeps k
  have hx1 := k _ _ hx
  show wpAny _ _ (execs _ _) _ _ _
  refine wpAny_execs_cons (plainObj_wpAny_Assign_Attribute ?_)
  refine Calls.Constant_str (ldE (v := .ref x) hn (by first | rfl | with_unfolding_all rfl | kernel_rfl) ?_)
  refine set_plain X1 (ox := excO C t0) (od := none) ⟨hx1, rfl, rfl, trivial⟩ T.sa ?_
  refine osa_new BF X1 hx1 qo T.hdC T.noN (fun h3 tk3 dx k3 dn dne hx3 hn3 => ?_)
  show wpAny _ _ (execs _ _) _ _ _
  have zz : s.heap.objs.size < h1.objs.size := hn.lt
  exact wpAny_execs_nil (hq h3 tk3 dx _ ⟨fun b o hb e => k3 b o hb (k b o e), hx3, Nat.le_of_lt (Nat.lt_of_lt_of_le zz dn), dne, hn3⟩ ⟨_, rfl⟩)
theorem made_run (T : Err K C fI z q) (X : K.In s.heap) (hlim : s.heap.NoLimit) (hroom : A.depth + 1 < recursionLimit)
    (hq : ∀ h' tk e d v, Made s.heap h' e C d v → (∃ u, v = Value.str z u) → R (.ok (.ret (.ref e))) { s with heap := h', toks := tk }) :
    codeAny (model prog w) A (.call (.ref C) ⟨[], []⟩) R s := by
  obtain ⟨B, newId, initId, bmB, BF, qi, qo⟩ := T.fam
  obtain ⟨nm, N, qn, bs, bm, hdct, sn, sub, ab, col, dd, k0, k1, k2, k3, k5, hC, hT⟩ := excInit_of X qi
  obtain ⟨hp, g, dr, tk, os⟩ := s
  have k : ∀ b o, hp.get? b = some o → ((hp.push (kdv_tup [])).push (excO C hp.objs.size)).get? b = some o := fun b o e => Heap.get?_push_of_some _ (Heap.get?_push_of_some _ e)
  have hget : ((hp.push (kdv_tup [])).push (excO C hp.objs.size)).get? (hp.objs.size + 1) = some (excO C hp.objs.size) := by heap_get
  refine call_own BF.fb hT hC (looks_findIn X T.iC) (fun self => bind_fn X self T.tC) size0 ?_
  refine ini_run (s := ⟨(hp.push (kdv_tup [])).push (excO C hp.objs.size), g, dr, tk, os⟩) T (X.keeps k) (hlim.keeps k) hget ?_ fun h' tk' dx v hI hv => ?_
  · show A.depth + 1 < recursionLimit
    exact hroom
  · obtain ⟨k', hx, dn, dne, hns⟩ := hI
    have old : ∀ b o, hp.get? b = some o → h'.get? b = some o := fun b o e => k' b o (Nat.ne_of_lt (Nat.lt_succ_of_lt (Heap.lt_size e))) (k b o e)
    have zz : hp.objs.size + 1 + 1 ≤ dx := by
      first
        | (simpa only [Heap.size_push] using dn)
        | exact dn
        | (have q := dn; rw [Heap.size_push, Heap.size_push] at q; exact q)
    exact ⟨rfl, hq h' tk' (hp.objs.size + 1) dx v ⟨old, Nat.le_succ _, ⟨_, _, hx, rfl, rfl, rfl, rfl⟩, Nat.le_trans (Nat.le_trans (Nat.le_succ _) (Nat.le_succ _)) zz, dne, hns⟩ hv⟩
end
end ErX
end PySem
namespace R60
open PySem PySem.Spec PyProof.Rows L2
/-- the dict of such an error -/
def errD (z : Str) : HO := .xd [(("called" : Str), V.str z)]
theorem relO_called {v : V} {v' : Value} (r : RelV v v') (f : Str) : RelO (List.lookup f [(("called" : Str), v)]) (if f = "called" then some v' else none) := by
  by_cases hw : f = "called"
  · subst hw
    rw [if_pos rfl]
    have q : List.lookup ("called" : Str) [(("called" : Str), v)] = some v := by simp [List.lookup]
    rw [q]
    exact r
  · rw [if_neg hw]
    have qw : (f == ("called" : Str)) = false := by simpa using hw
    have q2 : List.lookup f [(("called" : Str), v)] = none := by simp [List.lookup, qw]
    rw [q2]
    trivial
/-- what the clauses of the law ask of an error's class: at TE | at ME -/
structure ErrC (K : PySem.W.Frag) (t1 t2 C : Addr) : Prop where
  ga : PySem.W.findIn K (.ref C) "__getattribute__" = some (some (.builtin "BaseException.__getattribute__"))
  gg : PySem.W.findIn K (.ref C) "__getattr__" = some none
  noN : PySem.W.findIn K (.ref C) "called" = some none
  exC : PySem.W.subIn K (.ref C) (.type "BaseException") = some true
  hdC : PySem.W.hasDictIn K C = true
  fam : PySem.W.exmOne K (.ref C) (.ref t1) = some true ∨ (PySem.W.exmOne K (.ref C) (.ref t1) = some false ∧ PySem.W.exmOne K (.ref C) (.ref t2) = some true)
/-- the module's name x is an own error that calls itself z -/
structure ErrX (K : PySem.W.Frag) (mg : Str → Option Value) (t1 t2 : Addr) (x z : Str) : Prop where
  ex : ∃ (C fI : Addr) (q : Str), mg x = some (.ref C) ∧ PySem.ErX.Err K C fI z q ∧ ErrC K t1 t2 C
/-- raise X(): an error of a class that the law's clauses take, its dict new -/
def tRaiseX (K : PySem.W.Frag) (t1 t2 : Addr) (z : Str) (W : WX) : TS := fun _ σ H => ∀ C d, ErrC K t1 t2 C → H d = none → W (.ref C) (some d) σ (upd H d (errD z))
section
variable {X : Cx} {t1 t2 : Addr} {x z : Str}
theorem pmk_x {p pos : Pos} {k : Nat} (T : ErrX X.K X.mg t1 t2 x z) (hr : Room k X.A) (hg : Gl X x) (hdb : (x == ("__debug__" : Str)) = false := by decide) :
    PMk X (.Call (.Name x p) [] [] pos) (fun _ H Q => ∀ C d, ErrC X.K t1 t2 C → H d = none → Q (.ref C) (some d) (upd H d (errD z))) := by
  obtain ⟨C, fI, qn, gC, T, EC⟩ := T.ex
  intro pins s σ H Q I h
  refine wpAny_Call_Name_kw (ld_glob I hg gC ?_ hdb)
  refine PySem.W.callWith_K0 I.kIn T.kC ?_
  show wpAny _ _ (call (.ref C) []) _ _ _
  have hlim := I.nolimit
  have hK := I.kIn
  obtain ⟨hp, g, dr, tk, os⟩ := s
  refine wpAny_call (PySem.ErX.made_run T hK hlim (by have := hr.dp; omega) fun h' tk' e d v' M hv => ?_)
  obtain ⟨u, rv⟩ := hv
  have rv : RelV (.str z) v' := ⟨u, rv⟩
  show MkP X pins σ Q (.ref e) ⟨h', g, dr, tk', os⟩
  obtain ⟨oe, fv, hoe, hc, hd, hdat, h1⟩ := M.obj
  have hns := M.ns
  obtain ⟨G', g1, g2⟩ := restrict h' fun b => decide (b ≠ e)
  have gk : ∀ b, b ≠ e → G'.get? b = h'.get? b := fun b hb => g1 b (decide_eq_true hb)
  have ge : G'.get? e = none := g2 e (by simp)
  have old : ∀ b o, hp.get? b = some o → G'.get? b = some o := fun b o q => (gk b (Nat.ne_of_lt (Nat.lt_of_lt_of_le (Heap.lt_size q) M.new))).trans (M.keep b o q)
  have ob : ObjOk X.prog X.w (upd H d (errD z)) G' d (errD z) := ⟨_, hns.at (fun o q => (gk d M.dne).trans q), fun f => relO_called rv f⟩
  have J : Inv X pins σ (upd H d (errD z)) ⟨G', g, dr, tk', os⟩ := I.laid (t' := tk') old M.dbig ob
  refine ⟨e, oe, fv, ⟨G', g, dr, tk', os⟩, _, .ref C, some d, rfl, J, fun b o q => ?_, ge, hoe, ⟨hc, hd⟩, hdat, h1, ?_, rfl, I.bare, raises_own T.exC T.tyC, h C d EC (I.hok.fresh M.dbig)⟩
  · by_cases hb : b = e
    · have q' : G'.get? b = some o := q
      rw [hb, ge] at q'; cases q'
    · exact (gk b hb).symm.trans q
  · rw [upd_ne (Ne.symm M.dne)]
    exact I.hok.fresh M.new
theorem ps_x {W : WX} {p pos pos2 : Pos} {k : Nat} (T : ErrX X.K X.mg t1 t2 x z) (hr : Room k X.A) (hg : Gl X x) (hc : X.calm = true) (tk : Takes X W) (hdb : (x == ("__debug__" : Str)) = false := by decide) :
    PS X (.Raise (some (.Call (.Name x p) [] [] pos)) none pos2) (tRaiseX X.K t1 t2 z W) := ps_raise hc tk (pmk_x T hr hg hdb)
/-- e.called in a suite -/
def tCalled (K : PySem.W.Frag) (t1 t2 : Addr) (a : Addr) (cls : Value) (d : Option Addr) (tx : TE) : TE := fun σ H Q => tx σ H fun x H1 => ∃ (C dd : Addr) (z : Str), x = .ref a ∧ cls = .ref C ∧ ErrC K t1 t2 C ∧ d = some dd ∧ H1 dd = some (errD z) ∧ Q (.str z) H1
theorem pe_called {a : Addr} {oe : Obj} {cls : Value} {d : Option Addr} {pn : List (Addr × Obj)} {e : Expr} {tx : TE} {pos : Pos} (hz : Zc cls d oe) (hf : ∃ vs, oe.data = .fields vs) (he : PE (X.suite a ((a, oe) :: pn)) e tx)
    (hb : attributeBase e "called" X.env (eval e X.env) = eval e X.env := by rfl) :
    PE (X.suite a ((a, oe) :: pn)) (.Attribute e "called" pos) (tCalled X.K t1 t2 a cls d tx) := by
  refine ⟨fun pins s σ H Q I h => ?_⟩
  refine attr_of hb (thn (he.run pins s σ H _ I h) fun u s1 hh => ?_)
  obtain ⟨x, H1, I1, rx, C, dd, z, ex, ec, T, ed, ea, q⟩ := hh
  subst ex
  obtain rfl : u = Value.ref a := rx
  subst ec
  subst ed
  obtain ⟨ha, _⟩ := I1.pin (a, oe) (List.mem_append_left _ List.mem_cons_self)
  obtain ⟨vs, hd⟩ := hf
  have hx : ObjOk X.prog X.w H1 s1.heap dd (.xd [(("called" : Str), V.str z)]) := I1.hok dd _ ea
  obtain ⟨mA, hns, hr⟩ := hx
  obtain ⟨od, ho, hl⟩ := lookIn_ns hns
  have l : List.lookup ("called" : Str) [(("called" : Str), V.str z)] = some (.str z) := by simp [List.lookup]
  obtain ⟨u, hu, ru⟩ := RelO.some_of (v := .str z) (o := mA "called") (by rw [← l]; exact hr "called")
  have J : PySem.W.InstAt s1.heap a oe C (some od) := ⟨ha, hz.1, by unfold PySem.W.notCls; rw [hd] <;> rfl, by rw [hz.2]; exact ho⟩
  exact HandSPX.exc_get I1.kIn J T.ga T.gg T.exC (PySem.W.findObj_own T.hdC T.noN rfl (by rw [hl, hu])) (handed_of ru) ⟨_, H1, I1.tok _, ru, q⟩
end
end R60

set_option Elab.async false
set_option linter.all false
set_option maxRecDepth 100000
set_option maxHeartbeats 4000000
namespace R60
open PySem PySem.Spec PyProof.Rows L2
/-! ### x, y, *rest = a tuple -/
section
variable {prog : Program} {w : World} {A : Around} {E : Value → Shared → Prop} {s : Shared}
open PySem.W in
theorem star_tup {l : Addr} {items : Array Value} {i : Nat} {Q : List Value → Shared → Prop} (ht : IsTup s.heap l items) (hh : A.handled = none) (hi : i ≤ items.size) (hz : items.size ≤ sizeLine)
    (h : ∀ h' tk, Heap.ExtBut s.heap.objs.size s.heap h' → wpAny (model prog w) A (newList (items.toList.drop i)) (fun d s' => Q (items.toList.take i ++ [d]) s') E { s with heap := h', toks := tk }) :
    wpAny (model prog w) A (unpackItems (.ref l) (i + 1) (some i)) Q E s := by
  have hlt : l ≠ s.heap.objs.size := by obtain ⟨o, ho, _⟩ := ht; exact Nat.ne_of_lt (Heap.lt_size ho)
  unfold unpackItems
  refine wpAny_bind ?_
  unfold notIterableAtAll
  refine wpAny_bind (wpAny_specialOf ht.typeIs slot_tuple_iter.lookup (wpAny_pure ?_))
  rw [if_neg Bool.false_ne_true]
  refine wpAny_bind (wpAny_holding (iter_tuple ht ?_))
  refine wpAny_bind (wpAny_holding (draw_tuple hlt i 0 _ _ ⟨_, Heap.get?_push_size _ rfl, rfl, rfl⟩ (ht.push _) (by omega) fun h1 it1 sb1 => ?_))
  have ht1 : IsTup h1 l items := (ht.push _).extBut sb1.extBut hlt
  rw [Nat.zero_add] at it1
  obtain ⟨oi, hoi, _⟩ := id it1
  obtain ⟨ol, hol, _⟩ := id ht1
  rw [List.drop_zero]
  have len1 : (items.toList.take i).length = i := by rw [List.length_take, Array.length_toList]; omega
  rw [if_neg (by rw [len1]; omega)]
  refine wpAny_bind (wpAny_holding (kun_collect (s := { s with heap := h1 }) (T := "tuple_iterator") (.inr (.inr (.inr rfl))) (Walks.tuple (A := A.in1) hh s.heap.objs.size l hlt items) (fun j u st => st.1.typeIs) (k := i) hi ⟨it1, ht1⟩
    (Heap.lt_size hoi) (Heap.lt_size hol) (fun h2 tk hk => ?_) hz))
  have z : i + 1 - 1 - i = 0 := by omega
  show wpAny _ _ (if (items.toList.drop i).length < i + 1 - 1 - i then _ else _) _ _ _
  rw [z, if_neg (Nat.not_lt_zero _)]
  show wpAny _ _ (newList ((items.toList.drop i).take ((items.toList.drop i).length - 0)) >>= fun d => pure (items.toList.take i ++ [d] ++ (items.toList.drop i).drop ((items.toList.drop i).length - 0))) _ _ _
  rw [Nat.sub_zero, List.take_length, List.drop_length]
  have he : Heap.ExtBut s.heap.objs.size s.heap h2 := fun b o hb e => hk b o hb (sb1.extBut b o hb (Heap.get?_push_of_some _ e))
  refine wpAny_bind (thn (h h2 tk he) fun d s' q => wpAny_pure ?_)
  rw [List.append_nil]
  exact q
end
def gStar2 (K : PySem.W.Frag) (ts : TGs) : TG := fun v σ H Q => ∃ (a : Addr) (x y : V) (rest : List V), v = .ref a ∧ SqT K H a (x :: y :: rest) ∧ ∀ p, H p = none → ts [x, y, .ref p] σ (upd H p (.lst rest)) Q
section
variable {X : Cx}
theorem pg_star2 {t1 t2 t3 : Expr} {k : Nat} {sp pos : Pos} {ts : TGs} (hc : X.calm = true) (h : PGs X [t1, t2, t3] ts) (hn : (assignEach [t1, t2, .Starred t3 sp] X.env).length = 3 := by rfl)
    (hst : (assignEach [t1, t2, .Starred t3 sp] X.env).findIdx? (·.1) = some 2 := by rfl) (hm : (assignEach [t1, t2, .Starred t3 sp] X.env).map (·.2) = (assignEach [t1, t2, t3] X.env).map (·.2) := by rfl) :
    PG X (.Tuple [t1, t2, .Starred t3 sp] k pos) (gStar2 X.K ts) := by
  refine ⟨fun pins s σ H v u Q I r hw => ?_⟩
  obtain ⟨a, x, y, rest, e1, hq, hw⟩ := hw
  subst e1
  cases r
  obtain ⟨its, rv, ht, hz⟩ := I.tuple hq
  have hlen : its.length = rest.length + 2 := rv.length.symm
  rw [assign_Tuple]
  refine wpAny_bind (wpAny_standAt ?_)
  unfold unpack
  rw [hn, hst]
  refine wpAny_bind (wpAny_holding (star_tup ht (I.ok.hd hc) (by rw [List.size_toArray]; omega) (by rw [List.size_toArray, hlen]; simpa using hz) fun h' tk hx => ?_))
  have I1 : Inv X pins σ H { s with heap := h', toks := tk } := I.kept fun b o e => hx b o (Nat.ne_of_lt (Heap.lt_size e)) e
  cases rv with
  | @cons _ u1 _ r1 q1 rv =>
    cases rv with
    | @cons _ u2 _ r2 q2 rv =>
      unfold newList
      show wpAny _ _ (newObj (.type "list") (.seq (r2 : List Value).toArray)) _ _ _
      refine wpAny_newObj_type ?_ (by
        show (r2.toArray).size ≤ sizeLine
        rw [List.size_toArray, ← rv.length]
        have : rest.length + 2 ≤ sizeLine := by simpa using hz
        omega)
      have nw : ObjOk X.prog X.w (upd H h'.objs.size (.lst rest)) (h'.push { cls := .type "list", data := .seq r2.toArray }) h'.objs.size (.lst rest) :=
        ⟨by have : rest.length + 2 ≤ sizeLine := by simpa using hz
            omega, r2, _, rv, Heap.get?_push_size _ rfl⟩
      have I2 := I1.laid (t' := tk) (fun b o e => Heap.get?_push_of_some (h := h') _ e) (Nat.le_refl _) nw
      rw [hm]
      exact h.run pins _ σ _ [x, y, .ref h'.objs.size] [u1, u2, .ref h'.objs.size] Q I2 (.cons q1 (.cons q2 (.cons rfl .nil))) (hw _ (I1.hok.fresh (Nat.le_refl _)))
/-! ### o.f as a target -/
def gFld (K : PySem.W.Frag) (to : TE) (f : Str) : TG := fun v σ H Q => to σ H fun x H1 => ∃ a C dx fs, x = .ref a ∧ H1 a = some (.ins C dx fs) ∧ Cls K C ∧ NoAttr K C f ∧ fs.length < 1000 ∧ Q σ (upd H1 a (.ins C dx (putF f v fs)))
theorem pg_fld {o : Expr} {f : Str} {pos : Pos} {to : TE} (ho : PE X o to) : PG X (.Attribute o f pos) (gFld X.K to f) := by
  refine ⟨fun pins s σ H v u Q I r h => ?_⟩
  show wpAny _ _ (do
    let ov ← holding [u] (eval o X.env)
    standAt pos.atName
    holding [u, ov] (setAttr ov f u)
    release [u, ov] []) _ _ _
  refine wpAny_bind (wpAny_holding (thn (ho.run pins s σ H _ I h) fun ov s1 ⟨x, H1, I1, r1, a, C, dx, fs, ex, ea, c, n, l, q⟩ => ?_))
  subst ex
  obtain rfl : ov = Value.ref a := r1
  refine wpAny_bind (wpAny_standAt (wpAny_bind (wpAny_holding (setattr_ok I1 ea c n l r fun s2 I2 => ?_))))
  exact wpAny_release ⟨σ, _, I2, q⟩
/-! ### a list against an empty one, a dict against an empty one -/
theorem lst_at {pins : List (Addr × Obj)} {σ : L2.St} {H : Hp} {s : Shared} {a : Addr} {xs : List V} (I : Inv X pins σ H s) (e : H a = some (.lst xs)) : ∃ its : Array Value, s.heap.IsList a its ∧ its.size = xs.length := by
  obtain ⟨z, its, n, r, h⟩ := (show ObjOk X.prog X.w H s.heap a (.lst xs) from I.hok a _ e)
  exact ⟨its.toArray, ⟨_, h, rfl, n, rfl⟩, by rw [List.size_toArray, r.length]⟩
def rEq0 (neg : Bool) : R2 := fun x y H Q => ∃ (a b : Addr) (xs : List V), x = .ref a ∧ y = .ref b ∧ H a = some (.lst xs) ∧ H b = some (.lst []) ∧ Q (.bl (if neg then !xs.isEmpty else xs.isEmpty)) H
theorem op_eq0 (hu : X.A.units < cLine) : OpR X (compareOp .Eq) (rEq0 false) := by
  intro pins s σ H x y v u Q I rx ry h
  obtain ⟨a, b, xs, rfl, rfl, ea, eb, q⟩ := h
  cases rx
  cases ry
  obtain ⟨i1, l1, z1⟩ := lst_at I ea
  obtain ⟨i2, l2, z2⟩ := lst_at I eb
  cases xs with
  | nil =>
    refine SeqAt.eq_listAt (e := fun _ => true) l1 l2 (z1.trans z2.symm) hu (fun j h1 _ => absurd h1 (by rw [z1]; exact Nat.not_lt_zero _)) ?_
    rw [z1]
    exact ⟨.bl true, H, I, rfl, q⟩
  | cons x0 r => exact SeqAt.eq_list_lengthsAt l1 l2 (by rw [z1, z2]; rfl) hu ⟨.bl false, H, I, rfl, q⟩
theorem op_ne0 (hu : X.A.units < cLine) : OpR X (compareOp .NotEq) (rEq0 true) := by
  intro pins s σ H x y v u Q I rx ry h
  obtain ⟨a, b, xs, rfl, rfl, ea, eb, q⟩ := h
  cases rx
  cases ry
  obtain ⟨i1, l1, z1⟩ := lst_at I ea
  obtain ⟨i2, l2, z2⟩ := lst_at I eb
  cases xs with
  | nil =>
    refine SeqAt.RcNeAt.lists (e := fun _ => true) l1 l2 (z1.trans z2.symm) hu (fun j h1 _ => absurd h1 (by rw [z1]; exact Nat.not_lt_zero _)) _ _ _ _ ?_
    rw [z1]
    exact ⟨.bl false, H, I, rfl, q⟩
  | cons x0 r => exact SeqAt.RcNeAt.lists_lengths l1 l2 (by rw [z1, z2]; rfl) hu _ _ _ _ ⟨.bl true, H, I, rfl, q⟩
def rEqD0 : R2 := fun x y H Q => ∃ (a b : Addr) (ks : List (Key × V)), x = .ref a ∧ y = .ref b ∧ H a = some (.dK ks) ∧ H b = some (.dK []) ∧ Q (.bl ks.isEmpty) H
theorem op_eqD0 (hu : X.A.units < cLine) : OpR X (compareOp .Eq) rEqD0 := by
  intro pins s σ H x y v u Q I rx ry h
  obtain ⟨a, b, ks, rfl, rfl, ea, eb, q⟩ := h
  obtain rfl : v = Value.ref a := rx
  obtain rfl : u = Value.ref b := ry
  obtain ⟨_, ya, va, ra, da⟩ := (show ObjOk X.prog X.w H s.heap a (.dK ks) from I.hok a _ ea)
  obtain ⟨_, yb, vb, rb, db⟩ := (show ObjOk X.prog X.w H s.heap b (.dK []) from I.hok b _ eb)
  cases rb
  cases ra with
  | nil => exact PySem.W.keq_eq (knd := mixKind X.prog X.w) (r := true) ya yb da db hu (fun _ => hits_all (.nil) (.nil) (fun _ hp => absurd hp (by simp))) (fin_bl I q (by rfl))
  | cons r0 r1 => exact PySem.W.keq_eq (knd := mixKind X.prog X.w) (r := true) ya yb da db hu (fun z => absurd z (by simp)) (fin_bl I q (by simp))
/-! ### a text some times -/
def rMulS : R2 := fun x y H Q => ∃ (z : Str) (n : Int), x = .str z ∧ y = .int n ∧ 0 ≤ n ∧ n ≤ 1000 ∧ z.length ≤ 1000 ∧ Q (.str (Txt.mul z n)) H
theorem op_mulS : OpR X (binaryOp .Mult) rMulS := by
  intro pins s σ H x y v u Q I rx ry h
  obtain ⟨z, n, rfl, rfl, h0, h1, hz, q⟩ := h
  obtain ⟨t, rfl⟩ := rx
  obtain ⟨t', rfl⟩ := ry
  refine SB.mul (mulOk_of 1000 1000 hz h1 (by omega) (by decide) (by decide)) fun t2 k => ?_
  exact ⟨.str (Txt.mul z n), H, I.tok k, ⟨t2, rfl⟩, q⟩
/-! ### get of a written dict -/
def tKGet2 (K : PySem.W.Frag) (d : Addr) (to te tf : TE) : TE := fun σ H Q => to σ H fun x H1 => x = .ref d ∧ te σ H1 fun y H2 => tf σ H2 fun z H3 => ∃ (k : Str) (r : Option Value) (v : V), y = .str k ∧ PySem.W.nsIn K d k = some r ∧
  (∀ u, r = some u → RelV v u) ∧ (r = none → v = z) ∧ Q v H3
theorem pe_kget2 {o e f : Expr} {apos cpos : Pos} {to te tf : TE} {d : Addr} {es : Array DictEntry} {n : Nat} (D : KDict X.K X.w d es n) (ho : PE X o to) (he : PE X e te) (hf : PE X f tf) (m : M2 X o "get" apos e f cpos) :
    PE X (.Call (.Attribute o "get" apos) [e, f] [] cpos) (tKGet2 X.K d to te tf) := by
  refine ⟨fun pins s σ H Q I h => ?_⟩
  refine wpAny_Call_method m.base m.few m.line PySem.F.plainAttrs_dict PySem.F.slot_dict_get PySem.F.type_dict_get (thn (ho.run pins s σ H _ I h) fun u s1 ⟨x, H1, I1, rx, ex, q1⟩ => ?_)
  subst ex
  obtain rfl : u = Value.ref d := rx
  refine ⟨kd_type D I1, fun b q => ?_, ?_⟩
  · cases q
    exact ⟨_, I1.kIn _ _ D.at_, rfl⟩
  rw [m.trees]
  refine Calls.callWith_builtin rfl (Calls.evalArgs_plain (Calls.spliced_cons (thn (he.run pins s1 σ H1 _ I1 q1) fun iv s2 ⟨y, H2, I2, ry, q2⟩ =>
    Calls.spliced_cons (thn (hf.run pins s2 σ H2 _ I2 q2) fun fv s3 ⟨z, H3, I3, rz, k, r, v, ey, en, h1, h2, q3⟩ => Calls.spliced_nil ?_))))
  subst ey
  obtain ⟨t, rfl⟩ := ry
  refine call_meetsIn PySem.F.slot_dict_get (kd_type D I3) PySem.F.entry_dict_get (PySem.F.args_dict_get_3 _ _ _) (meets_dict_get_default (strKind X.prog X.w) d (strKind_is X.prog X.w k t) D.low fv)
    ⟨_, PySem.W.mapOf_K (prog := X.prog) I3.kIn D.at_ D.lit, ?_⟩
  rw [PySem.W.find_K D.at_ en]
  cases r with
  | some u => exact ⟨v, H3, I3.tok _, h1 u rfl, q3⟩
  | none =>
    have e : v = z := h2 rfl
    exact ⟨v, H3, I3.tok _, by rw [e]; exact rz, q3⟩
end
/-! ### several clauses «except X as n», each with the name in slot i -/
def wAsMany (K : PySem.W.Frag) (i : Nat) (Wout : WX) (D : Ends) : List (Value × (Addr → Value → Option Addr → TS)) → WX
  | [] => Wout
  | (c, ts) :: r => fun cls d σ H => ∃ b, PySem.W.exmOne K cls c = some b ∧
    (b = true → ∀ a, H a = none → ts a cls d { nx := fun σ' H' => D.nx (σ'.set i none) H', rt := D.rt, bk := fun σ' H' => D.bk (σ'.set i none) H', ct := fun σ' H' => D.ct (σ'.set i none) H' } (σ.set i (some (.ref a))) H) ∧
    (b = false → wAsMany K i Wout D r cls d σ H)
inductive AsHds (X : Cx) (n : Str) : List ExceptHandler → List (Value × (Addr → Value → Option Addr → TS)) → Prop
  | nil : AsHds X n [] []
  | cons {x : Str} {c : Value} {ts : Addr → Value → Option Addr → TS} {st0 : Stmt} {suite : List Stmt} {np pos' : Pos} {hds : List ExceptHandler} {l : List (Value × (Addr → Value → Option Addr → TS))} (hc : Names X x c)
      (hsu : ∀ (a : Addr) (oe : Obj) (cls : Value) (d : Option Addr) (pn : List (Addr × Obj)), Zc cls d oe → (∃ vs, oe.data = .fields vs) → PSs (X.suite a ((a, oe) :: pn)) (st0 :: suite) (ts a cls d)) (r : AsHds X n hds l) :
      AsHds X n (.ExceptHandler (some (.Name x np)) (some n) (st0 :: suite) pos' :: hds) ((c, ts) :: l)
section
variable {X : Cx} {n : Str} {i : Nat} {body : List Stmt} {hd0 : ExceptHandler} {hds : List ExceptHandler} {l : List (Value × (Addr → Value → Option Addr → TS))} {pos : Pos} {tb : WX → TS} {Wout : WX}
/-- the handlers are looked at, the exception on the ground B -/
theorem as_hds {pins pins' : List (Addr × Obj)} {σ' : L2.St} {H' : Hp} {sI s' : Shared} {B : Heap} {a : Addr} {cls : Value} {d : Option Addr} {D : Ends} {h3 : Heap} (ok : X.Ok) (hs : X.stack = X.env :: X.outer) (hf : X.env.frame = some X.env.locals) (hN : X.N.Nodup) (hi : X.N[i]? = some n)
    (hln : X.env.kindOf n = some .local) (tk : Takes X Wout) (J : Inv X pins σ' H' sI) (nb : ∀ b o, sI.heap.get? b = some o → b ∉ frs X.stack → B.get? b = some o) (up : sI.heap.UpToSlots s'.heap) (up3 : s'.heap.UpToSlots h3) (os : s'.os = sI.os) (ag : AllBare s'.gens) (na : H' a = none)
    (fl3 : HandSPX.FlyingZ B (X.env :: X.outer) a (Zc cls d) h3) : ∀ {hs' : List ExceptHandler} {l' : List (Value × (Addr → Value → Option Addr → TS))}, AsHds X n hs' l' → wAsMany X.K i Wout D l' cls d σ' H' →
      wpAny (model X.prog X.w) X.A (handleBy (.ref a) X.env hs') (SP X pins D) X.xe { s' with heap := h3 } := by
  have J3 : Inv X pins σ' H' { s' with heap := h3 } := J.landed nb fl3.1 (up.trans up3) os ag
  obtain ⟨oe3, vs3, he3, hz3, hd3⟩ := fl3.there
  have away : a ∉ frs (X.env :: X.outer) := fun hm => by
    obtain ⟨_, o', e', hnf⟩ := fl3.2.2.1.mem hm
    have eo : oe3 = o' := Option.some.inj (he3.symm.trans e')
    exact hnf _ (by rw [← eo]; exact hd3)
  have nL : a ≠ X.env.locals := fun z => away (List.mem_filterMap.mpr ⟨X.env, List.mem_cons_self, by rw [hf, z]⟩)
  have nF : a ∉ X.fs := fun hm => by
    obtain ⟨e, he, q⟩ := List.mem_filterMap.mp hm
    exact away (List.mem_filterMap.mpr ⟨e, List.mem_cons_of_mem _ he, q⟩)
  have S3 := J3.suite he3 hd3 na nL nF
  intro hs' l' hk
  induction hk with
  | nil =>
    intro w
    refine wpAny_handleBy_nil ?_
    obtain ⟨k1, k2, k3, oe, vs, T, oT, ts', he, hz, hd, h1, hr⟩ := id fl3
    unfold PySem.passOn
    refine wpAny_bind (wpAny_field he hd h1 ?_)
    rw [if_neg (show ¬ ((Value.ref T == Value.none) = true) from by simp)]
    have go : wpAny (model X.prog X.w) X.A (setFlight (.ref a) X.env.frame) (fun _ s4 => wpAny (model X.prog X.w) X.A (throw (.ref a) : Sem Flow) (SP X pins D) X.xe s4) X.xe { s' with heap := h3 } := by
      rw [hf]
      refine HandSPX.setFlight_upZ fl3 fun h4 hh4 up4 => wpAny_throw (tk _ _ ?_)
      exact ⟨a, B, sI, pins, σ', H', cls, d, rfl, J, nb, (up.trans up3).trans up4, .inr (.inr (by rw [hs]; exact hh4)), na, os, ag, w⟩
    first
      | exact wpAny_bind (wpAny_pure (wpAny_bind go))
      | exact wpAny_bind go
  | @cons x c ts st0 suite np pos' hds2 l2 hc hsu r ih =>
    intro w
    obtain ⟨b, hb1, hyes, hno⟩ := w
    refine wpAny_handleBy_cons (codeAny_handlers_test ?_) (by intro q; cases q)
    have LT : PySem.W.Looks (model X.prog X.w) h3 (typeOf (.ref a)) cls := fun A Q E s k q => wpAny_typeOf_ref (k _ _ he3) (by rw [hz3.1]; exact q)
    have LM := PySem.W.exm_one (M := model X.prog X.w) J3.kIn LT hb1
    have test : ∀ {Q : Value → Shared → Prop} {E : Value → Shared → Prop}, Q c { s' with heap := h3 } → wpAny (model X.prog X.w) (X.A.mark (some (.ref a))) (eval (.Name x np) X.env) Q E { s' with heap := h3 } := fun {Q E} q => by
      obtain ⟨hg, hdbg, hm | ⟨hm, hv, hnn⟩⟩ := hc
      · exact ld_glob (X := X.suite a ((a, oe3) :: (X.pn ++ pins))) S3 hg hm q hdbg
      · exact ld_blt (X := X.suite a ((a, oe3) :: (X.pn ++ pins))) S3 hg hm hv q hnn hdbg
    refine test (LM.here ?_)
    cases b with
    | true =>
      refine codeAny_handlers_suite_as ?_
      refine HandSPX.lands_againZ fl3 fun h4 fl4 up4 => ?_
      have J4 : Inv X pins σ' H' { s' with heap := h4 } := J.landed nb fl4.1 ((up.trans up3).trans up4) os ag
      obtain ⟨oe4, vs4, he4, hz4, hd4⟩ := fl4.there
      have S4 := J4.suite he4 hd4 na nL nF
      refine store_ok (X := X.suite a ((a, oe4) :: (X.pn ++ pins))) (v := .ref a) S4 hN hi (.inl hln) rfl (fun s5 S5 => ?_) (.inr hln)
      refine wpAny_mono ((hsu a oe4 cls d (X.pn ++ pins) hz4 ⟨_, hd4⟩).run [] s5 _ H' _ S5 (hyes rfl a na)) (fun f s6 hsp => ?_) (fun _ _ z => False.elim z)
      have end_ : ∀ {σ6 : L2.St} {H6 : Hp} {Q : Shared → Prop}, Inv (X.suite a ((a, oe4) :: (X.pn ++ pins))) [] σ6 H6 s6 → (∀ s7, Inv X pins (σ6.set i none) H6 s7 → Q s7) →
          wpAny (model X.prog X.w) X.A (do bindName X.env n .none; unbindBehindTheSuite X.env n pos') (fun _ s7 => Q s7) X.xe s6 := fun {σ6 H6 Q} S6 hq => gone_ok (S6.unsuite ok) hN hi hln hq
      cases f with
      | next =>
        obtain ⟨σ6, H6, S6, q6⟩ := hsp
        exact end_ S6 fun s7 J7 => ⟨_, _, J7, q6⟩
      | brk =>
        obtain ⟨σ6, H6, S6, q6⟩ := hsp
        exact end_ S6 fun s7 J7 => ⟨_, _, J7, q6⟩
      | cont =>
        obtain ⟨σ6, H6, S6, q6⟩ := hsp
        exact end_ S6 fun s7 J7 => ⟨_, _, J7, q6⟩
      | ret u =>
        obtain ⟨v6, σ6, H6, S6, r6, q6⟩ := hsp
        exact end_ S6 fun s7 J7 => ⟨_, _, _, J7, r6, q6⟩
    | false =>
      show wpAny _ X.A (handleBy (.ref a) X.env hds2) _ _ _
      exact ih (hno rfl)
theorem ps_try_asMany (hs : X.stack = X.env :: X.outer) (hf : X.env.frame = some X.env.locals) (hN : X.N.Nodup) (hi : X.N[i]? = some n) (hln : X.env.kindOf n = some .local) (tk : Takes X Wout)
    (hb : ∀ (W : WX) (pn : List (Addr × Obj)) (xe : Value → Shared → Prop), Takes (X.tr pn xe) W → PassesOwn (model X.prog X.w) X.A X.env xe → PSs (X.tr pn xe) body (tb W))
    (hh : AsHds X n (hd0 :: hds) l) : PS X (.Try body (hd0 :: hds) [] [] pos) (fun D σ H => tb (wAsMany X.K i Wout D l) D σ H) := by
  refine ⟨fun pins s σ H D I h => ?_⟩
  have ok := I.ok
  have hfr : X.A.frames = some (X.env :: X.outer) := by rw [ok.frames, hs]
  refine wpAny_Try_except ?_
  refine wpAny_mono ((hb (wAsMany X.K i Wout D l) (X.pn ++ pins) (fun e s1 => wpAny (model X.prog X.w) X.A (noteFrame e X.env) (fun _ s2 => wpAny (model X.prog X.w) X.A (setFlight e none) (fun _ s3 =>
    wpAny (model X.prog X.w) X.A (handleBy e X.env (hd0 :: hds)) (SP X pins D) X.xe s3) X.xe s2) X.xe s1) (fun u s' xx => ?_) PassesOwn.looking).run [] s σ H D (I.toTry _) h) (fun f s1 hsp => ?_) (fun e s1 he => he)
  · obtain ⟨a, B, sI, pins', σ', H', cls, d, rfl, J', nb, up, sky, na, os, ag, w⟩ := xx
    have J : Inv X pins σ' H' sI := J'.ofTry ok
    have sky' : Sky B (X.env :: X.outer) a (Zc cls d) X.env.locals s'.heap := by rw [← hs]; exact sky
    show wpAny (model X.prog X.w) X.A (noteFrame (.ref a) X.env) _ _ _
    exact Sky.land Zc.steady hfr hf sky' fun h3 fl3 up3 => as_hds (pins' := pins') ok hs hf hN hi hln tk J nb up up3 os ag na fl3 hh w
  · cases f with
    | next =>
      obtain ⟨σ', H', J', q⟩ := hsp
      exact wpAny_execs_nil ⟨σ', H', J'.ofTry ok, q⟩
    | brk =>
      obtain ⟨σ', H', J', q⟩ := hsp
      exact ⟨σ', H', J'.ofTry ok, q⟩
    | cont =>
      obtain ⟨σ', H', J', q⟩ := hsp
      exact ⟨σ', H', J'.ofTry ok, q⟩
    | ret u =>
      obtain ⟨v, σ', H', J', r, q⟩ := hsp
      exact ⟨v, σ', H', J'.ofTry ok, r, q⟩
end
end R60

set_option Elab.async false
set_option linter.all false
set_option maxRecDepth 100000
set_option maxHeartbeats 4000000
namespace R60
open PySem PySem.Spec PyProof.Rows L2
/-! ### data, and where it lies -/
inductive D where
  | non | bl (b : Bool) | int (i : Int) | str (z : Str) | lst (xs : List D) | tup (xs : List D)
abbrev Ex (F H : Hp) : Prop := Same F H
theorem ex_sql {K : PySem.W.Frag} {F H : Hp} {a : Addr} {xs : List V} (e : Ex F H) (h : SqL K F a xs) : SqL K H a xs := e.seq h
theorem ex_sqt {K : PySem.W.Frag} {F H : Hp} {a : Addr} {xs : List V} (e : Ex F H) (h : SqT K F a xs) : SqT K H a xs := by
  rcases h with (h | ⟨o, h⟩) | h
  · exact .inl (.inl (e _ _ h))
  · exact .inl (.inr ⟨o, e _ _ h⟩)
  · exact .inr h
inductive DAs (K : PySem.W.Frag) (F : Hp) : List D → List V → Prop
  | nil : DAs K F [] []
  | non {ds vs} : DAs K F ds vs → DAs K F (.non :: ds) (.non :: vs)
  | bl {b ds vs} : DAs K F ds vs → DAs K F (.bl b :: ds) (.bl b :: vs)
  | int {i ds vs} : DAs K F ds vs → DAs K F (.int i :: ds) (.int i :: vs)
  | str {z ds vs} : DAs K F ds vs → DAs K F (.str z :: ds) (.str z :: vs)
  | lst {a xs es ds vs} : F a = some (.lst xs) → DAs K F es xs → DAs K F ds vs → DAs K F (.lst es :: ds) (.ref a :: vs)
  | tup {a xs es ds vs} : SqT K F a xs → DAs K F es xs → DAs K F ds vs → DAs K F (.tup es :: ds) (.ref a :: vs)
abbrev DAt (K : PySem.W.Frag) (F : Hp) (d : D) (v : V) : Prop := DAs K F [d] [v]
section
variable {K : PySem.W.Frag} {F F' H : Hp} {ds es : List D} {vs us xs : List V} {d : D} {v : V} {a : Addr}
theorem DAs.mono (e : Ex F F') (h : DAs K F ds vs) : DAs K F' ds vs := by
  induction h with
  | nil => exact .nil
  | non _ ih => exact .non ih
  | bl _ ih => exact .bl ih
  | int _ ih => exact .int ih
  | str _ ih => exact .str ih
  | lst h _ _ i1 i2 => exact .lst (e _ _ h) i1 i2
  | tup h _ _ i1 i2 => exact .tup (ex_sqt e h) i1 i2
theorem DAs.length (h : DAs K F ds vs) : ds.length = vs.length := by
  induction h with
  | nil => rfl
  | lst _ _ _ _ i2 => simp [i2]
  | tup _ _ _ _ i2 => simp [i2]
  | _ => simp [*]
theorem DAs.un (h : DAs K F (d :: ds) vs) : ∃ v r, vs = v :: r ∧ DAt K F d v ∧ DAs K F ds r := by
  cases h with
  | non h => exact ⟨_, _, rfl, .non .nil, h⟩
  | bl h => exact ⟨_, _, rfl, .bl .nil, h⟩
  | int h => exact ⟨_, _, rfl, .int .nil, h⟩
  | str h => exact ⟨_, _, rfl, .str .nil, h⟩
  | lst a b h => exact ⟨_, _, rfl, .lst a b .nil, h⟩
  | tup a b h => exact ⟨_, _, rfl, .tup a b .nil, h⟩
theorem DAs.cons (h : DAt K F d v) (r : DAs K F ds vs) : DAs K F (d :: ds) (v :: vs) := by
  cases h with
  | non h => exact .non r
  | bl h => exact .bl r
  | int h => exact .int r
  | str h => exact .str r
  | lst a b h => exact .lst a b r
  | tup a b h => exact .tup a b r
theorem DAs.nl (h : DAs K F [] vs) : vs = [] := by cases h; rfl
theorem DAs.get (h : DAs K F ds vs) : ∀ {i : Nat} {d : D}, ds[i]? = some d → ∃ v, vs[i]? = some v ∧ DAt K F d v := by
  induction ds generalizing vs with
  | nil => intro i d e; simp at e
  | cons x r ih =>
    obtain ⟨v, q, rfl, h1, h2⟩ := h.un
    intro i d e
    cases i with
    | zero =>
      simp at e
      subst e
      exact ⟨v, rfl, h1⟩
    | succ i =>
      obtain ⟨u, e1, e2⟩ := ih h2 (i := i) (by simpa using e)
      exact ⟨u, by simpa using e1, e2⟩
theorem DAs.getV (h : DAs K F ds vs) : ∀ {i : Nat} {v : V}, vs[i]? = some v → ∃ d, ds[i]? = some d ∧ DAt K F d v := by
  intro i v e
  have hl := h.length
  have hi : i < ds.length := by rw [hl]; exact (List.getElem?_eq_some_iff.mp e).1
  obtain ⟨u, e1, e2⟩ := h.get (i := i) (d := ds[i]) (by simp [hi])
  rw [e] at e1
  cases e1
  exact ⟨ds[i], by simp [hi], e2⟩
theorem DAs.append (h : DAs K F ds vs) (h' : DAs K F es us) : DAs K F (ds ++ es) (vs ++ us) := by
  induction ds generalizing vs with
  | nil => rw [h.nl]; exact h'
  | cons x r ih =>
    obtain ⟨v, q, rfl, h1, h2⟩ := h.un
    exact .cons h1 (ih h2)
theorem DAs.take (h : DAs K F ds vs) : ∀ n, DAs K F (ds.take n) (vs.take n) := by
  induction ds generalizing vs with
  | nil => intro n; rw [h.nl]; simp; exact .nil
  | cons x r ih =>
    obtain ⟨v, q, rfl, h1, h2⟩ := h.un
    intro n
    cases n with
    | zero => exact .nil
    | succ n => exact .cons h1 (ih h2 n)
theorem DAs.drop (h : DAs K F ds vs) : ∀ n, DAs K F (ds.drop n) (vs.drop n) := by
  induction ds generalizing vs with
  | nil => intro n; rw [h.nl]; simp; exact .nil
  | cons x r ih =>
    obtain ⟨v, q, rfl, h1, h2⟩ := h.un
    intro n
    cases n with
    | zero => exact h
    | succ n => exact ih h2 n
theorem DAt.i {i : Int} (h : DAt K F (.int i) v) : v = .int i := by cases h; rfl
theorem DAt.b {b : Bool} (h : DAt K F (.bl b) v) : v = .bl b := by cases h; rfl
theorem DAt.s {z : Str} (h : DAt K F (.str z) v) : v = .str z := by cases h; rfl
theorem DAt.n (h : DAt K F .non v) : v = .non := by cases h; rfl
theorem DAt.l (h : DAt K F (.lst es) v) : ∃ a xs, v = .ref a ∧ F a = some (.lst xs) ∧ DAs K F es xs := by
  cases h with
  | lst a b h => exact ⟨_, _, rfl, a, b⟩
theorem DAt.t (h : DAt K F (.tup es) v) : ∃ a xs, v = .ref a ∧ SqT K F a xs ∧ DAs K F es xs := by
  cases h with
  | tup a b h => exact ⟨_, _, rfl, a, b⟩
theorem DAs.ints : ∀ (ns : List Int), DAs K F (ns.map D.int) (ns.map V.int)
  | [] => .nil
  | _ :: r => .int (DAs.ints r)
theorem DAs.strs : ∀ (ns : List Str), DAs K F (ns.map D.str) (ns.map V.str)
  | [] => .nil
  | _ :: r => .str (DAs.strs r)
theorem DAs.bls : ∀ (ns : List Bool), DAs K F (ns.map D.bl) (ns.map V.bl)
  | [] => .nil
  | _ :: r => .bl (DAs.bls r)
theorem DAs.isInts : ∀ {ns : List Int} {vs : List V}, DAs K F (ns.map D.int) vs → vs = ns.map V.int
  | [], _, h => h.nl
  | i :: r, _, h => by
    obtain ⟨v, q, rfl, h1, h2⟩ := DAs.un h
    rw [h1.i, DAs.isInts h2] <;> rfl
theorem DAs.isStrs : ∀ {ns : List Str} {vs : List V}, DAs K F (ns.map D.str) vs → vs = ns.map V.str
  | [], _, h => h.nl
  | i :: r, _, h => by
    obtain ⟨v, q, rfl, h1, h2⟩ := DAs.un h
    rw [h1.s, DAs.isStrs h2] <;> rfl
theorem DAs.isBls : ∀ {ns : List Bool} {vs : List V}, DAs K F (ns.map D.bl) vs → vs = ns.map V.bl
  | [], _, h => h.nl
  | i :: r, _, h => by
    obtain ⟨v, q, rfl, h1, h2⟩ := DAs.un h
    rw [h1.b, DAs.isBls h2] <;> rfl
end
/-! ### kinds of values, slots, growth -/
structure Ty where
  p : V → Hp → Prop
  mono : ∀ v F F', Ex F F' → p v F → p v F'
def Is (K : PySem.W.Frag) (d : D) : Ty := ⟨fun v F => DAt K F d v, fun _ _ _ e h => h.mono e⟩
/-- a value that is known -/
def Vl (u : V) : Ty := ⟨fun v _ => v = u, fun _ _ _ _ h => h⟩
def Ty.ex {α : Type} (φ : α → Prop) (T : α → Ty) : Ty := ⟨fun v F => ∃ x, φ x ∧ (T x).p v F, fun v F F' e ⟨x, h, q⟩ => ⟨x, h, (T x).mono v F F' e q⟩⟩
structure Gr (U : Addr → Prop) (F H F' H' : Hp) : Prop where
  ff : Ex F F'
  fh : Ex F' H'
  hh : ∀ b o, ¬ U b → H b = some o → H' b = some o
  dm : ∀ b, H' b = none → H b = none
  nw : ∀ b, F b = none → H b ≠ none → F' b = none
abbrev Gr0 := Gr (fun _ => False)
section
variable {U : Addr → Prop} {F H F1 H1 F2 H2 : Hp}
theorem Gr.refl (e : Ex F H) : Gr U F H F H := ⟨Same.refl F, e, fun _ _ _ h => h, fun _ h => h, fun _ h _ => h⟩
theorem Gr.trans (a : Gr U F H F1 H1) (b : Gr U F1 H1 F2 H2) : Gr U F H F2 H2 :=
  ⟨a.ff.trans b.ff, b.fh, fun x o n h => b.hh x o n (a.hh x o n h), fun x h => a.dm x (b.dm x h), fun x h n => b.nw x (a.nw x h n) fun q => n (a.dm x q)⟩
theorem Gr.weak (a : Gr0 F H F1 H1) : Gr U F H F1 H1 := ⟨a.ff, a.fh, fun x o _ h => a.hh x o (fun q => q) h, a.dm, a.nw⟩
theorem Gr.new {p : Addr} {o : HO} (e : Ex F H) (hp : H p = none) : Gr U F H (upd F p o) (upd H p o) := by
  have fp : F p = none := Same.free e hp
  refine ⟨fun b u q => ?_, fun b u q => ?_, fun b u _ q => ?_, fun b q => ?_, fun b q n => ?_⟩
  · rw [upd_ne (ne_of_none q fp)]; exact q
  · by_cases hb : b = p
    · subst hb; rw [upd_same] at q; rw [upd_same]; exact q
    · rw [upd_ne hb] at q; rw [upd_ne hb]; exact e b u q
  · rw [upd_ne (ne_of_none q hp)]; exact q
  · by_cases hb : b = p
    · subst hb; exact hp
    · rw [upd_ne hb] at q; exact q
  · have hb : b ≠ p := fun z => n (by rw [z]; exact hp)
    rw [upd_ne hb]; exact q
/-- a new object that isn't fixed -/
theorem Gr.scratch {p : Addr} {o : HO} (e : Ex F H) (hp : H p = none) : Gr U F H F (upd H p o) := by
  have fp : F p = none := Same.free e hp
  refine ⟨Same.refl F, fun b u q => ?_, fun b u _ q => ?_, fun b q => ?_, fun b q n => q⟩
  · rw [upd_ne (ne_of_none q fp)]; exact e b u q
  · rw [upd_ne (ne_of_none q hp)]; exact q
  · by_cases hb : b = p
    · subst hb; exact hp
    · rw [upd_ne hb] at q; exact q
theorem Gr.same (a : Gr0 F H F1 H1) : Same H H1 := fun b o h => a.hh b o (fun q => q) h
end
structure Mu where
  U : Addr → Prop
  I : Hp → Hp → Prop
  st : ∀ F H F' H', Gr0 F H F' H' → I F H → I F' H'
  up : ∀ F H b, I F H → U b → H b ≠ none
  loc : ∀ F H H', (∀ b, U b → H' b = H b) → I F H → I F H'
  add : ∀ F H p o, ¬ U p → F p = none → I F H → I (upd F p o) H
def m0 : Mu := ⟨fun _ => False, fun _ _ => True, fun _ _ _ _ _ _ => trivial, fun _ _ _ _ h => h.elim, fun _ _ _ _ _ => trivial, fun _ _ _ _ _ _ _ => trivial⟩
abbrev Gam := List (Option Ty)
def Holds (Γ : Gam) (σ : L2.St) (F : Hp) : Prop := ∀ (i : Nat) (T : Ty), Γ[i]? = some (some T) → ∃ v, σ[i]? = some (some v) ∧ T.p v F
structure Good (m : Mu) (Γ : Gam) (σ : L2.St) (F H : Hp) : Prop where
  ex : Ex F H
  i : m.I F H
  h : Holds Γ σ F
section
variable {m : Mu} {Γ : Gam} {σ : L2.St} {F H F' H' : Hp}
theorem Holds.mono (e : Ex F F') (h : Holds Γ σ F) : Holds Γ σ F' := fun i T q => by
  obtain ⟨v, e1, p⟩ := h i T q
  exact ⟨v, e1, T.mono v F F' e p⟩
theorem Good.next (g : Good m Γ σ F H) (gr : Gr m.U F H F' H') (i : m.I F' H') : Good m Γ σ F' H' := ⟨gr.fh, i, g.h.mono gr.ff⟩
theorem Good.nx0 (g : Good m Γ σ F H) (gr : Gr0 F H F' H') : Good m Γ σ F' H' := ⟨gr.fh, m.st _ _ _ _ gr g.i, g.h.mono gr.ff⟩
theorem Holds.set {i : Nat} {T : Ty} {v : V} (h : Holds Γ σ F) (hi : i < σ.length) (p : T.p v F) : Holds (Γ.set i (some T)) (σ.set i (some v)) F := fun j S q => by
  by_cases e : i = j
  · subst e
    by_cases l : i < Γ.length
    · rw [List.getElem?_set_self l] at q
      cases q
      exact ⟨v, List.getElem?_set_self hi, p⟩
    · rw [List.getElem?_eq_none (by simpa using l)] at q
      cases q
  · rw [List.getElem?_set_ne e] at q
    obtain ⟨u, e1, p1⟩ := h j S q
    exact ⟨u, by rw [List.getElem?_set_ne e]; exact e1, p1⟩
/-- a slot that has lost its kind may hold anything -/
theorem Holds.lose {i : Nat} {u : Option V} (h : Holds Γ σ F) : Holds (Γ.set i none) (σ.set i u) F := fun j S q => by
  by_cases e : i = j
  · subst e
    by_cases l : i < Γ.length
    · rw [List.getElem?_set_self l] at q
      cases q
    · rw [List.getElem?_eq_none (by simpa using l)] at q
      cases q
  · rw [List.getElem?_set_ne e] at q
    obtain ⟨w, e1, p1⟩ := h j S q
    exact ⟨w, by rw [List.getElem?_set_ne e]; exact e1, p1⟩
theorem Holds.lose1 {i : Nat} (h : Holds Γ σ F) : Holds (Γ.set i none) σ F := fun j S q => by
  by_cases e : i = j
  · subst e
    by_cases l : i < Γ.length
    · rw [List.getElem?_set_self l] at q
      cases q
    · rw [List.getElem?_eq_none (by simpa using l)] at q
      cases q
  · rw [List.getElem?_set_ne e] at q
    exact h j S q
end
def HoldsA : List Ty → List V → Hp → Prop
  | [], [], _ => True
  | T :: Ts, v :: vs, F => T.p v F ∧ HoldsA Ts vs F
  | _, _, _ => False
theorem HoldsA.mono {F F' : Hp} (e : Ex F F') : ∀ {Ts : List Ty} {vs : List V}, HoldsA Ts vs F → HoldsA Ts vs F'
  | [], [], _ => trivial
  | T :: Ts, v :: vs, h => ⟨T.mono v F F' e h.1, HoldsA.mono e h.2⟩
theorem HoldsA.len {F : Hp} : ∀ {Ts : List Ty} {vs : List V}, HoldsA Ts vs F → vs.length = Ts.length
  | [], [], _ => rfl
  | T :: Ts, v :: vs, h => by simp [HoldsA.len h.2]
theorem HoldsA.holds {F : Hp} {k : Nat} : ∀ {Ts : List Ty} {vs : List V}, HoldsA Ts vs F → Holds (Ts.map some ++ List.replicate k none) (vs.map some ++ List.replicate k none) F
  | [], [], _ => fun i T q => by
    simp only [List.map_nil, List.nil_append] at q
    rw [List.getElem?_replicate] at q
    by_cases z : i < k
    · rw [if_pos z] at q; cases q
    · rw [if_neg z] at q; cases q
  | T :: Ts, v :: vs, h => fun i S q => by
    cases i with
    | zero =>
      simp at q
      subst q
      exact ⟨v, rfl, h.1⟩
    | succ i =>
      obtain ⟨u, e, p⟩ := HoldsA.holds h.2 i S (by simpa using q)
      exact ⟨u, by simpa using e, p⟩
/-! ### judgements -/
def tSem (X : Cx) (e : Expr) : TE := fun σ H Q => ∀ pins s, Inv X pins σ H s → wpAny (model X.prog X.w) X.A (eval e X.env) (EP X pins σ Q) X.xe s
def tSemT (X : Cx) (e : Expr) : TT := fun σ H Q => ∀ pins s, Inv X pins σ H s → wpAny (model X.prog X.w) X.A (isTrue e X.env (eval e X.env)) (TP X pins σ Q) X.xe s
def tSemW (X : Cx) (e : Expr) : TT := fun σ H Q => ∀ (whole : Sem Value) pins s, Inv X pins σ H s → wpAny (model X.prog X.w) X.A (isTrue e X.env whole) (TP X pins σ Q) X.xe s
def tSemA (X : Cx) (es : List Expr) : TA := fun σ H Q => ∀ (pos : Pos) pins s, Inv X pins σ H s → wpAny (model X.prog X.w) X.A (spliced (backTo pos (starEach es X.env))) (AP X pins σ Q) X.xe s
def tSemS (X : Cx) (st : List Stmt) : TS := fun D σ H => ∀ pins s, Inv X pins σ H s → wpAny (model X.prog X.w) X.A (execs st X.env) (SP X pins D) X.xe s
def tSem1 (X : Cx) (st : Stmt) : TS := fun D σ H => ∀ pins s, Inv X pins σ H s → wpAny (model X.prog X.w) X.A (exec st X.env) (SP X pins D) X.xe s
theorem sem1 {X : Cx} {st : Stmt} : PS X st (tSem1 X st) := ⟨fun pins s _ _ _ I h => h pins s I⟩
theorem sem {X : Cx} {e : Expr} : PE X e (tSem X e) := ⟨fun pins s _ _ _ I h => h pins s I⟩
theorem semT {X : Cx} {e : Expr} : PT X e (tSemT X e) := ⟨fun pins s _ _ _ I h => h pins s I⟩
theorem semW {X : Cx} {e : Expr} : PW X e (tSemW X e) := ⟨fun wh pins s _ _ _ I h => h wh pins s I⟩
theorem semA {X : Cx} {es : List Expr} : PA X es (tSemA X es) := ⟨fun pos pins s _ _ _ I h => h pos pins s I⟩
theorem semS {X : Cx} {st : List Stmt} : PSs X st (tSemS X st) := ⟨fun pins s _ _ _ I h => h pins s I⟩
def EvE (X : Cx) (m : Mu) (Γ : Gam) (e : Expr) (P : Ty) : Prop := ∀ σ F H, Good m Γ σ F H → ∀ Q : VK, (∀ v F' H', Gr m.U F H F' H' → m.I F' H' → P.p v F' → Q v H') → tSem X e σ H Q
def EvT (X : Cx) (m : Mu) (Γ : Gam) (e : Expr) (S : Bool → Prop) : Prop := ∀ σ F H, Good m Γ σ F H → ∀ Q : Bool → Hp → Prop, (∀ b F' H', Gr m.U F H F' H' → m.I F' H' → S b → Q b H') → tSemT X e σ H Q
def EvW (X : Cx) (m : Mu) (Γ : Gam) (e : Expr) (S : Bool → Prop) : Prop := ∀ σ F H, Good m Γ σ F H → ∀ Q : Bool → Hp → Prop, (∀ b F' H', Gr m.U F H F' H' → m.I F' H' → S b → Q b H') → tSemW X e σ H Q
def EvA (X : Cx) (m : Mu) (Γ : Gam) (es : List Expr) (Ps : List Ty) : Prop := ∀ σ F H, Good m Γ σ F H → ∀ Q : List V → Hp → Prop, (∀ vs F' H', Gr m.U F H F' H' → m.I F' H' → HoldsA Ps vs F' → Q vs H') → tSemA X es σ H Q
/-- an error of ours, told by what it calls itself -/
def ErrM (K : PySem.W.Frag) (mg : Str → Option Value) (C : Addr) : Prop := ∀ t1 t2, mg "TapeError" = some (.ref t1) → mg "MissingError" = some (.ref t2) → ErrC K t1 t2 C
def Cont {α : Type} (K : PySem.W.Frag) (mg : Str → Option Value) (m : Mu) (F H : Hp) (Q : VK) (E : XK) : Except Str α → (α → Ty) → Prop
  | .ok a, enc => ∀ v F' H', Gr m.U F H F' H' → m.I F' H' → (enc a).p v F' → Q v H'
  | .error z, _ => ∀ C d F' H', Gr m.U F H F' H' → m.I F' H' → ErrM K mg C → H' d = some (errD z) → E (.ref C) (some d) H'
def EvX {α : Type} (X : Cx) (m : Mu) (E : XK) (Γ : Gam) (e : Expr) (o : Except Str α) (enc : α → Ty) : Prop := ∀ σ F H, Good m Γ σ F H → ∀ Q : VK, Cont X.K X.mg m F H Q E o enc → tSem X e σ H Q
def EvXA {α : Type} (X : Cx) (m : Mu) (E : XK) (Γ : Gam) (es : List Expr) (o : Except Str α) (enc : α → List Ty) : Prop := ∀ σ F H, Good m Γ σ F H → ∀ Q : List V → Hp → Prop,
  (match o with
    | .ok a => ∀ vs F' H', Gr m.U F H F' H' → m.I F' H' → HoldsA (enc a) vs F' → Q vs H'
    | .error z => ∀ C d F' H', Gr m.U F H F' H' → m.I F' H' → ErrM X.K X.mg C → H' d = some (errD z) → E (.ref C) (some d) H') → tSemA X es σ H Q
/-- a block that ends in return or raise -/
def Blk {α : Type} (X : Cx) (m : Mu) (E : XK) (Γ : Gam) (st : List Stmt) (o : Except Str α) (enc : α → Ty) : Prop := ∀ σ F H, Good m Γ σ F H → ∀ D : Ends, Cont X.K X.mg m F H D.rt E o enc → tSemS X st D σ H
/-- what is wanted of a statement that goes through or raises -/
def CoF {α : Type} (X : Cx) (m : Mu) (E : XK) (F H : Hp) (nx : L2.St → Hp → Prop) : Except Str α → (α → Gam) → Prop
  | .ok a, Γ' => ∀ σ' F' H', Gr m.U F H F' H' → Good m (Γ' a) σ' F' H' → nx σ' H'
  | .error z, _ => ∀ C d F' H', Gr m.U F H F' H' → m.I F' H' → ErrM X.K X.mg C → H' d = some (errD z) → E (.ref C) (some d) H'
/-- a statement that goes through or raises; a block of such -/
def StF {α : Type} (X : Cx) (m : Mu) (E : XK) (Γ : Gam) (st : Stmt) (o : Except Str α) (Γ' : α → Gam) : Prop := ∀ σ F H, Good m Γ σ F H → ∀ D : Ends, CoF X m E F H D.nx o Γ' → tSem1 X st D σ H
def StFs {α : Type} (X : Cx) (m : Mu) (E : XK) (Γ : Gam) (st : List Stmt) (o : Except Str α) (Γ' : α → Gam) : Prop := ∀ σ F H, Good m Γ σ F H → ∀ D : Ends, CoF X m E F H D.nx o Γ' → tSemS X st D σ H
section
variable {X : Cx} {m : Mu} {E : XK} {Γ : Gam} {e a b c : Expr} {t : TE} {P A B C : Ty} {pos : Pos}
theorem EvE.of (h : PE X e t) (r : ∀ σ F H Q, Good m Γ σ F H → (∀ v F' H', Gr m.U F H F' H' → m.I F' H' → P.p v F' → Q v H') → t σ H Q) : EvE X m Γ e P := fun σ F H g Q q pins s I => h.run pins s σ H Q I (r σ F H Q g q)
theorem EvT.of {tt : TT} {S : Bool → Prop} (h : PT X e tt) (r : ∀ σ F H Q, Good m Γ σ F H → (∀ b F' H', Gr m.U F H F' H' → m.I F' H' → S b → Q b H') → tt σ H Q) : EvT X m Γ e S := fun σ F H g Q q pins s I => h.run pins s σ H Q I (r σ F H Q g q)
theorem EvW.of {tt : TT} {S : Bool → Prop} (h : PW X e tt) (r : ∀ σ F H Q, Good m Γ σ F H → (∀ b F' H', Gr m.U F H F' H' → m.I F' H' → S b → Q b H') → tt σ H Q) : EvW X m Γ e S := fun σ F H g Q q wh pins s I => h.run wh pins s σ H Q I (r σ F H Q g q)
theorem EvE.imp (h : EvE X m Γ e P) (i : ∀ v F, P.p v F → A.p v F) : EvE X m Γ e A := fun σ F H g Q q => h σ F H g Q fun v F' H' g1 i1 p => q v F' H' g1 i1 (i v F' p)
theorem EvT.imp {S S' : Bool → Prop} (h : EvT X m Γ e S) (i : ∀ b, S b → S' b) : EvT X m Γ e S' := fun σ F H g Q q => h σ F H g Q fun v F' H' g1 i1 p => q v F' H' g1 i1 (i v p)
theorem EvE.eq {d d' : D} (h : EvE X m Γ e (Is X.K d)) (i : d = d') : EvE X m Γ e (Is X.K d') := by rw [← i]; exact h
theorem EvT.eq {d d' : Bool} (h : EvT X m Γ e (Eq d)) (i : d = d') : EvT X m Γ e (Eq d') := by rw [← i]; exact h
theorem EvW.toT {S : Bool → Prop} (h : EvW X m Γ e S) : EvT X m Γ e S := fun σ F H g Q q pins s I => h σ F H g Q q _ pins s I
theorem EvE.x (h : EvE X m Γ e P) : EvX X m E Γ e (.ok ()) (fun _ => P) := fun σ F H g Q q => h σ F H g Q q
theorem EvE.x' {α : Type} {o : Except Str α} {enc : α → Ty} {v : α} (h : EvE X m Γ e (enc v)) (ho : o = .ok v) : EvX X m E Γ e o enc := fun σ F H g Q q => h σ F H g Q (by rw [ho] at q; exact q)
/-- values that a rule of values makes: nothing that was is changed -/
abbrev Fin (P : Ty) (F H : Hp) (Q : VK) : Prop := ∀ w F' H', Gr0 F H F' H' → P.p w F' → Q w H'
theorem fin_of {F H F0 H0 : Hp} {σ : L2.St} {Q : VK} (g : Good m Γ σ F H) (g0 : Gr m.U F0 H0 F H) (q : ∀ v F' H', Gr m.U F0 H0 F' H' → m.I F' H' → P.p v F' → Q v H') : Fin P F H Q :=
  fun w F' H' g1 p => q w F' H' (g0.trans g1.weak) (m.st _ _ _ _ g1 g.i) p
theorem e_var (i : Nat) {T : Ty} {x : Str} (hΓ : Γ[i]? = some (some T)) (hN : X.N[i]? = some x := by rfl) (hv : Vis X.env.scope x := by first | exact Or.inl rfl | exact Or.inr (Or.inl rfl) | exact Or.inr (Or.inr rfl)) (hd : (x == ("__debug__" : Str)) = false := by decide)
    (hcd : (x == ("__classdict__" : Str)) = false := by decide) : EvE X m Γ (.Name x pos) T := EvE.of (pe_var hN hv hd hcd) fun σ F H Q g q => by
  obtain ⟨v, e1, p⟩ := g.h i T hΓ
  exact ⟨v, e1, q v F H (Gr.refl g.ex) g.i p⟩
theorem e_int {i : Int} {j} : EvE X m Γ (.Constant (.int i) j pos) (Is X.K (.int i)) := EvE.of pe_int fun σ F H Q g q => q _ F H (Gr.refl g.ex) g.i (.int .nil)
theorem e_bl {i : Bool} {j} : EvE X m Γ (.Constant (.bool i) j pos) (Is X.K (.bl i)) := EvE.of pe_bl fun σ F H Q g q => q _ F H (Gr.refl g.ex) g.i (.bl .nil)
theorem e_non {j} : EvE X m Γ (.Constant .none j pos) (Is X.K .non) := EvE.of pe_non fun σ F H Q g q => q _ F H (Gr.refl g.ex) g.i (.non .nil)
theorem e_str {z : Str} {j} : EvE X m Γ (.Constant (.str z) j pos) (Is X.K (.str z)) := EvE.of pe_str fun σ F H Q g q => q _ F H (Gr.refl g.ex) g.i (.str .nil)
theorem e_glob {x : Str} {v : V} {T : Ty} (h : GloV X.mg x v) (p : ∀ F, T.p v F) (hg : Gl X x := by rfl) (hd : (x == ("__debug__" : Str)) = false := by decide) : EvE X m Γ (.Name x pos) T := by
  obtain ⟨u, h1, r⟩ := h
  exact EvE.of (pe_glob hg h1 r hd) fun σ F H Q g q => q _ F H (Gr.refl g.ex) g.i (p F)
theorem ev_two {a b : Expr} (ha : EvE X m Γ a A) (hb : EvE X m Γ b B) {σ : L2.St} {F H : Hp} (g : Good m Γ σ F H) {R : V → V → Hp → Prop} (h : ∀ v u F' H', Gr m.U F H F' H' → Good m Γ σ F' H' → A.p v F' → B.p u F' → R v u H') :
    tSem X a σ H fun x H1 => tSem X b σ H1 fun y H2 => R x y H2 := ha σ F H g _ fun v F1 H1 g1 i1 p1 => hb σ F1 H1 (g.next g1 i1) _ fun u F2 H2 g2 i2 p2 =>
  h v u F2 H2 (g1.trans g2) ((g.next g1 i1).next g2 i2) (A.mono v F1 F2 g2.ff p1) p2
theorem e_bin {op : Operator} {r : R2} (ho : OpR X (binaryOp op) r) (ha : EvE X m Γ a A) (hb : EvE X m Γ b B) (hr : ∀ v u F H (Q : VK), Ex F H → A.p v F → B.p u F → Fin P F H Q → r v u H Q) : EvE X m Γ (.BinOp a op b pos) P :=
  EvE.of (pe_op ho sem sem) fun σ F H Q g q => ev_two ha hb g fun v u F1 H1 g1 gg p1 p2 => hr v u F1 H1 Q gg.ex p1 p2 (fin_of gg g1 q)
theorem e_cmp {op : CmpOp} {r : R2} (ho : OpR X (compareOp op) r) (hm : behindInMarks op b = false) (ha : EvE X m Γ a A) (hb : EvE X m Γ b B) (hr : ∀ v u F H (Q : VK), Ex F H → A.p v F → B.p u F → Fin P F H Q → r v u H Q) : EvE X m Γ (.Compare a [op] [b] pos) P :=
  EvE.of (pe_cmpR ho sem sem hm) fun σ F H Q g q => ev_two ha hb g fun v u F1 H1 g1 gg p1 p2 => hr v u F1 H1 Q gg.ex p1 p2 (fin_of gg g1 q)
/-- a truth value of which S is known -/
def BlS (S : Bool → Prop) : Ty := ⟨fun v _ => ∃ k, v = .bl k ∧ S k, fun _ _ _ _ h => h⟩
theorem t_cmp {op : CmpOp} {r : R2} {S : Bool → Prop} (ho : OpR X (compareOp op) r) (hm : behindInMarks op b = false) (ha : EvE X m Γ a A) (hb : EvE X m Γ b B) (hr : ∀ v u F H (Q : VK), Ex F H → A.p v F → B.p u F → Fin (BlS S) F H Q → r v u H Q) : EvT X m Γ (.Compare a [op] [b] pos) S :=
  EvT.of (pt_cmpR ho sem sem hm) fun σ F H Q g q => ev_two ha hb g fun v u F1 H1 g1 gg p1 p2 => hr v u F1 H1 _ gg.ex p1 p2 fun w F' H' gr p => by
    obtain ⟨k, rfl, hk⟩ := p
    exact ⟨k, rfl, q k F' H' (g1.trans gr.weak) (m.st _ _ _ _ gr gg.i) hk⟩
/-- a value that is True or False, as a test -/
theorem t_val {S : Bool → Prop} (h : EvE X m Γ e (BlS S)) (he : ∀ whole, isTrue e X.env whole = (do let v ← whole; standAt e.pos; holding [v] (truthy v)) := by intro _; rfl) : EvT X m Γ e S :=
  EvT.of (pt_val sem he) fun σ F H Q g q => h σ F H g _ fun v F1 H1 g1 i1 ⟨k, ek, p⟩ => ⟨k, ek, q k F1 H1 g1 i1 p⟩
theorem t_bl {k : Bool} (h : EvE X m Γ e (Is X.K (.bl k))) (he : ∀ whole, isTrue e X.env whole = (do let v ← whole; standAt e.pos; holding [v] (truthy v)) := by intro _; rfl) : EvT X m Γ e (Eq k) :=
  t_val (h.imp fun v F p => ⟨k, DAt.b p, rfl⟩) he
theorem t_not {S : Bool → Prop} (h : EvT X m Γ a S) : EvT X m Γ (.UnaryOp .Not a pos) (fun b => S (!b)) :=
  EvT.of (pt_not semT) fun σ F H Q g q => h σ F H g _ fun b F1 H1 g1 i1 p => q (!b) F1 H1 g1 i1 (by rw [Bool.not_not]; exact p)
theorem t_notB {k : Bool} (h : EvT X m Γ a (Eq k)) : EvT X m Γ (.UnaryOp .Not a pos) (Eq (!k)) := (t_not h).imp fun b e => by rw [e, Bool.not_not]
theorem w_and {rest : List Expr} {S S' R : Bool → Prop} (ha : EvT X m Γ a S) (hb : S true → EvW X m Γ (.BoolOp .And (b :: rest) pos) S') (h1 : S false → R false) (h2 : ∀ k, S true → S' k → R k) : EvW X m Γ (.BoolOp .And (a :: b :: rest) pos) R :=
  EvW.of (pw_and semT semW) fun σ F H Q g q => ha σ F H g _ fun k F1 H1 g1 i1 p => by
    cases k with
    | true =>
      show tSemW X _ σ H1 Q
      exact hb p σ F1 H1 (g.next g1 i1) Q fun k F2 H2 g2 i2 p2 => q k F2 H2 (g1.trans g2) i2 (h2 k p p2)
    | false =>
      show Q false H1
      exact q false F1 H1 g1 i1 (h1 p)
theorem w_or {rest : List Expr} {S S' R : Bool → Prop} (ha : EvT X m Γ a S) (hb : S false → EvW X m Γ (.BoolOp .Or (b :: rest) pos) S') (h1 : S true → R true) (h2 : ∀ k, S false → S' k → R k) : EvW X m Γ (.BoolOp .Or (a :: b :: rest) pos) R :=
  EvW.of (pw_or semT semW) fun σ F H Q g q => ha σ F H g _ fun k F1 H1 g1 i1 p => by
    cases k with
    | false =>
      show tSemW X _ σ H1 Q
      exact hb p σ F1 H1 (g.next g1 i1) Q fun k F2 H2 g2 i2 p2 => q k F2 H2 (g1.trans g2) i2 (h2 k p p2)
    | true =>
      show Q true H1
      exact q true F1 H1 g1 i1 (h1 p)
theorem w_and1 {S : Bool → Prop} (h : EvT X m Γ a S) : EvW X m Γ (.BoolOp .And [a] pos) S := EvW.of (pw_and1 semT) fun σ F H Q g q => h σ F H g Q q
theorem w_or1 {S : Bool → Prop} (h : EvT X m Γ a S) : EvW X m Γ (.BoolOp .Or [a] pos) S := EvW.of (pw_or1 semT) fun σ F H Q g q => h σ F H g Q q
theorem w_andB {rest : List Expr} {k k' : Bool} (ha : EvT X m Γ a (Eq k)) (hb : k = true → EvW X m Γ (.BoolOp .And (b :: rest) pos) (Eq k')) : EvW X m Γ (.BoolOp .And (a :: b :: rest) pos) (Eq (k && k')) :=
  w_and ha hb (fun e => by rw [e]; rfl) fun j e e' => by rw [e, ← e']; rfl
theorem w_orB {rest : List Expr} {k k' : Bool} (ha : EvT X m Γ a (Eq k)) (hb : k = false → EvW X m Γ (.BoolOp .Or (b :: rest) pos) (Eq k')) : EvW X m Γ (.BoolOp .Or (a :: b :: rest) pos) (Eq (k || k')) :=
  w_or ha hb (fun e => by rw [e]; rfl) fun j e e' => by rw [e, ← e']; rfl
theorem e_and {rest : List Expr} {k k' : Bool} (ha : EvE X m Γ a (Is X.K (.bl k))) (hb : k = true → EvE X m Γ (.BoolOp .And (b :: rest) pos) (Is X.K (.bl k'))) : EvE X m Γ (.BoolOp .And (a :: b :: rest) pos) (Is X.K (.bl (k && k'))) :=
  EvE.of (pe_and sem sem) fun σ F H Q g q => ha σ F H g _ fun v F1 H1 g1 i1 p => ⟨k, p.b, by
    cases k with
    | true =>
      show tSem X _ σ H1 Q
      exact hb rfl σ F1 H1 (g.next g1 i1) Q fun k F2 H2 g2 i2 p2 => q k F2 H2 (g1.trans g2) i2 p2
    | false =>
      show Q (.bl false) H1
      exact q _ F1 H1 g1 i1 (.bl .nil)⟩
theorem e_or {rest : List Expr} {k k' : Bool} (ha : EvE X m Γ a (Is X.K (.bl k))) (hb : k = false → EvE X m Γ (.BoolOp .Or (b :: rest) pos) (Is X.K (.bl k'))) : EvE X m Γ (.BoolOp .Or (a :: b :: rest) pos) (Is X.K (.bl (k || k'))) :=
  EvE.of (pe_or sem sem) fun σ F H Q g q => ha σ F H g _ fun v F1 H1 g1 i1 p => ⟨k, p.b, by
    cases k with
    | false =>
      show tSem X _ σ H1 Q
      exact hb rfl σ F1 H1 (g.next g1 i1) Q fun k F2 H2 g2 i2 p2 => q k F2 H2 (g1.trans g2) i2 p2
    | true =>
      show Q (.bl true) H1
      exact q _ F1 H1 g1 i1 (.bl .nil)⟩
theorem e_one {op} (h : EvE X m Γ a P) : EvE X m Γ (.BoolOp op [a] pos) P := EvE.of (pe_one sem) fun σ F H Q g q => h σ F H g Q q
theorem e_not {k : Bool} (h : EvE X m Γ a (Is X.K (.bl k))) : EvE X m Γ (.UnaryOp .Not a pos) (Is X.K (.bl (!k))) :=
  EvE.of (pe_not sem) fun σ F H Q g q => h σ F H g _ fun b F1 H1 g1 i1 p => ⟨k, p.b, q _ F1 H1 g1 i1 (.bl .nil)⟩
theorem e_if {S : Bool → Prop} (ht : EvT X m Γ c S) (ha : S true → EvE X m Γ a P) (hb : S false → EvE X m Γ b P) : EvE X m Γ (.IfExp c a b pos) P :=
  EvE.of (pe_ifExp semT sem sem) fun σ F H Q g q => ht σ F H g _ fun k F1 H1 g1 i1 p => by
    cases k with
    | true =>
      show tSem X _ σ H1 Q
      exact ha p σ F1 H1 (g.next g1 i1) Q fun k F2 H2 g2 i2 p2 => q k F2 H2 (g1.trans g2) i2 p2
    | false =>
      show tSem X _ σ H1 Q
      exact hb p σ F1 H1 (g.next g1 i1) Q fun k F2 H2 g2 i2 p2 => q k F2 H2 (g1.trans g2) i2 p2
theorem e_ifB {k : Bool} {d d' : D} (ht : EvT X m Γ c (Eq k)) (ha : k = true → EvE X m Γ a (Is X.K d)) (hb : k = false → EvE X m Γ b (Is X.K d')) : EvE X m Γ (.IfExp c a b pos) (Is X.K (bif k then d else d')) :=
  e_if ht (fun e => by rw [e]; exact ha e) (fun e => by rw [e]; exact hb e)
theorem a_nil : EvA X m Γ [] [] := fun σ F H g Q q pos pins s I => pa_nil.run pos pins s σ H Q I (q [] F H (Gr.refl g.ex) g.i trivial)
theorem a_cons {es : List Expr} {Ps : List Ty} (ha : EvE X m Γ e P) (hr : EvA X m Γ es Ps) (hs : starEach (e :: es) X.env = (false, eval e X.env) :: starEach es X.env := by rfl) : EvA X m Γ (e :: es) (P :: Ps) :=
  fun σ F H g Q q pos pins s I => (pa_cons sem semA hs).run pos pins s σ H Q I (ha σ F H g _ fun v F1 H1 g1 i1 p1 => hr σ F1 H1 (g.next g1 i1) _ fun vs F2 H2 g2 i2 p2 => q (v :: vs) F2 H2 (g1.trans g2) i2 ⟨P.mono v F1 F2 g2.ff p1, p2⟩)
theorem ax_nil : EvXA X m E Γ [] (.ok ()) (fun _ => []) := fun σ F H g Q q pos pins s I => pa_nil.run pos pins s σ H Q I (q [] F H (Gr.refl g.ex) g.i trivial)
theorem ax_ok {es : List Expr} {Ps : List Ty} (h : EvA X m Γ es Ps) : EvXA X m E Γ es (.ok ()) (fun _ => Ps) := fun σ F H g Q q => h σ F H g Q q
theorem ax_consE {α : Type} {es : List Expr} {o : Except Str α} {enc : α → List Ty} (ha : EvE X m Γ e P) (hr : EvXA X m E Γ es o enc) (hs : starEach (e :: es) X.env = (false, eval e X.env) :: starEach es X.env := by rfl) : EvXA X m E Γ (e :: es) o (fun a => P :: enc a) :=
  fun σ F H g Q q pos pins s I => (pa_cons sem semA hs).run pos pins s σ H Q I (ha σ F H g _ fun v F1 H1 g1 i1 p1 => hr σ F1 H1 (g.next g1 i1) _ (by
    cases o with
    | ok a => exact fun vs F2 H2 g2 i2 p2 => q (v :: vs) F2 H2 (g1.trans g2) i2 ⟨P.mono v F1 F2 g2.ff p1, p2⟩
    | error z => exact fun C d F2 H2 g2 i2 e1 e2 => q C d F2 H2 (g1.trans g2) i2 e1 e2))
/-- an argument that may raise, the others behind it don't -/
theorem ax_consX {α : Type} {es : List Expr} {o : Except Str α} {enc : α → Ty} {Ps : List Ty} (ha : EvX X m E Γ e o enc) (hr : EvA X m Γ es Ps) (hs : starEach (e :: es) X.env = (false, eval e X.env) :: starEach es X.env := by rfl) : EvXA X m E Γ (e :: es) o (fun a => enc a :: Ps) :=
  fun σ F H g Q q pos pins s I => (pa_cons sem semA hs).run pos pins s σ H Q I (ha σ F H g _ (by
    cases o with
    | ok a => exact fun v F1 H1 g1 i1 p1 => hr σ F1 H1 (g.next g1 i1) _ fun vs F2 H2 g2 i2 p2 => q (v :: vs) F2 H2 (g1.trans g2) i2 ⟨(enc a).mono v F1 F2 g2.ff p1, p2⟩
    | error z => exact q))
theorem e_lst {es : List Expr} {Ps : List Ty} (ha : EvA X m Γ es Ps) (hl : Ps.length ≤ sizeLine) (hr : ∀ vs F p, HoldsA Ps vs F → F p = some (.lst vs) → P.p (.ref p) F) : EvE X m Γ (.List es pos) P :=
  EvE.of (pe_lst semA) fun σ F H Q g q => ha σ F H g _ fun vs F1 H1 g1 i1 p1 => ⟨by rw [p1.len]; exact hl, fun p hp => by
    have gn : Gr0 F1 H1 (upd F1 p (.lst vs)) (upd H1 p (.lst vs)) := Gr.new g1.fh hp
    exact q _ _ _ (g1.trans gn.weak) (m.st _ _ _ _ gn i1) (hr vs _ p (p1.mono gn.ff) upd_same)⟩
theorem e_tup {es : List Expr} {Ps : List Ty} {x1} (ha : EvA X m Γ es Ps) (hl : Ps.length ≤ sizeLine) (hr : ∀ vs F p, HoldsA Ps vs F → F p = some (.tup vs) → P.p (.ref p) F) : EvE X m Γ (.Tuple es x1 pos) P :=
  EvE.of (pe_tup semA) fun σ F H Q g q => ha σ F H g _ fun vs F1 H1 g1 i1 p1 => ⟨by rw [p1.len]; exact hl, fun p hp => by
    have gn : Gr0 F1 H1 (upd F1 p (.tup vs)) (upd H1 p (.tup vs)) := Gr.new g1.fh hp
    exact q _ _ _ (g1.trans gn.weak) (m.st _ _ _ _ gn i1) (hr vs _ p (p1.mono gn.ff) upd_same)⟩
theorem das_of {K : PySem.W.Frag} {F : Hp} : ∀ {ds : List D} {vs : List V}, HoldsA (ds.map (Is K)) vs F → DAs K F ds vs
  | [], [], _ => .nil
  | d :: ds, v :: vs, h => .cons h.1 (das_of h.2)
theorem e_lstD {es : List Expr} {ds : List D} (ha : EvA X m Γ es (ds.map (Is X.K))) (hl : ds.length ≤ 1000 := by (first | decide | simp)) : EvE X m Γ (.List es pos) (Is X.K (.lst ds)) :=
  e_lst ha (by rw [List.length_map]; exact Nat.le_trans hl (by decide)) fun vs F p h e => .lst e (das_of h) .nil
theorem e_tupD {es : List Expr} {ds : List D} {x1} (ha : EvA X m Γ es (ds.map (Is X.K))) (hl : ds.length ≤ 1000 := by (first | decide | simp)) : EvE X m Γ (.Tuple es x1 pos) (Is X.K (.tup ds)) :=
  e_tup ha (by rw [List.length_map]; exact Nat.le_trans hl (by decide)) fun vs F p h e => .tup (SqT.of e) (das_of h) .nil
theorem ad_nil : EvA X m Γ [] (([] : List D).map (Is X.K)) := a_nil
theorem ad_cons {es : List Expr} {d : D} {ds : List D} (ha : EvE X m Γ e (Is X.K d)) (hr : EvA X m Γ es (ds.map (Is X.K))) (hs : starEach (e :: es) X.env = (false, eval e X.env) :: starEach es X.env := by rfl) : EvA X m Γ (e :: es) ((d :: ds).map (Is X.K)) := a_cons ha hr hs
end
end R60

set_option Elab.async false
set_option linter.all false
set_option maxRecDepth 100000
set_option maxHeartbeats 4000000
namespace R60
open PySem PySem.Spec PyProof.Rows L2
/-! ### promises and calls -/
structure Sub (m' m : Mu) : Prop where
  i : ∀ F H, m.I F H → m'.I F H
  g : ∀ F H F' H', Gr m'.U F H F' H' → m.I F H → m'.I F' H' → Gr m.U F H F' H' ∧ m.I F' H'
theorem Sub.refl {m : Mu} : Sub m m := ⟨fun _ _ h => h, fun _ _ _ _ g _ i => ⟨g, i⟩⟩
theorem Sub.zero {m : Mu} : Sub m0 m := ⟨fun _ _ _ => trivial, fun _ _ _ _ g i _ => ⟨g.weak, m.st _ _ _ _ g i⟩⟩
def spG {ι α : Type} (K : PySem.W.Frag) (mg : Str → Option Value) (m : ι → Mu) (Ts : ι → List Ty) (o : ι → Except Str α) (enc : ι → α → Ty) : Sp :=
  fun vs H Q E => ∃ i F, Ex F H ∧ (m i).I F H ∧ HoldsA (Ts i) vs F ∧ Cont K mg (m i) F H Q E (o i) (enc i)
/-- __init__ at a new instance x of the class at C; H0: the heap ahead of it -/
def spI {ι α : Type} (K : PySem.W.Frag) (mg : Str → Option Value) (C : Addr) (Ts : ι → List Ty) (o : ι → Except Str α) (enc : ι → α → Hp → Ty) : Sp :=
  fun vs H Q E => ∃ i F H0 x dx us, vs = .ref x :: us ∧ H0 x = none ∧ H0 dx = none ∧ dx ≠ x ∧ H = upd (upd H0 dx (.own x)) x (.ins C dx []) ∧ Ex F H0 ∧ HoldsA (Ts i) us F ∧
    Cont K mg m0 F H0 (fun v H' => v = .ref x ∧ Q .non H') E (o i) (fun a => ⟨fun v F' => v = .ref x ∧ (enc i a H0).p v F', fun v F' F'' e h => ⟨h.1, (enc i a H0).mono v F' F'' e h.2⟩⟩)
theorem Cont.imp {α : Type} {K : PySem.W.Frag} {mg : Str → Option Value} {m : Mu} {F H : Hp} {Q Q' : VK} {E : XK} {o : Except Str α} {enc : α → Ty} (c : Cont K mg m F H Q E o enc) (h : ∀ v H', Q v H' → Q' v H') : Cont K mg m F H Q' E o enc := by
  cases o with
  | ok a => exact fun v F' H' g i p => h v H' (c v F' H' g i p)
  | error z => exact c
/-- what is wanted from here on, from a later place -/
theorem Cont.later {α : Type} {K : PySem.W.Frag} {mg : Str → Option Value} {m : Mu} {F H F1 H1 : Hp} {Q : VK} {E : XK} {o : Except Str α} {enc : α → Ty} (c : Cont K mg m F H Q E o enc) (g : Gr m.U F H F1 H1) : Cont K mg m F1 H1 Q E o enc := by
  cases o with
  | ok a => exact fun v F' H' g' i p => c v F' H' (g.trans g') i p
  | error z => exact fun C d F' H' g' i e1 e2 => c C d F' H' (g.trans g') i e1 e2
theorem Cont.sub {α : Type} {K : PySem.W.Frag} {mg : Str → Option Value} {m m' : Mu} {F H : Hp} {Q : VK} {E : XK} {o : Except Str α} {enc : α → Ty} (c : Cont K mg m F H Q E o enc) (s : Sub m' m) (i0 : m.I F H) : Cont K mg m' F H Q E o enc := by
  cases o with
  | ok a => exact fun v F' H' g' i p => c v F' H' (s.g _ _ _ _ g' i0 i).1 (s.g _ _ _ _ g' i0 i).2 p
  | error z => exact fun C d F' H' g' i e1 e2 => c C d F' H' (s.g _ _ _ _ g' i0 i).1 (s.g _ _ _ _ g' i0 i).2 e1 e2
theorem holdsA_app {F : Hp} : ∀ {Ps Ds : List Ty} {vs us : List V}, HoldsA Ps vs F → HoldsA Ds us F → HoldsA (Ps ++ Ds) (vs ++ us) F
  | [], _, [], _, _, h => h
  | _ :: _, _, _ :: _, _, h, h' => ⟨h.1, holdsA_app h.2 h'⟩
section
variable {X : Cx} {m : Mu} {E : XK} {Γ : Gam} {e o : Expr} {es : List Expr} {P R : Ty} {pos p apos : Pos} {ι α β : Type} {mi : ι → Mu} {Ts : ι → List Ty} {f : ι → Except Str α} {enc : ι → α → Ty} {k j : Nat} {x mn : Str} {C : Addr}
theorem e_call (i : ι) (c : CalX X.prog X.w X.K X.mg X.base k x (spG X.K X.mg mi Ts f enc)) (hr : Room j X.A) (hk : k ≤ j) (sb : Sub (mi i) m) {v : α} (ho : f i = .ok v) (ha : EvA X m Γ (e :: es) (Ts i)) (hP : enc i v = P := by rfl) (hg : Gl X x := by rfl)
    (hdb : (x == ("__debug__" : Str)) = false := by decide) (he : starEach (e :: es) X.env = (false, eval e X.env) :: starEach es X.env := by rfl) (hpl : (backTo pos (starEach es X.env)).any (·.1) = false := by rfl) :
    EvE X m Γ (.Call (.Name x p) (e :: es) [] pos) P := by
  subst hP
  exact EvE.of (pe_cx c hr hk hg passL semA hdb he hpl) fun σ F H Q g q => ha σ F H g _ fun vs F1 H1 g1 i1 p1 => ⟨i, F1, g1.fh, sb.i _ _ i1, by rw [List.append_nil]; exact p1, by
    rw [ho]
    exact fun v F2 H2 g2 i2 p2 => q v F2 H2 (g1.trans (sb.g _ _ _ _ g2 i1 i2).1) (sb.g _ _ _ _ g2 i1 i2).2 p2⟩
theorem e_call0 (i : ι) (c : CalX X.prog X.w X.K X.mg X.base k x (spG X.K X.mg mi Ts f enc)) (hr : Room j X.A) (hk : k ≤ j) (sb : Sub (mi i) m) {v : α} (ho : f i = .ok v) (hT : Ts i = []) (hP : enc i v = P := by rfl) (hg : Gl X x := by rfl)
    (hdb : (x == ("__debug__" : Str)) = false := by decide) : EvE X m Γ (.Call (.Name x p) [] [] pos) P := by
  subst hP
  exact EvE.of (pe_cx0 c hr hk hg passL hdb) fun σ F H Q g q => ⟨i, F, g.ex, sb.i _ _ g.i, by rw [hT]; trivial, by
    rw [ho]
    exact fun v F2 H2 g2 i2 p2 => q v F2 H2 (sb.g _ _ _ _ g2 g.i i2).1 (sb.g _ _ _ _ g2 g.i i2).2 p2⟩
/-- a call that may raise -/
theorem e_callX {o' : Except Str α} {en' : α → Ty} (i : ι) (c : CalX X.prog X.w X.K X.mg X.base k x (spG X.K X.mg mi Ts f enc)) (hr : Room j X.A) (hk : k ≤ j) (hx : Passes (L2.CX X.prog X.w) X E) (sb : Sub (mi i) m) (ha : EvA X m Γ (e :: es) (Ts i)) (hO : f i = o' := by rfl) (hN : enc i = en' := by rfl) (hg : Gl X x := by rfl)
    (hdb : (x == ("__debug__" : Str)) = false := by decide) (he : starEach (e :: es) X.env = (false, eval e X.env) :: starEach es X.env := by rfl) (hpl : (backTo pos (starEach es X.env)).any (·.1) = false := by rfl) :
    EvX X m E Γ (.Call (.Name x p) (e :: es) [] pos) o' en' := by
  subst hO hN
  exact fun σ F H g Q q pins s I => (pe_cx c hr hk hg hx semA hdb he hpl).run pins s σ H Q I (ha σ F H g _ fun vs F1 H1 g1 i1 p1 => ⟨i, F1, g1.fh, sb.i _ _ i1, by rw [List.append_nil]; exact p1, (q.later g1).sub sb i1⟩)
/-- .. whose arguments may raise -/
theorem e_callXX (ib : β → ι) {ob : Except Str β} {Pb : β → List Ty} {enc0 : α → Ty} (c : CalX X.prog X.w X.K X.mg X.base k x (spG X.K X.mg mi Ts f enc)) (hr : Room j X.A) (hk : k ≤ j) (hx : Passes (L2.CX X.prog X.w) X E) (sb : ∀ b, Sub (mi (ib b)) m)
    (ha : EvXA X m E Γ (e :: es) ob Pb) (hP : ∀ b, ob = .ok b → Pb b = Ts (ib b)) (hen : ∀ b, enc (ib b) = enc0) (hg : Gl X x := by rfl)
    (hdb : (x == ("__debug__" : Str)) = false := by decide) (he : starEach (e :: es) X.env = (false, eval e X.env) :: starEach es X.env := by rfl) (hpl : (backTo pos (starEach es X.env)).any (·.1) = false := by rfl) :
    EvX X m E Γ (.Call (.Name x p) (e :: es) [] pos) (ob >>= fun b => f (ib b)) enc0 :=
  fun σ F H g Q q pins s I => (pe_cx c hr hk hg hx semA hdb he hpl).run pins s σ H Q I (ha σ F H g _ (by
    cases hb : ob with
    | ok b =>
      rw [hb] at q
      intro vs F1 H1 g1 i1 p1
      refine ⟨ib b, F1, g1.fh, (sb b).i _ _ i1, by rw [List.append_nil, ← hP b hb]; exact p1, ?_⟩
      rw [hen b]
      exact ((show Cont X.K X.mg m F H Q E (f (ib b)) enc0 from q).later g1).sub (sb b) i1
    | error z =>
      rw [hb] at q
      exact q))
structure InsAt (C : Addr) (mn : Str) (R : Ty) : Prop where
  at_ : ∀ v F, R.p v F → ∃ a dx fs, v = .ref a ∧ F a = some (.ins C dx fs) ∧ fs.lookup mn = none
theorem e_meth (i : ι) (c : MetX X.prog X.w X.K X.mg X.base k C mn (spG X.K X.mg mi Ts f enc)) (hr : Room j X.A) (hk : k ≤ j) (hR : InsAt C mn R) (sb : Sub (mi i) m) {v : α} (ho : f i = .ok v) (h0 : EvE X m Γ o R) {Ps : List Ty} (ha : EvA X m Γ (e :: es) Ps) (hT : Ts i = R :: Ps) (hP : enc i v = P := by rfl)
    (hst : starEach (e :: es) X.env = (false, eval e X.env) :: starEach es X.env := by rfl) (hpl : (backTo pos (starEach es X.env)).any (·.1) = false := by rfl) {pl : Sem Bool}
    (ht : eval (.Call (.Attribute o mn apos) (e :: es) [] pos) X.env = (do
      let ov ← eval o X.env
      standAt apos.atName
      let (f, first) ← holding [ov] (getMethod ov mn pl)
      callWith pos f first (backTo pos (starEach (e :: es) X.env)) (backToKw pos (keywordEach [] X.env))) := by rfl) : EvE X m Γ (.Call (.Attribute o mn apos) (e :: es) [] pos) P := by
  subst hP
  exact EvE.of (pe_mx c hr hk passL sem semA hst hpl ht) fun σ F H Q g q => h0 σ F H g _ fun u F1 H1 g1 i1 p1 => by
    obtain ⟨a, dx, fs, rfl, ea, en⟩ := hR.at_ u F1 p1
    refine ⟨a, dx, fs, rfl, g1.fh _ _ ea, en, ha σ F1 H1 (g.next g1 i1) _ fun vs F2 H2 g2 i2 p2 => ⟨i, F2, g2.fh, sb.i _ _ i2, ?_, ?_⟩⟩
    · rw [List.append_nil, hT]
      exact ⟨R.mono _ F1 F2 g2.ff p1, p2⟩
    · rw [ho]
      exact fun v F3 H3 g3 i3 p3 => q v F3 H3 (g1.trans (g2.trans (sb.g _ _ _ _ g3 i2 i3).1)) (sb.g _ _ _ _ g3 i2 i3).2 p3
theorem e_meth0 (i : ι) (c : MetX X.prog X.w X.K X.mg X.base k C mn (spG X.K X.mg mi Ts f enc)) (hr : Room j X.A) (hk : k ≤ j) (hR : InsAt C mn R) (sb : Sub (mi i) m) {v : α} (ho : f i = .ok v) (h0 : EvE X m Γ o R) (hT : Ts i = [R]) (hP : enc i v = P := by rfl) {pl : Sem Bool}
    (ht : eval (.Call (.Attribute o mn apos) [] [] pos) X.env = (do
      let ov ← eval o X.env
      standAt apos.atName
      let (f, first) ← holding [ov] (getMethod ov mn pl)
      callWith pos f first (backTo pos (starEach [] X.env)) (backToKw pos (keywordEach [] X.env))) := by rfl) : EvE X m Γ (.Call (.Attribute o mn apos) [] [] pos) P := by
  subst hP
  exact EvE.of (pe_mx0 c hr hk passL sem ht) fun σ F H Q g q => h0 σ F H g _ fun u F1 H1 g1 i1 p1 => by
    obtain ⟨a, dx, fs, rfl, ea, en⟩ := hR.at_ u F1 p1
    refine ⟨a, dx, fs, rfl, g1.fh _ _ ea, en, ⟨i, F1, g1.fh, sb.i _ _ i1, ?_, ?_⟩⟩
    · rw [hT]
      exact ⟨p1, trivial⟩
    · rw [ho]
      exact fun v F3 H3 g3 i3 p3 => q v F3 H3 (g1.trans (sb.g _ _ _ _ g3 i1 i3).1) (sb.g _ _ _ _ g3 i1 i3).2 p3
/-- a new instance; its __init__ may raise -/
theorem e_make {o' : Except Str α} {encI : ι → α → Hp → Ty} {enc' : α → Ty} (i : ι) {dvs : List V} {Ps Ds : List Ty} (c : MakX X.prog X.w X.K X.mg X.base k x C (spI X.K X.mg C Ts f encI) dvs) (hr : Room j X.A) (hk : k + 1 ≤ j) (hx : Passes (L2.CX X.prog X.w) X E) (ha : EvA X m Γ (e :: es) Ps) (hD : ∀ F, HoldsA Ds dvs F) (hT : Ts i = Ps ++ Ds) (hP : ∀ a H0 v F, (encI i a H0).p v F → (enc' a).p v F) (hO : f i = o' := by rfl) (hg : Gl X x := by rfl)
    (hdb : (x == ("__debug__" : Str)) = false := by decide) (he : starEach (e :: es) X.env = (false, eval e X.env) :: starEach es X.env := by rfl) (hpl : (backTo pos (starEach es X.env)).any (·.1) = false := by rfl) :
    EvX X m E Γ (.Call (.Name x p) (e :: es) [] pos) o' enc' := by
  subst hO
  exact fun σ F H g Q q pins s I => (pe_nx c hr hk hg hx semA hdb he hpl).run pins s σ H Q I (ha σ F H g _ fun vs F1 H1 g1 i1 p1 => fun y dx hy hdx ne => ⟨i, F1, H1, y, dx, vs ++ dvs, rfl, hy, hdx, ne, rfl, g1.fh, by
    rw [hT]
    exact holdsA_app p1 (hD F1), by
    cases hf : f i with
    | ok a =>
      rw [hf] at q
      intro v F2 H2 g2 i2 p2
      obtain ⟨rfl, p2⟩ := p2
      exact ⟨rfl, rfl, q (.ref y) F2 H2 (g1.trans g2.weak) (m.st _ _ _ _ g2 i1) (hP _ _ _ _ p2)⟩
    | error z =>
      rw [hf] at q
      exact fun C d F2 H2 g2 i2 e1 e2 => q C d F2 H2 (g1.trans g2.weak) (m.st _ _ _ _ g2 i1) e1 e2⟩)
end
end R60

set_option Elab.async false
set_option linter.all false
set_option maxRecDepth 100000
set_option maxHeartbeats 4000000
namespace R60
open PySem PySem.Spec PyProof.Rows L2
/-! ### blocks -/
section
variable {X : Cx} {m : Mu} {E : XK} {Γ : Gam} {e c : Expr} {P : Ty} {pos pos' : Pos} {α β : Type} {o : Except Str α} {enc : α → Ty} {rest body orelse : List Stmt}
theorem b_ret {v : α} (h : EvE X m Γ e (enc v)) (ho : o = .ok v) : Blk X m E Γ (.Return (some e) pos :: rest) o enc := fun σ F H g D q pins s I =>
  (pss_cons (ps_ret sem) semS).run pins s σ H D I (h σ F H g _ fun v F' H' g1 i1 p => by
    rw [ho] at q
    exact q v F' H' g1 i1 p)
theorem b_retD {v : α} {d : D} (h : EvE X m Γ e (Is X.K d)) (ho : o = .ok v) (he : enc v = Is X.K d) : Blk X m E Γ (.Return (some e) pos :: rest) o enc := b_ret (v := v) (by rw [he]; exact h) ho
theorem b_retP {v : α} (h : EvE X m Γ e P) (ho : o = .ok v) (he : ∀ u F, P.p u F → (enc v).p u F) : Blk X m E Γ (.Return (some e) pos :: rest) o enc := b_ret (v := v) (h.imp he) ho
theorem b_retX (h : EvX X m E Γ e o enc) : Blk X m E Γ (.Return (some e) pos :: rest) o enc := fun σ F H g D q pins s I =>
  (pss_cons (ps_ret sem) semS).run pins s σ H D I (h σ F H g _ q)
theorem b_retN {v : α} (h : ∀ F, (enc v).p .non F) (ho : o = .ok v) : Blk X m E Γ (.Return none pos :: rest) o enc := fun σ F H g D q pins s I =>
  (pss_cons ps_retN semS).run pins s σ H D I (by
    rw [ho] at q
    exact q _ F H (Gr.refl g.ex) g.i (h F))
theorem b_set (i : Nat) {x : Str} (h : EvE X m Γ e P) (hr : Blk X m E (Γ.set i (some P)) rest o enc) (hN : X.N.Nodup) (hi : X.N[i]? = some x := by rfl) (hx : Loc X.env.scope x := by first | exact Or.inl rfl | exact Or.inr rfl)
    (hs : swapsWith e (some (.Name x pos')) pos.line X.env = pure false := by rfl) (hf : X.fn x = true ∨ X.env.scope.names.lookup x = some .local := by first | exact .inl rfl | exact .inr rfl) : Blk X m E Γ (.Assign [.Name x pos'] e pos :: rest) o enc := fun σ F H g D q pins s I =>
  (pss_cons (ps_set hN hi hx sem hs hf) semS).run pins s σ H D I (h σ F H g _ fun v F1 H1 g1 i1 p => hr _ F1 H1 ⟨g1.fh, i1, (g.h.mono g1.ff).set (by
    rw [I.len]
    exact (List.getElem?_eq_some_iff.mp hi).1) p⟩ D (q.later g1))
theorem b_setX (i : Nat) {x : Str} {oe : Except Str β} {ence : β → Ty} (h : EvX X m E Γ e oe ence) (hz : ∀ z, oe = .error z → o = .error z) (hr : ∀ b, oe = .ok b → Blk X m E (Γ.set i (some (ence b))) rest o enc) (hN : X.N.Nodup) (hi : X.N[i]? = some x := by rfl) (hx : Loc X.env.scope x := by first | exact Or.inl rfl | exact Or.inr rfl)
    (hs : swapsWith e (some (.Name x pos')) pos.line X.env = pure false := by rfl) (hf : X.fn x = true ∨ X.env.scope.names.lookup x = some .local := by first | exact .inl rfl | exact .inr rfl) : Blk X m E Γ (.Assign [.Name x pos'] e pos :: rest) o enc := fun σ F H g D q pins s I =>
  (pss_cons (ps_set hN hi hx sem hs hf) semS).run pins s σ H D I (h σ F H g _ (by
    cases ho : oe with
    | ok b => exact fun v F1 H1 g1 i1 p => hr b ho _ F1 H1 ⟨g1.fh, i1, (g.h.mono g1.ff).set (by
        rw [I.len]
        exact (List.getElem?_eq_some_iff.mp hi).1) p⟩ D (q.later g1)
    | error z =>
      rw [hz z ho] at q
      exact q))
theorem b_if {S : Bool → Prop} (h : EvT X m Γ c S) (h1 : S true → Blk X m E Γ body o enc) (h2 : S false → Blk X m E Γ rest o enc) : Blk X m E Γ (.If c body [] pos :: rest) o enc := fun σ F H g D q pins s I =>
  (pss_cons (ps_if semT semS pss_nil) semS).run pins s σ H D I (h σ F H g _ fun k F1 H1 g1 i1 p => by
    cases k with
    | true => exact h1 p σ F1 H1 (g.next g1 i1) _ (q.later g1)
    | false => exact h2 p σ F1 H1 (g.next g1 i1) _ (q.later g1))
/-- an if with an else, both ways ending -/
theorem b_ife {S : Bool → Prop} (h : EvT X m Γ c S) (h1 : S true → Blk X m E Γ body o enc) (h2 : S false → Blk X m E Γ orelse o enc) : Blk X m E Γ (.If c body orelse pos :: rest) o enc := fun σ F H g D q pins s I =>
  (pss_cons (ps_if semT semS semS) semS).run pins s σ H D I (h σ F H g _ fun k F1 H1 g1 i1 p => by
    cases k with
    | true => exact h1 p σ F1 H1 (g.next g1 i1) _ (q.later g1)
    | false => exact h2 p σ F1 H1 (g.next g1 i1) _ (q.later g1))
/-- module's own error x, that calls itself z: what the module says of it -/
def ErrN (K : PySem.W.Frag) (mg : Str → Option Value) (x z : Str) : Prop := ∃ t1 t2, mg "TapeError" = some (.ref t1) ∧ mg "MissingError" = some (.ref t2) ∧ ErrX K mg t1 t2 x z
theorem b_raise {x z : Str} {p : Pos} {k : Nat} (T : ErrN X.K X.mg x z) (ho : o = .error z) (hr : Room k X.A) (hc : X.calm = true) (tk : Takes X (fun cls d _ H => E cls d H)) (hg : Gl X x := by rfl) (hdb : (x == ("__debug__" : Str)) = false := by decide) :
    Blk X m E Γ (.Raise (some (.Call (.Name x p) [] [] pos)) none pos' :: rest) o enc := fun σ F H g D q pins s I => by
  obtain ⟨t1, t2, g1, g2, T⟩ := T
  refine (pss_cons (ps_x T hr hg hc tk hdb) semS).run pins s σ H D I fun C d ec hd => ?_
  rw [ho] at q
  have gs : Gr0 F H F (upd H d (errD z)) := Gr.scratch g.ex hd
  exact q C d F _ gs.weak (m.st _ _ _ _ gs g.i) (fun u1 u2 h1 h2 => by
    rw [g1] at h1
    rw [g2] at h2
    cases h1
    cases h2
    exact ec) upd_same
theorem CoF.later {F H F1 H1 : Hp} {nx : L2.St → Hp → Prop} {Γ' : α → Gam} (q : CoF X m E F H nx o Γ') (g : Gr m.U F H F1 H1) : CoF X m E F1 H1 nx o Γ' := by
  cases o with
  | ok a => exact fun σ' F' H' g' i => q σ' F' H' (g.trans g') i
  | error z => exact fun C d F' H' g' i e1 e2 => q C d F' H' (g.trans g') i e1 e2
theorem b_stf {st : Stmt} {o1 : Except Str β} {Γ' : β → Gam} (h : StF X m E Γ st o1 Γ') (hz : ∀ z, o1 = .error z → o = .error z) (hr : ∀ b, o1 = .ok b → Blk X m E (Γ' b) rest o enc) : Blk X m E Γ (st :: rest) o enc := fun σ F H g D q pins s I =>
  (pss_cons sem1 semS).run pins s σ H D I (h σ F H g _ (by
    cases ho : o1 with
    | ok b => exact fun σ' F1 H1 g1 i1 => hr b ho σ' F1 H1 i1 D (q.later g1)
    | error z =>
      rw [hz z ho] at q
      exact q))
theorem f_nil : StFs X m E Γ [] (.ok ()) (fun _ => Γ) := fun σ F H g D q pins s I => pss_nil.run pins s σ H D I (q σ F H (Gr.refl g.ex) g)
theorem f_cons {γ : Type} {st : Stmt} {o1 : Except Str β} {Γ1 : β → Gam} {o2 : Except Str γ} {Γ2 : γ → Gam} (h : StF X m E Γ st o1 Γ1) (hz : ∀ z, o1 = .error z → o2 = .error z) (hr : ∀ b, o1 = .ok b → StFs X m E (Γ1 b) rest o2 Γ2) : StFs X m E Γ (st :: rest) o2 Γ2 := fun σ F H g D q pins s I =>
  (pss_cons sem1 semS).run pins s σ H D I (h σ F H g _ (by
    cases ho : o1 with
    | ok b => exact fun σ' F1 H1 g1 i1 => hr b ho σ' F1 H1 i1 D (q.later g1)
    | error z =>
      rw [hz z ho] at q
      exact q))
theorem f_one {st : Stmt} {Γ' : α → Gam} (h : StF X m E Γ st o Γ') : StFs X m E Γ [st] o Γ' := fun σ F H g D q pins s I => (pss_one sem1).run pins s σ H D I (h σ F H g D q)
/-- the end of a def that returns nothing -/
theorem b_end {Γ' : β → Gam} {of : Except Str β} {v : α} : True := trivial
/-- a call as a statement -/
theorem s_exprX {oe : Except Str β} {ence : β → Ty} (h : EvX X m E Γ e oe ence) (hs : swapsWith e none pos.line X.env = pure false := by rfl) : StF X m E Γ (.Expr e pos) oe (fun _ => Γ) := fun σ F H g D q pins s I =>
  (ps_expr sem hs).run pins s σ H D I (h σ F H g _ (by
    cases oe with
    | ok b => exact fun v F1 H1 g1 i1 p => q σ F1 H1 g1 (g.next g1 i1)
    | error z => exact q))
theorem s_expr (h : EvE X m Γ e P) (hs : swapsWith e none pos.line X.env = pure false := by rfl) : StF X m E Γ (.Expr e pos) (.ok ()) (fun _ => Γ) := s_exprX h.x hs
theorem s_set (i : Nat) {x : Str} (h : EvE X m Γ e P) (hN : X.N.Nodup) (hi : X.N[i]? = some x := by rfl) (hx : Loc X.env.scope x := by first | exact Or.inl rfl | exact Or.inr rfl)
    (hs : swapsWith e (some (.Name x pos')) pos.line X.env = pure false := by rfl) (hf : X.fn x = true ∨ X.env.scope.names.lookup x = some .local := by first | exact .inl rfl | exact .inr rfl) : StF X m E Γ (.Assign [.Name x pos'] e pos) (.ok ()) (fun _ => Γ.set i (some P)) := fun σ F H g D q pins s I =>
  (ps_set hN hi hx sem hs hf).run pins s σ H D I (h σ F H g _ fun v F1 H1 g1 i1 p => q _ F1 H1 g1 ⟨g1.fh, i1, (g.h.mono g1.ff).set (by
    rw [I.len]
    exact (List.getElem?_eq_some_iff.mp hi).1) p⟩)
/-- if c: a block that goes through or raises; nothing else -/
theorem s_if {S : Bool → Prop} {Γ' : α → Gam} (h : EvT X m Γ c S) (h1 : S true → StFs X m E Γ body o Γ') (h2 : S false → StFs X m E Γ orelse o Γ') : StF X m E Γ (.If c body orelse pos) o Γ' := fun σ F H g D q pins s I =>
  (ps_if semT semS semS).run pins s σ H D I (h σ F H g _ fun k F1 H1 g1 i1 p => by
    cases k with
    | true => exact h1 p σ F1 H1 (g.next g1 i1) _ (q.later g1)
    | false => exact h2 p σ F1 H1 (g.next g1 i1) _ (q.later g1))
theorem s_raise {Γ' : α → Gam} {x z : Str} {p : Pos} {k : Nat} (T : ErrN X.K X.mg x z) (ho : o = .error z) (hr : Room k X.A) (hc : X.calm = true) (tk : Takes X (fun cls d _ H => E cls d H)) (hg : Gl X x := by rfl) (hdb : (x == ("__debug__" : Str)) = false := by decide) :
    StF X m E Γ (.Raise (some (.Call (.Name x p) [] [] pos)) none pos') o Γ' := fun σ F H g D q pins s I => by
  obtain ⟨t1, t2, g1, g2, T⟩ := T
  refine (ps_x T hr hg hc tk hdb).run pins s σ H D I fun C d ec hd => ?_
  rw [ho] at q
  have gs : Gr0 F H F (upd H d (errD z)) := Gr.scratch g.ex hd
  exact q C d F _ gs.weak (m.st _ _ _ _ gs g.i) (fun u1 u2 h1 h2 => by
    rw [g1] at h1
    rw [g2] at h2
    cases h1
    cases h2
    exact ec) upd_same
/-- if c: raise X() -/
def thr (b : Bool) (z : Str) : Except Str Unit := bif b then .error z else .ok ()
theorem s_ifraise {x z : Str} {p q1 q2 : Pos} {k : Nat} {b : Bool} (h : EvT X m Γ c (Eq b)) (T : ErrN X.K X.mg x z) (hr : Room k X.A) (hc : X.calm = true) (tk : Takes X (fun cls d _ H => E cls d H)) (hg : Gl X x := by rfl) (hdb : (x == ("__debug__" : Str)) = false := by decide) :
    StF X m E Γ (.If c [.Raise (some (.Call (.Name x p) [] [] q1)) none q2] [] pos) (thr b z) (fun _ => Γ) :=
  s_if h (fun e => f_one (s_raise T (by rw [e] <;> rfl) hr hc tk hg hdb)) fun e => by
    rw [e]
    exact f_nil
end
/-! ### what is walked -/
section
variable {X : Cx} {m : Mu} {E : XK} {Γ : Gam} {e c : Expr} {P : Ty} {pos pos' : Pos} {α β : Type}
structure Wk (m : Mu) (J : It) (n : Nat) (F1 : Hp) (Y : Nat → Ty) : Prop where
  go : ∀ F' H', Ex F1 F' → Ex F' H' → m.I F' H' → ∀ i, i < n → J.go i H'
  stop : ∀ F' H', Ex F1 F' → Ex F' H' → m.I F' H' → J.stop n H'
  yld : ∀ F' H', Ex F1 F' → Ex F' H' → m.I F' H' → ∀ i x H2, i < n → J.yld i H' x H2 → ∃ F2, Gr0 F' H' F2 H2 ∧ (Y i).p x F2
def PIx (X : Cx) (m : Mu) (Γ : Gam) (tg iter : Expr) (n : Nat) (Y : Nat → Ty) : Prop := ∃ wi, PI X tg iter wi ∧ ∀ σ F H, Good m Γ σ F H → ∀ R : It → Hp → Prop, (∀ J F1 H1, Gr m.U F H F1 H1 → m.I F1 H1 → Wk m J n F1 Y → R J H1) → wi σ H R
/-- a target, the kinds behind it; js: the slots it sets -/
def tSemG (X : Cx) (tg : Expr) : TG := fun v σ H Q => ∀ (pins : List (Addr × Obj)) (s : Shared) (u : Value), Inv X pins σ H s → RelV v u → wpAny (model X.prog X.w) X.A (assign tg X.env u) (fun _ s' => ∃ σ' H', Inv X pins σ' H' s' ∧ Q σ' H') X.xe s
def tSemGs (X : Cx) (ts : List Expr) : TGs := fun vs σ H Q => ∀ (pins : List (Addr × Obj)) (s : Shared) (us : List Value), Inv X pins σ H s → Vals vs us → wpAny (model X.prog X.w) X.A (assignInOrder ((assignEach ts X.env).map (·.2)) us) (fun _ s' => ∃ σ' H', Inv X pins σ' H' s' ∧ Q σ' H') X.xe s
theorem semG {X : Cx} {tg : Expr} : PG X tg (tSemG X tg) := ⟨fun pins s _ _ _ u _ I r h => h pins s u I r⟩
theorem semGs {X : Cx} {ts : List Expr} : PGs X ts (tSemGs X ts) := ⟨fun pins s _ _ _ us _ I r h => h pins s us I r⟩
def TgT (X : Cx) (m : Mu) (tg : Expr) (T : Ty) (Γ Γ' : Gam) (js : List Nat) : Prop := ∀ σ F H v, Good m Γ σ F H → T.p v F → ∀ Q : L2.St → Hp → Prop, (∀ σ' F' H', Gr0 F H F' H' → Good m Γ' σ' F' H' → (∀ vs, (∀ j ∈ js, j ∈ vs) → wipe σ' vs = wipe σ vs) → Q σ' H') → tSemG X tg v σ H Q
def TgTs (X : Cx) (m : Mu) (tgs : List Expr) (Ts : List Ty) (Γ Γ' : Gam) (js : List Nat) : Prop := ∀ σ F H vs, Good m Γ σ F H → HoldsA Ts vs F → ∀ Q : L2.St → Hp → Prop, (∀ σ' F' H', Gr0 F H F' H' → Good m Γ' σ' F' H' → (∀ us, (∀ j ∈ js, j ∈ us) → wipe σ' us = wipe σ us) → Q σ' H') → tSemGs X tgs vs σ H Q
/-- the kinds with the slots js forgotten -/
def lost (Γ : Gam) : List Nat → Gam
  | [] => Γ
  | j :: js => (lost Γ js).set j none
theorem Holds.loses {σ : L2.St} {F : Hp} (h : Holds Γ σ F) : ∀ js, Holds (lost Γ js) σ F
  | [] => h
  | _ :: js => (Holds.loses h js).lose1
theorem wipe_get {σ : L2.St} : ∀ (vs : List Nat) (i : Nat), (wipe σ vs)[i]? = if i ∈ vs then (σ[i]?).map (fun _ => none) else σ[i]?
  | [], i => by simp [wipe]
  | v :: vs, i => by
    unfold wipe
    by_cases e : v = i
    · subst e
      by_cases l : v < σ.length
      · rw [List.getElem?_set_self (by rw [wipe_length]; exact l)]
        simp [l]
      · rw [List.getElem?_eq_none (by rw [List.length_set, wipe_length]; omega)]
        simp [l]
    · rw [List.getElem?_set_ne e, wipe_get vs i]
      have : (i ∈ v :: vs) ↔ i ∈ vs := by simp [show i ≠ v from fun z => e z.symm]
      simp [this]
theorem wipe_set {σ : L2.St} {j : Nat} {x : Option V} {vs : List Nat} (h : j ∈ vs) : wipe (σ.set j x) vs = wipe σ vs := by
  refine List.ext_getElem? fun i => ?_
  rw [wipe_get, wipe_get]
  by_cases e : j = i
  · subst e
    rw [if_pos h, if_pos h]
    by_cases l : j < σ.length
    · rw [List.getElem?_set_self l]
      simp [l]
    · rw [List.getElem?_eq_none (by simpa using l), List.getElem?_eq_none (by omega)]
  · rw [List.getElem?_set_ne e]
theorem wipe_wipe {σ : L2.St} {vs : List Nat} : wipe (wipe σ vs) vs = wipe σ vs := by
  refine List.ext_getElem? fun i => ?_
  rw [wipe_get, wipe_get]
  by_cases e : i ∈ vs
  · rw [if_pos e, if_pos e]
    cases σ[i]? <;> rfl
  · rw [if_neg e, if_neg e]
theorem Holds.wipe {σ : L2.St} {F : Hp} (h : Holds Γ σ F) : ∀ (vs : List Nat), Holds (lost Γ vs) (wipe σ vs) F
  | [] => h
  | _ :: vs => (Holds.wipe h vs).lose
theorem tg_name (j : Nat) {T : Ty} {x : Str} (hN : X.N.Nodup) (hi : X.N[j]? = some x := by rfl) (hx : Loc X.env.scope x := by first | exact Or.inl rfl | exact Or.inr rfl) (hf : X.fn x = true ∨ X.env.scope.names.lookup x = some .local := by first | exact .inl rfl | exact .inr rfl) :
    TgT X m (.Name x pos) T Γ (Γ.set j (some T)) [j] :=
  fun σ F H v g p Q q pins s u I r => (pg_name hN hi hx hf).run pins s σ H v u Q I r (q _ F H (Gr.refl g.ex) ⟨g.ex, g.i, g.h.set (by
    rw [I.len]
    exact (List.getElem?_eq_some_iff.mp hi).1) p⟩ fun vs hv => wipe_set (hv j (by simp)))
/-- a tuple whose items are of these kinds -/
def TuT (K : PySem.W.Frag) (Ts : List Ty) : Ty := ⟨fun v F => ∃ a vs, v = .ref a ∧ SqT K F a vs ∧ HoldsA Ts vs F, fun v F F' e ⟨a, vs, h1, h2, h3⟩ => ⟨a, vs, h1, ex_sqt e h2, h3.mono e⟩⟩
/-- a list whose items are of these kinds -/
def LsT (Ts : List Ty) : Ty := ⟨fun v F => ∃ a vs, v = .ref a ∧ F a = some (.lst vs) ∧ HoldsA Ts vs F, fun v F F' e ⟨a, vs, h1, h2, h3⟩ => ⟨a, vs, h1, e _ _ h2, h3.mono e⟩⟩
theorem holdsA_das {K : PySem.W.Frag} {F : Hp} : ∀ {ds : List D} {vs : List V}, DAs K F ds vs → HoldsA (ds.map (Is K)) vs F
  | [], vs, h => by rw [h.nl]; trivial
  | d :: ds, vs, h => by
    obtain ⟨v, r, rfl, h1, h2⟩ := h.un
    exact ⟨h1, holdsA_das h2⟩
theorem is_tut {K : PySem.W.Frag} {ds : List D} {v : V} {F : Hp} (h : (Is K (.tup ds)).p v F) : (TuT K (ds.map (Is K))).p v F := by
  obtain ⟨a, xs, h1, h2, h3⟩ := DAt.t h
  exact ⟨a, xs, h1, h2, holdsA_das h3⟩
theorem is_lst {K : PySem.W.Frag} {ds : List D} {v : V} {F : Hp} (h : (Is K (.lst ds)).p v F) : (LsT (ds.map (Is K))).p v F := by
  obtain ⟨a, xs, h1, h2, h3⟩ := DAt.l h
  exact ⟨a, xs, h1, h2, holdsA_das h3⟩
theorem lst_is {K : PySem.W.Frag} {ds : List D} {v : V} {F : Hp} (h : (LsT (ds.map (Is K))).p v F) : (Is K (.lst ds)).p v F := by
  obtain ⟨a, xs, rfl, h2, h3⟩ := h
  exact .lst h2 (das_of h3) .nil
theorem tut_is {K : PySem.W.Frag} {ds : List D} {v : V} {F : Hp} (h : (TuT K (ds.map (Is K))).p v F) : (Is K (.tup ds)).p v F := by
  obtain ⟨a, xs, rfl, h2, h3⟩ := h
  exact .tup h2 (das_of h3) .nil
theorem tg_nil : TgTs X m [] [] Γ Γ [] := fun σ F H vs g p Q q pins s us I r => pgs_nil.run pins s σ H vs us Q I r (by
  cases vs with
  | nil => exact ⟨rfl, q σ F H (Gr.refl g.ex) g fun _ _ => rfl⟩
  | cons _ _ => exact p.elim)
theorem tg_cons {t : Expr} {ts : List Expr} {T : Ty} {Ts : List Ty} {Γ1 Γ2 : Gam} {js1 js2 : List Nat} (h1 : TgT X m t T Γ Γ1 js1) (h2 : TgTs X m ts Ts Γ1 Γ2 js2)
    (hs : (assignEach (t :: ts) X.env).map (·.2) = assign t X.env :: (assignEach ts X.env).map (·.2) := by rfl) : TgTs X m (t :: ts) (T :: Ts) Γ Γ2 (js1 ++ js2) := fun σ F H vs g p Q q pins s us I rr => (pgs_cons semG semGs hs).run pins s σ H vs us Q I rr (by
  cases vs with
  | nil => exact p.elim
  | cons v r => exact ⟨v, r, rfl, h1 σ F H v g p.1 _ fun σ1 F1 H1 gr1 g1 w1 => h2 σ1 F1 H1 r g1 (p.2.mono gr1.ff) _ fun σ2 F2 H2 gr2 g2 w2 => q σ2 F2 H2 (gr1.trans gr2) g2 fun us hu =>
      (w2 us fun j hj => hu j (List.mem_append_right _ hj)).trans (w1 us fun j hj => hu j (List.mem_append_left _ hj))⟩)
theorem tg_tup {ts : List Expr} {Ts : List Ty} {T : Ty} {Γ' : Gam} {js : List Nat} {k : Nat} (hc : X.calm = true) (h : TgTs X m ts Ts Γ Γ' js) (hT : ∀ v F, T.p v F → (TuT X.K Ts).p v F) (hn : (assignEach ts X.env).length = Ts.length := by rfl) (hst : (assignEach ts X.env).findIdx? (·.1) = none := by rfl) :
    TgT X m (.Tuple ts k pos) T Γ Γ' js := fun σ F H v gd p Q q pins s u I r => (pg_tup hc semGs hn hst).run pins s σ H v u Q I r (by
  obtain ⟨a, vs, rfl, h1, h2⟩ := hT v F p
  exact ⟨a, vs, rfl, ex_sqt gd.ex h1, h2.len, h σ F H vs gd h2 Q q⟩)
theorem tg_tupD {ts : List Expr} {ds : List D} {Γ' : Gam} {js : List Nat} {k : Nat} (hc : X.calm = true) (h : TgTs X m ts (ds.map (Is X.K)) Γ Γ' js) (hn : (assignEach ts X.env).length = (ds.map (Is X.K)).length := by rfl) (hst : (assignEach ts X.env).findIdx? (·.1) = none := by rfl) :
    TgT X m (.Tuple ts k pos) (Is X.K (.tup ds)) Γ Γ' js := tg_tup hc h (fun v F p => is_tut p) hn hst
/-- x, y, *rest -/
theorem tg_star {t1 t2 t3 : Expr} {k : Nat} {sp : Pos} {d1 d2 : D} {ds : List D} {Γ' : Gam} {js : List Nat} (hc : X.calm = true) (h : TgTs X m [t1, t2, t3] [Is X.K d1, Is X.K d2, Is X.K (.lst ds)] Γ Γ' js) (hn : (assignEach [t1, t2, .Starred t3 sp] X.env).length = 3 := by rfl)
    (hst : (assignEach [t1, t2, .Starred t3 sp] X.env).findIdx? (·.1) = some 2 := by rfl) (hm : (assignEach [t1, t2, .Starred t3 sp] X.env).map (·.2) = (assignEach [t1, t2, t3] X.env).map (·.2) := by rfl) :
    TgT X m (.Tuple [t1, t2, .Starred t3 sp] k pos) (Is X.K (.tup (d1 :: d2 :: ds))) Γ Γ' js := fun σ F H v gd p Q q pins s u I r => (pg_star2 hc semGs hn hst hm).run pins s σ H v u Q I r (by
  obtain ⟨a, xs, rfl, h1, h2⟩ := DAt.t p
  obtain ⟨v1, r1, rfl, p1, h2⟩ := h2.un
  obtain ⟨v2, r2, rfl, p2, h2⟩ := h2.un
  refine ⟨a, v1, v2, r2, rfl, ex_sqt gd.ex h1, fun p hp => ?_⟩
  have gn : Gr0 F H (upd F p (.lst r2)) (upd H p (.lst r2)) := Gr.new gd.ex hp
  exact h σ _ _ [v1, v2, .ref p] (gd.nx0 gn) ⟨DAs.mono gn.ff p1, DAs.mono gn.ff p2, DAs.lst upd_same (h2.mono gn.ff) .nil, trivial⟩ Q fun σ' F' H' g1 g2 w => q σ' F' H' (gn.trans g1) g2 w)
/-- a target of any kind -/
theorem b_asg {tg : Expr} {T : Ty} {Γ' : Gam} {js : List Nat} {o : Except Str α} {enc : α → Ty} {rest : List Stmt} (h : EvE X m Γ e T) (ht : TgT X m tg T Γ Γ' js) (hr : Blk X m E Γ' rest o enc) (hs : swapsWithSole [tg] e pos.line X.env = pure false := by rfl) (hw : swappedStores [tg] e X.env = pure none := by rfl)
    (h1 : (assignEach [tg] X.env).map (·.2) = [assign tg X.env] := by rfl) : Blk X m E Γ (.Assign [tg] e pos :: rest) o enc := fun σ F H g D q pins s I =>
  (pss_cons (ps_asg sem semG hs hw h1) semS).run pins s σ H D I (h σ F H g _ fun v F1 H1 g1 i1 p => ht σ F1 H1 v (g.next g1 i1) p _ fun σ' F2 H2 gr gd _ => hr σ' F2 H2 gd D (q.later (g1.trans gr.weak)))
/-! ### walks -/
/-- the kinds of the items of a list, by the turn -/
def YL {α : Type} (xs : List α) (enc : α → Ty) : Nat → Ty := fun i => match xs[i]? with
  | some x => enc x
  | none => ⟨fun _ _ => True, fun _ _ _ _ _ => trivial⟩
theorem yl_at {xs : List α} {enc : α → Ty} {i : Nat} {x : α} (h : xs[i]? = some x) : YL xs enc i = enc x := by
  unfold YL
  rw [h]
theorem holdsA_get {F : Hp} : ∀ {Ts : List Ty} {vs : List V} {i : Nat} {v : V}, HoldsA Ts vs F → vs[i]? = some v → ∃ T, Ts[i]? = some T ∧ T.p v F
  | [], [], i, v, _, e => by simp at e
  | T :: Ts, v :: vs, 0, u, h, e => by
    simp at e
    subst e
    exact ⟨T, rfl, h.1⟩
  | T :: Ts, v :: vs, i + 1, u, h, e => by
    obtain ⟨S, e1, p⟩ := holdsA_get h.2 (i := i) (v := u) (by simpa using e)
    exact ⟨S, by simpa using e1, p⟩
theorem yl_holds {F : Hp} {xs : List α} {enc : α → Ty} {vs : List V} (h : HoldsA (xs.map enc) vs F) {i : Nat} {v : V} (e : vs[i]? = some v) : (YL xs enc i).p v F := by
  obtain ⟨T, e1, p⟩ := holdsA_get h e
  rw [List.getElem?_map] at e1
  cases hx : xs[i]? with
  | none => rw [hx] at e1; cases e1
  | some x =>
    rw [hx] at e1
    rw [yl_at hx]
    cases e1
    exact p
theorem i_list {tg : Expr} {xs : List α} {enc : α → Ty} (h : EvE X m Γ e (LsT (xs.map enc))) : PIx X m Γ tg e xs.length (YL xs enc) :=
  ⟨_, pi_list sem, fun σ F H g R q => h σ F H g _ fun v F1 H1 g1 i1 ⟨a, vs, ev, h2, h3⟩ => ⟨a, ev, ⟨vs, SqL.of (g1.fh _ _ h2)⟩, q _ F1 H1 g1 i1 (by
    have hl : vs.length = xs.length := by rw [h3.len, List.length_map]
    refine ⟨fun F' H' a1 a2 aI i hi => ?_, fun F' H' a1 a2 aI => ?_, fun F' H' a1 a2 aI i x H2 hi y => ?_⟩
    · exact ⟨vs, vs[i], SqL.of (a2 _ _ (a1 _ _ h2)), by simp [hl, hi]⟩
    · exact ⟨vs, SqL.of (a2 _ _ (a1 _ _ h2)), by omega⟩
    · obtain ⟨rfl, y⟩ := y
      exact ⟨F', Gr.refl a2, yl_holds (h3.mono a1) (y vs (SqL.of (a2 _ _ (a1 _ _ h2))))⟩)⟩⟩
theorem i_tup {tg : Expr} {xs : List α} {enc : α → Ty} (h : EvE X m Γ e (TuT X.K (xs.map enc))) : PIx X m Γ tg e xs.length (YL xs enc) :=
  ⟨_, pi_tup sem, fun σ F H g R q => h σ F H g _ fun v F1 H1 g1 i1 ⟨a, vs, ev, h2, h3⟩ => ⟨a, ev, ⟨vs, ex_sqt g1.fh h2⟩, q _ F1 H1 g1 i1 (by
    have hl : vs.length = xs.length := by rw [h3.len, List.length_map]
    refine ⟨fun F' H' a1 a2 aI i hi => ?_, fun F' H' a1 a2 aI => ?_, fun F' H' a1 a2 aI i x H2 hi y => ?_⟩
    · exact ⟨vs, vs[i], ex_sqt a2 (ex_sqt a1 h2), by simp [hl, hi]⟩
    · exact ⟨vs, ex_sqt a2 (ex_sqt a1 h2), by omega⟩
    · obtain ⟨rfl, y⟩ := y
      exact ⟨F', Gr.refl a2, yl_holds (h3.mono a1) (y vs (ex_sqt a2 (ex_sqt a1 h2)))⟩)⟩⟩
theorem i_str {tg : Expr} {z : Str} (h : EvE X m Γ e (Is X.K (.str z))) : PIx X m Γ tg e z.cps.toList.length (YL z.cps.toList fun c => Is X.K (.str ⟨#[c]⟩)) :=
  ⟨_, pi_str sem, fun σ F H g R q => h σ F H g _ fun v F1 H1 g1 i1 p => ⟨z, DAt.s p, q _ F1 H1 g1 i1 (by
    refine ⟨fun F' H' a1 a2 aI i hi => ?_, fun F' H' a1 a2 aI => ?_, fun F' H' a1 a2 aI i x H2 hi y => ?_⟩
    · show i < z.cps.size
      simpa using hi
    · show z.cps.size ≤ _
      simp
    · obtain ⟨rfl, c, hc, rfl⟩ := y
      refine ⟨F', Gr.refl a2, ?_⟩
      rw [yl_at (x := c) (by simpa using hc)]
      exact .str .nil)⟩⟩
theorem i_range {tg a : Expr} {p : Pos} {n : Nat} (hm : X.mg "range" = none) (h : EvE X m Γ a (Is X.K (.int n))) (hn : n ≤ 1000000) (hg : Gl X "range" := by rfl) (hs : starEach [a] X.env = [(false, eval a X.env)] := by rfl) :
    PIx X m Γ tg (.Call (.Name "range" p) [a] [] pos) (List.range n).length (YL (List.range n) fun k => Is X.K (.int k)) :=
  ⟨_, pi_range1 hg hm semA hs, fun σ F H g R q => (show EvA X m Γ [a] [Is X.K (.int n)] from a_cons h a_nil hs) σ F H g _ fun vs F1 H1 g1 i1 p1 => by
    match vs, p1 with
    | [v], ⟨p1, _⟩ =>
      refine ⟨(n : Int), by rw [DAt.i p1], by omega, by omega, q _ F1 H1 g1 i1 ?_⟩
      have e : (n : Int).toNat = n := by omega
      rw [e]
      refine ⟨fun F' H' a1 a2 aI i hi => ?_, fun F' H' a1 a2 aI => ?_, fun F' H' a1 a2 aI i x H2 hi y => ?_⟩
      · show i < n
        simpa using hi
      · show n ≤ _
        simp
      · obtain ⟨rfl, rfl⟩ := y
        refine ⟨F', Gr.refl a2, ?_⟩
        rw [yl_at (x := i) (by rw [List.getElem?_range (by simpa using hi)])]
        rw [Int.zero_add]
        exact .int .nil⟩
theorem i_enum {a : Expr} {elts : List Expr} {kk : Nat} {p tpos : Pos} {xs : List α} {enc : α → Ty} (hm : X.mg "enumerate" = none) (h : EvE X m Γ a (LsT (xs.map enc))) (hg : Gl X "enumerate" := by rfl) (hs : starEach [a] X.env = [(false, eval a X.env)] := by rfl) :
    PIx X m Γ (.Tuple elts kk tpos) (.Call (.Name "enumerate" p) [a] [] pos) xs.length (fun i => TuT X.K [Is X.K (.int i), YL xs enc i]) :=
  ⟨_, pi_enum hg hm semA hs, fun σ F H g R q => (show EvA X m Γ [a] [LsT (xs.map enc)] from a_cons h a_nil hs) σ F H g _ fun vs F1 H1 g1 i1 p1 => by
    match vs, p1 with
    | [v], ⟨⟨a, vs, ev, h2, h3⟩, _⟩ =>
      refine ⟨a, vs, by rw [ev], SqL.of (g1.fh _ _ h2), q _ F1 H1 g1 i1 ?_⟩
      have hl : vs.length = xs.length := by rw [h3.len, List.length_map]
      refine ⟨fun F' H' a1 a2 aI i hi => ?_, fun F' H' a1 a2 aI => ?_, fun F' H' a1 a2 aI i x H2 hi y => ?_⟩
      · exact ⟨vs, vs[i], SqL.of (a2 _ _ (a1 _ _ h2)), by simp [hl, hi]⟩
      · exact ⟨vs, SqL.of (a2 _ _ (a1 _ _ h2)), by omega⟩
      · obtain ⟨T, y, rfl, hT, rfl, hy⟩ := y
        have gn : Gr0 F' H' (upd F' T (.tup [.int (i : Nat), y])) (upd H' T (.tup [.int (i : Nat), y])) := Gr.new a2 hT
        refine ⟨_, gn, T, _, rfl, SqT.of upd_same, .int .nil, ?_, trivial⟩
        exact (YL xs enc i).mono _ _ _ (a1.trans gn.ff) (yl_holds h3 (hy vs (SqL.of (a2 _ _ (a1 _ _ h2)))))⟩
end
/-! ### for -/
section
variable {X : Cx} {m : Mu} {E : XK} {Γ : Gam} {e c : Expr} {P : Ty} {pos pos' : Pos} {α β : Type}
def firstErr : List (Except Str Unit) → Except Str Unit
  | [] => .ok ()
  | .error z :: _ => .error z
  | .ok () :: r => firstErr r
/-- the first error among n turns from i on -/
def fromErr (c : Nat → Except Str Unit) (i : Nat) : Nat → Except Str Unit
  | 0 => .ok ()
  | n + 1 => match c i with
    | .error z => .error z
    | .ok () => fromErr c (i + 1) n
theorem Good.loses {σ : L2.St} {F H : Hp} (h : Good m Γ σ F H) (js : List Nat) : Good m (lost Γ js) σ F H := ⟨h.ex, h.i, h.h.loses js⟩
theorem fromErr_step {c : Nat → Except Str Unit} {i n : Nat} (h : c i = .ok ()) : fromErr c i (n + 1) = fromErr c (i + 1) n := by
  show (match c i with | .error z => _ | .ok () => _) = _
  rw [h]
theorem fromErr_err {c : Nat → Except Str Unit} {i n : Nat} {z : Str} (h : c i = .error z) : fromErr c i (n + 1) = .error z := by
  show (match c i with | .error z => _ | .ok () => _) = _
  rw [h]
/-- a for whose body checks and maybe raises -/
theorem s_for {tg iter : Expr} {body : List Stmt} {n : Nat} {Y : Nat → Ty} {Γ1 : Nat → Gam} {js : List Nat} {c : Nat → Except Str Unit} {Γ2 : Nat → Gam} (hp : PassesOwn (model X.prog X.w) X.A X.env X.xe) (hc : X.calm = true) (hi : PIx X m Γ tg iter n Y)
    (ht : ∀ i, i < n → TgT X m tg (Y i) (lost Γ js) (Γ1 i) js) (hb : ∀ i, i < n → StFs X m E (Γ1 i) body (c i) (fun _ => Γ2 i)) (h2 : ∀ i, lost (Γ2 i) js = lost Γ js) (hs : ∀ x, foldedSetIterable iter X.env x = pure x := by intro _; rfl) :
    StF X m E Γ (.For tg iter body [] pos) (fromErr c 0 n) (fun _ => lost Γ js) := by
  obtain ⟨wi, PW, ri⟩ := hi
  intro σ F H g D q pins s I
  refine (ps_for hp hc PW semG semS hs).run pins s σ H D I (ri σ F H g _ fun J F1 H1 g1 i1 wk => ?_)
  have W0 : CoF X m E F1 H1 D.nx (fromErr c 0 n) (fun _ => lost Γ js) := q.later g1
  have G0 : Good m (lost Γ js) σ F1 H1 := (g.next g1 i1).loses js
  refine ⟨fun i k σ' H' => k = n - i ∧ i ≤ n ∧ ∃ F', Ex F1 F' ∧ Good m (lost Γ js) σ' F' H' ∧ CoF X m E F' H' D.nx (fromErr c i (n - i)) (fun _ => lost Γ js), ⟨n, rfl, Nat.zero_le _, F1, Same.refl F1, G0, W0⟩, ?_⟩
  rintro i k σ' H' ⟨rfl, hin, F', ef, gd, w⟩
  by_cases hlt : i < n
  · refine .inr ⟨wk.go F' H' ef gd.ex gd.i i hlt, fun σ2 H2 => i + 1 ≤ n ∧ ∃ F2, Ex F1 F2 ∧ Good m (lost Γ js) σ2 F2 H2 ∧ CoF X m E F2 H2 D.nx (fromErr c (i + 1) (n - (i + 1))) (fun _ => lost Γ js), fun σ2 H2 h => ⟨n - (i + 1), by omega, rfl, h⟩, fun x H2 hy => ?_⟩
    obtain ⟨F2, gr2, px⟩ := wk.yld F' H' ef gd.ex gd.i i x H2 hlt hy
    have gd2 := gd.nx0 gr2
    refine ht i hlt σ' F2 H2 x gd2 px _ fun σ3 F3 H3 gr3 gd3 _ => ?_
    have w3 := (w.later gr2.weak).later gr3.weak
    have en : n - i = (n - (i + 1)) + 1 := by omega
    have hb1 := hb i hlt
    cases hci : c i with
    | ok u =>
      rw [en, fromErr_step hci] at w3
      rw [hci] at hb1
      intro pins s I
      refine hb1 σ3 F3 H3 gd3 _ (fun σ4 F4 H4 g4 gd4 => ?_) pins s I
      refine ⟨hlt, F4, (ef.trans gr2.ff).trans (gr3.ff.trans g4.ff), ?_, w3.later g4⟩
      rw [← h2 i]
      exact gd4.loses js
    | error z =>
      rw [en, fromErr_err hci] at w3
      rw [hci] at hb1
      exact hb1 σ3 F3 H3 gd3 _ w3
  · have e : i = n := by omega
    subst e
    rw [Nat.sub_self] at w
    exact .inl ⟨wk.stop F' H' ef gd.ex gd.i, w σ' F' H' (Gr.refl gd.ex) gd⟩
end
end R60

set_option Elab.async false
set_option linter.all false
set_option maxRecDepth 100000
set_option maxHeartbeats 4000000
namespace R60
open PySem PySem.Spec PyProof.Rows L2
/-! ### comprehensions -/
abbrev blkX (X : Cx) (scope : Scope) (s : Shared) (H : Hp) (C : Addr) (cl : List (Str × Addr)) (fp : List Addr) : Cx := X.blk s H scope (compEnvC scope cl C X.env) fp
def gB (X : Cx) (scope : Scope) (tg : Expr) : TG := fun v σ H Q => ∀ s0 H0 C cl fp, tSemG (blkX X scope s0 H0 C cl fp) tg v σ H Q
def tB (X : Cx) (scope : Scope) (c : Expr) : TT := fun σ H Q => ∀ s0 H0 C cl fp, tSemT (blkX X scope s0 H0 C cl fp) c σ H Q
def eB (X : Cx) (scope : Scope) (e : Expr) : TE := fun σ H Q => ∀ s0 H0 C cl fp, tSem (blkX X scope s0 H0 C cl fp) e σ H Q
/-- the tests of a comprehension: none, or one -/
inductive CIf (X : Cx) (scope : Scope) : List Expr → TT → Prop
  | nil : CIf X scope [] tYes
  | one {c : Expr} : CIf X scope [c] (tB X scope c)
section
variable {X : Cx} {m : Mu} {E : XK} {Γ : Gam} {e c elt tg iter : Expr} {P : Ty} {pos pos' : Pos} {α β : Type} {ifs : List Expr} {scope : Scope} {own : List (Str × Nat)} {tt : TT}
theorem CIf.pts (h : CIf X scope ifs tt) (s : Shared) (H : Hp) (C : Addr) (cl : List (Str × Addr)) (fp : List Addr) : PTs (blkX X scope s H C cl fp) ifs tt := by
  cases h with
  | nil => exact pts_nil
  | one => exact pts_one ⟨fun pins s σ H Q I h => h _ _ _ _ _ pins s I⟩
/-- what a comprehension's test answers -/
def CEv (X : Cx) (scope : Scope) (m : Mu) (Γ : Gam) (ifs : List Expr) (b : Bool) : Prop := match ifs with
  | [] => b = true
  | [c] => ∀ s0 H0 C cl fp, EvT (blkX X scope s0 H0 C cl fp) m Γ c (Eq b)
  | _ => False
theorem gr_upd {U : Addr → Prop} {F H F' H' : Hp} {D : Addr} {o : HO} (g : Gr U F H F' H') (h0 : H D = none) (f0 : F' D = none) : Gr U F H F' (upd H' D o) := by
  refine ⟨g.ff, fun b u q => ?_, fun b u n q => ?_, fun b q => ?_, g.nw⟩
  · rw [upd_ne (ne_of_none q f0)]; exact g.fh b u q
  · rw [upd_ne (ne_of_none q h0)]; exact g.hh b u n q
  · by_cases e : b = D
    · subst e; exact h0
    · rw [upd_ne e] at q; exact g.dm b q
theorem gr_fin {U : Addr → Prop} {F H F' H' : Hp} {D : Addr} {o : HO} (g : Gr U F H F' H') (h0 : H D = none) (hD : H' D = some o) (f0 : F' D = none) : Gr U F H (upd F' D o) H' := by
  have ff : Ex F' (upd F' D o) := fun b u q => by rw [upd_ne (ne_of_none q f0)]; exact q
  refine ⟨g.ff.trans ff, fun b u q => ?_, g.hh, g.dm, fun b q n => ?_⟩
  · by_cases e : b = D
    · subst e; rw [upd_same] at q; rw [hD]; exact q
    · rw [upd_ne e] at q; exact g.fh b u q
  · have e : b ≠ D := fun z => n (by rw [z]; exact h0)
    rw [upd_ne e]; exact g.nw b q n
theorem holdsA_snoc {F : Hp} {Ts : List Ty} {vs : List V} {T : Ty} {v : V} (h : HoldsA Ts vs F) (p : T.p v F) : HoldsA (Ts ++ [T]) (vs ++ [v]) F := holdsA_app h ⟨p, trivial⟩
/-- a list that is new, and not yet fixed -/
def NewL (m : Mu) (F H : Hp) (Q : VK) (Ps : List Ty) : Prop := ∀ a acc F' H', Gr m.U F H F' H' → m.I F' H' → H a = none → F' a = none → H' a = some (.lst acc) → HoldsA Ps acc F' → Q (.ref a) H'
def EvN (X : Cx) (m : Mu) (Γ : Gam) (e : Expr) (Ps : List Ty) : Prop := ∀ σ F H, Good m Γ σ F H → ∀ Q : VK, NewL m F H Q Ps → tSem X e σ H Q
theorem newL_of {m : Mu} {F H : Hp} {Q : VK} {Ps : List Ty} (i0 : m.I F H) (q : ∀ v F' H', Gr m.U F H F' H' → m.I F' H' → (LsT Ps).p v F' → Q v H') : NewL m F H Q Ps := fun a acc F' H' g i h0 f0 hl hp => by
  have ex : Ex F' (upd F' a (.lst acc)) := fun b u z => by rw [upd_ne (ne_of_none z f0)]; exact z
  by_cases hU : m.U a
  · exact absurd h0 (m.up F H a i0 hU)
  · exact q _ _ H' (gr_fin g h0 hl f0) (m.add F' H' a _ hU f0 i) ⟨a, acc, rfl, upd_same, hp.mono ex⟩
theorem EvN.toE {X : Cx} {m : Mu} {Γ : Gam} {e : Expr} {Ps : List Ty} (h : EvN X m Γ e Ps) : EvE X m Γ e (LsT Ps) := fun σ F H g Q q => h σ F H g Q (newL_of g.i q)
theorem lc_read {xs : List α} {Y : Nat → Ty} {Γ1 : α → Gam} {js : List Nat} {bx : α → Bool} {fx : α → Ty} {wi : TI} {σ : L2.St} {F H : Hp} {Q : VK} {vs : List Nat}
    (ri : ∀ R : It → Hp → Prop, (∀ J F1 H1, Gr m.U F H F1 H1 → m.I F1 H1 → Wk m J xs.length F1 Y → R J H1) → wi σ H R) (g : Good m Γ σ F H) (hn : xs.length ≤ 100000) (hif : CIf X scope ifs tt) (hj : ∀ j ∈ js, j ∈ vs)
    (ht : ∀ i x, xs[i]? = some x → ∀ s0 H0 C cl fp, TgT (blkX X scope s0 H0 C cl fp) m tg (Y i) (lost Γ vs) (Γ1 x) js)
    (hc : ∀ x ∈ xs, CEv X scope m (Γ1 x) ifs (bx x)) (he : ∀ x ∈ xs, bx x = true → ∀ s0 H0 C cl fp, EvE (blkX X scope s0 H0 C cl fp) m (Γ1 x) elt (fx x))
    (q : NewL m F H Q ((xs.filter bx).map fx)) : tLc wi (gB X scope tg) tt (eB X scope elt) vs σ H Q := by
  refine ri _ fun J F1 H1 g1 i1 wk => fun Dl hD => ?_
  have nU : ¬ m.U Dl := fun z => m.up F1 H1 Dl i1 z hD
  have f1D : F1 Dl = none := Same.free g1.fh hD
  have G0 : Holds (lost Γ vs) (wipe σ vs) F1 := (g.h.mono g1.ff).wipe vs
  let Inv1 : Nat → Hp → Prop := fun i H' => ∃ F' acc, Gr m.U F1 H1 F' H' ∧ F' Dl = none ∧ m.I F' H' ∧ H' Dl = some (.lst acc) ∧ HoldsA (((xs.take i).filter bx).map fx) acc F'
  have stepI : ∀ F' H' (o : HO), m.I F' H' → m.I F' (upd H' Dl o) := fun F' H' o h => m.loc F' H' _ (fun b hb => upd_ne (fun z => nU (by rw [← z]; exact hb))) h
  refine ⟨fun i k H' => k = xs.length - i ∧ i ≤ xs.length ∧ Inv1 i H', ⟨xs.length, rfl, Nat.zero_le _, F1, [], gr_upd (Gr.refl g1.fh) hD f1D, f1D, stepI _ _ _ i1, upd_same, trivial⟩, ?_⟩
  rintro i k H' ⟨rfl, hin, F', acc, gr, fD, iI, hacc, hA⟩
  by_cases hlt : i < xs.length
  · refine .inr ⟨wk.go F' H' gr.ff gr.fh iI i hlt, fun H2 => i + 1 ≤ xs.length ∧ Inv1 (i + 1) H2, fun H2 h => ⟨xs.length - (i + 1), by omega, rfl, h.1, h.2⟩, fun x H2 hy => ?_⟩
    obtain ⟨F2, gr2, px⟩ := wk.yld F' H' gr.ff gr.fh iI i x H2 hlt hy
    have hxi : xs[i]? = some xs[i] := by simp [hlt]
    have hmem : xs[i] ∈ xs := List.getElem_mem hlt
    have I2 : m.I F2 H2 := m.st _ _ _ _ gr2 iI
    have gdw : Good m (lost Γ vs) (wipe σ vs) F2 H2 := ⟨gr2.fh, I2, (G0.mono gr.ff).mono gr2.ff⟩
    have etake : xs.take (i + 1) = xs.take i ++ [xs[i]] := by rw [List.take_succ, hxi] <;> rfl
    have accl : acc.length ≤ xs.length := by
      have := hA.len
      rw [List.length_map] at this
      have h1 := List.length_filter_le bx (xs.take i)
      have h2 := List.length_take_le i xs
      have h3 := List.length_take_le' i xs
      omega
    intro s0 H0 C cl fp
    refine ht i _ hxi s0 H0 C cl fp (wipe σ vs) F2 H2 x gdw px _ fun σ3 F3 H3 gr3 gd3 hw => ?_
    refine ⟨(hw vs hj).trans wipe_wipe, ?_⟩
    have grA : Gr m.U F1 H1 F3 H3 := (gr.trans gr2.weak).trans gr3.weak
    have fD2 : F2 Dl = none := gr2.nw Dl fD (by rw [hacc]; simp)
    have hacc2 : H2 Dl = some (.lst acc) := gr2.hh Dl _ (fun z => z) hacc
    have fD3 : F3 Dl = none := gr3.nw Dl fD2 (by rw [hacc2]; simp)
    have hacc3 : H3 Dl = some (.lst acc) := gr3.hh Dl _ (fun z => z) hacc2
    have hA3 : HoldsA (((xs.take i).filter bx).map fx) acc F3 := (hA.mono gr2.ff).mono gr3.ff
    have go : ∀ b F4 H4, Gr m.U F3 H3 F4 H4 → m.I F4 H4 → bx xs[i] = b → (if b = true then eB X scope elt σ3 H4 fun y H5 => ∃ acc, H5 Dl = some (.lst acc) ∧ acc.length < sizeLine ∧ (fun H2 => i + 1 ≤ xs.length ∧ Inv1 (i + 1) H2) (upd H5 Dl (.lst (acc ++ [y]))) else (fun H2 => i + 1 ≤ xs.length ∧ Inv1 (i + 1) H2) H4) := by
      intro b F4 H4 gr4 i4 hb
      have fD4 : F4 Dl = none := gr4.nw Dl fD3 (by rw [hacc3]; simp)
      have hacc4 : H4 Dl = some (.lst acc) := gr4.hh Dl _ nU hacc3
      have gd4 : Good m (Γ1 xs[i]) σ3 F4 H4 := gd3.next gr4 i4
      cases b with
      | true =>
        rw [if_pos rfl]
        intro s0 H0 C cl fp
        refine he _ hmem hb s0 H0 C cl fp σ3 F4 H4 gd4 _ fun y F5 H5 gr5 i5 py => ?_
        have fD5 : F5 Dl = none := gr5.nw Dl fD4 (by rw [hacc4]; simp)
        have hacc5 : H5 Dl = some (.lst acc) := gr5.hh Dl _ nU hacc4
        refine ⟨acc, hacc5, Nat.lt_of_le_of_lt (Nat.le_trans accl hn) (by decide), hlt, F5, acc ++ [y], gr_upd ((grA.trans gr4).trans gr5) hD fD5, fD5, stepI _ _ _ i5, upd_same, ?_⟩
        rw [etake, List.filter_append, List.map_append]
        have e1 : [xs[i]].filter bx = [xs[i]] := by simp [hb]
        rw [e1]
        exact holdsA_snoc ((hA3.mono gr4.ff).mono gr5.ff) py
      | false =>
        rw [if_neg Bool.false_ne_true]
        refine ⟨hlt, F4, acc, grA.trans gr4, fD4, i4, hacc4, ?_⟩
        rw [etake, List.filter_append, List.map_append]
        have e1 : [xs[i]].filter bx = [] := by simp [hb]
        rw [e1, List.map_nil, List.append_nil]
        exact hA3.mono gr4.ff
    have hcx := hc _ hmem
    cases hif with
    | nil =>
      have hcx : bx xs[i] = true := hcx
      exact go true F3 H3 (Gr.refl gd3.ex) gd3.i hcx
    | one =>
      intro s0 H0 C cl fp
      exact hcx s0 H0 C cl fp σ3 F3 H3 gd3 _ fun b F4 H4 gr4 i4 eb => go b F4 H4 gr4 i4 eb
  · have e : i = xs.length := by omega
    subst e
    refine .inl ⟨wk.stop F' H' gr.ff gr.fh iI, q Dl acc F' H' (g1.trans gr) iI (g1.dm Dl hD) fD hacc ?_⟩
    rw [List.take_length] at hA
    exact hA
theorem n_lc {xs : List α} {Y : Nat → Ty} (Γ1 : α → Gam) (js : List Nat) (bx : α → Bool) (fx : α → Ty) (hcl : X.calm = true) (hN : X.N.Nodup) (hi : PIx X m Γ tg iter xs.length Y) (hn : xs.length ≤ 100000) (ok : BlkOk X.N X.env.scope scope own)
    (hif : CIf X scope ifs tt) (hj : ∀ j ∈ js, j ∈ own.map (·.2)) (ht : ∀ i x, xs[i]? = some x → ∀ s0 H0 C cl fp, TgT (blkX X scope s0 H0 C cl fp) m tg (Y i) (lost Γ (own.map (·.2))) (Γ1 x) js)
    (hc : ∀ x ∈ xs, CEv X scope m (Γ1 x) ifs (bx x)) (he : ∀ x ∈ xs, bx x = true → ∀ s0 H0 C cl fp, EvE (blkX X scope s0 H0 C cl fp) m (Γ1 x) elt (fx x)) (hs : ∀ x, foldedSetIterable iter X.env x = pure x := by intro _; rfl) :
    EvN X m Γ (.ListComp elt [⟨tg, iter, ifs, 0⟩] scope pos) ((xs.filter bx).map fx) := by
  obtain ⟨wi, PW, ri⟩ := hi
  intro σ F H g Q q pins s I
  refine (pe_lc (g := gB X scope tg) (tt := tt) (te := eB X scope elt) hcl hN PW ok (fun _ _ _ _ _ => ⟨fun pins s σ H v u Q I r h => h _ _ _ _ _ pins s u I r⟩) hif.pts (fun _ _ _ _ _ => ⟨fun pins s σ H Q I h => h _ _ _ _ _ pins s I⟩) hs).run pins s σ H Q I ?_
  exact lc_read (ri σ F H g) g hn hif hj ht hc he q
theorem e_lc {xs : List α} {Y : Nat → Ty} (Γ1 : α → Gam) (js : List Nat) (bx : α → Bool) (fx : α → Ty) (hcl : X.calm = true) (hN : X.N.Nodup) (hi : PIx X m Γ tg iter xs.length Y) (hn : xs.length ≤ 100000) (ok : BlkOk X.N X.env.scope scope own)
    (hif : CIf X scope ifs tt) (hj : ∀ j ∈ js, j ∈ own.map (·.2)) (ht : ∀ i x, xs[i]? = some x → ∀ s0 H0 C cl fp, TgT (blkX X scope s0 H0 C cl fp) m tg (Y i) (lost Γ (own.map (·.2))) (Γ1 x) js)
    (hc : ∀ x ∈ xs, CEv X scope m (Γ1 x) ifs (bx x)) (he : ∀ x ∈ xs, bx x = true → ∀ s0 H0 C cl fp, EvE (blkX X scope s0 H0 C cl fp) m (Γ1 x) elt (fx x)) (hs : ∀ x, foldedSetIterable iter X.env x = pure x := by intro _; rfl) :
    EvE X m Γ (.ListComp elt [⟨tg, iter, ifs, 0⟩] scope pos) (LsT ((xs.filter bx).map fx)) := (n_lc Γ1 js bx fx hcl hN hi hn ok hif hj ht hc he hs).toE
/-- y = [..] -/
theorem s_setLc (i : Nat) {y : Str} {py : Pos} {xs : List α} {Y : Nat → Ty} (Γ1 : α → Gam) (js : List Nat) (bx : α → Bool) (fx : α → Ty) (hcl : X.calm = true) (hN : X.N.Nodup) (hi : PIx X m Γ tg iter xs.length Y) (hn : xs.length ≤ 100000) (ok : BlkOk X.N X.env.scope scope own)
    (hif : CIf X scope ifs tt) (hj : ∀ j ∈ js, j ∈ own.map (·.2)) (ht : ∀ i x, xs[i]? = some x → ∀ s0 H0 C cl fp, TgT (blkX X scope s0 H0 C cl fp) m tg (Y i) (lost Γ (own.map (·.2))) (Γ1 x) js)
    (hc : ∀ x ∈ xs, CEv X scope m (Γ1 x) ifs (bx x)) (he : ∀ x ∈ xs, bx x = true → ∀ s0 H0 C cl fp, EvE (blkX X scope s0 H0 C cl fp) m (Γ1 x) elt (fx x))
    (hy : X.N[i]? = some y := by rfl) (hyl : X.env.scope.names.lookup y = some .local := by rfl) (hsw : swapsWith (.ListComp elt [⟨tg, iter, ifs, 0⟩] scope pos) (some (.Name y py)) pos'.line X.env = pure true := by exact sw_true rfl rfl rfl (by decide +kernel))
    (hs : ∀ x, foldedSetIterable iter X.env x = pure x := by intro _; rfl) :
    StF X m E Γ (.Assign [.Name y py] (.ListComp elt [⟨tg, iter, ifs, 0⟩] scope pos) pos') (.ok ()) (fun _ => Γ.set i (some (LsT ((xs.filter bx).map fx)))) := by
  obtain ⟨wi, PW, ri⟩ := hi
  intro σ F H g D q pins s I
  refine (ps_setLc (g := gB X scope tg) (tt := tt) (te := eB X scope elt) hcl hN hy hyl hsw PW ok (fun _ _ _ _ _ => ⟨fun pins s σ H v u Q I r h => h _ _ _ _ _ pins s u I r⟩) hif.pts (fun _ _ _ _ _ => ⟨fun pins s σ H Q I h => h _ _ _ _ _ pins s I⟩) hs).run pins s σ H D I ?_
  exact lc_read (ri σ F H g) g hn hif hj ht hc he <| newL_of g.i fun v F' H' g1 i1 p => q _ F' H' g1 ⟨g1.fh, i1, (g.h.mono g1.ff).set (by
    rw [I.len]
    exact (List.getElem?_eq_some_iff.mp hy).1) p⟩
end
/-! ### defs -/
section
variable {P : Program} {w : World} {K : PySem.W.Frag} {mg : Str → Option Value} {base : Heap} {x name qual mn : Str} {st : Stmt} {N ps : List Str} {k : Nat} {ι α : Type} {m : ι → Mu} {Ts : ι → List Ty} {o : ι → Except Str α} {enc : ι → α → Ty} {C : Addr}
abbrev cxD (P : Program) (w : World) (K : PySem.W.Frag) (mg : Str → Option Value) (base : Heap) (qual : Str) (st : Stmt) (N : List Str) (f : Addr) (cdv : Value) (A : Around) (outer : List Env) (s : Shared) (H : Hp) (E : XK) : Cx := cxOf (L2.CX P w) P w K mg base N qual (defScope st) f cdv A outer s H E
theorem body_blk {Γ : ι → Gam} (hl : ∀ i, (Ts i).length = ps.length) (hΓ : ∀ i, (Ts i).map some ++ List.replicate (N.length - ps.length) none = Γ i)
    (hb : ∀ i f cdv A outer s H E, Room k (cxD P w K mg base qual st N f cdv A outer s H E).A → Blk (cxD P w K mg base qual st N f cdv A outer s H E) (m i) E (Γ i) (defBody st) (o i) (enc i)) :
    BodyH P w K mg base qual st N k (spG K mg m Ts o enc) := by
  intro f cdv A outer s H vs Q E hr h
  obtain ⟨i, F, ex, iI, hA, c⟩ := h
  refine ⟨_, semS, hb i f cdv A outer s H E hr (L2.start N vs) F H ⟨ex, iI, ?_⟩ _ c⟩
  rw [← hΓ i]
  unfold L2.start
  have e : vs.length = ps.length := by rw [hA.len, hl]
  rw [e]
  exact hA.holds
theorem len_spG (hl : ∀ i, (Ts i).length = ps.length) : ∀ vs H Q E, spG K mg m Ts o enc vs H Q E → vs.length = ps.length := fun vs H Q E ⟨i, F, _, _, hA, _⟩ => by rw [hA.len, hl]
theorem cal_blk {Γ : ι → Gam} (D : DefX K mg x name qual st) (S : FnScope N ps (defScope st)) (b : BindH name qual st ps) (hl : ∀ i, (Ts i).length = ps.length) (hΓ : ∀ i, (Ts i).map some ++ List.replicate (N.length - ps.length) none = Γ i)
    (hb : ∀ i f cdv A outer s H E, Room k (cxD P w K mg base qual st N f cdv A outer s H E).A → Blk (cxD P w K mg base qual st N f cdv A outer s H E) (m i) E (Γ i) (defBody st) (o i) (enc i)) :
    CalX P w K mg base (k + 1) x (spG K mg m Ts o enc) := cal_of D S b (len_spG hl) (body_blk hl hΓ hb)
theorem met_blk {Γ : ι → Gam} (D : DefM K C mn qual st) (S : FnScope N ps (defScope st)) (b : BindH mn qual st ps) (hl : ∀ i, (Ts i).length = ps.length) (hΓ : ∀ i, (Ts i).map some ++ List.replicate (N.length - ps.length) none = Γ i)
    (hb : ∀ i f cdv A outer s H E, Room k (cxD P w K mg base qual st N f cdv A outer s H E).A → Blk (cxD P w K mg base qual st N f cdv A outer s H E) (m i) E (Γ i) (defBody st) (o i) (enc i)) :
    MetX P w K mg base (k + 1) C mn (spG K mg m Ts o enc) := met_of D S b (len_spG hl) (body_blk hl hΓ hb)
/-- a def that only checks: it goes through, or raises -/
theorem body_stf {Γ : ι → Gam} {o : ι → Except Str Unit} (hl : ∀ i, (Ts i).length = ps.length) (hΓ : ∀ i, (Ts i).map some ++ List.replicate (N.length - ps.length) none = Γ i)
    (hb : ∀ i f cdv A outer s H E, Room k (cxD P w K mg base qual st N f cdv A outer s H E).A → ∃ Γ' : Unit → Gam, StFs (cxD P w K mg base qual st N f cdv A outer s H E) (m i) E (Γ i) (defBody st) (o i) Γ') :
    BodyH P w K mg base qual st N k (spG K mg m Ts o (fun _ _ => Is K .non)) := by
  intro f cdv A outer s H vs Q E hr h
  obtain ⟨i, F, ex, iI, hA, c⟩ := h
  obtain ⟨Γ', hb'⟩ := hb i f cdv A outer s H E hr
  refine ⟨_, semS, hb' (L2.start N vs) F H ⟨ex, iI, ?_⟩ _ ?_⟩
  · rw [← hΓ i]
    unfold L2.start
    have e : vs.length = ps.length := by rw [hA.len, hl]
    rw [e]
    exact hA.holds
  · cases ho : o i with
    | ok a =>
      rw [ho] at c
      exact fun σ' F' H' g gd => c .non F' H' g gd.i (.non .nil)
    | error z =>
      rw [ho] at c
      exact c
theorem cal_stf {Γ : ι → Gam} {o : ι → Except Str Unit} (D : DefX K mg x name qual st) (S : FnScope N ps (defScope st)) (b : BindH name qual st ps) (hl : ∀ i, (Ts i).length = ps.length) (hΓ : ∀ i, (Ts i).map some ++ List.replicate (N.length - ps.length) none = Γ i)
    (hb : ∀ i f cdv A outer s H E, Room k (cxD P w K mg base qual st N f cdv A outer s H E).A → ∃ Γ' : Unit → Gam, StFs (cxD P w K mg base qual st N f cdv A outer s H E) (m i) E (Γ i) (defBody st) (o i) Γ') :
    CalX P w K mg base (k + 1) x (spG K mg m Ts o (fun _ _ => Is K .non)) := cal_of D S b (len_spG hl) (body_stf hl hΓ hb)
end
end R60

set_option Elab.async false
set_option linter.all false
set_option maxRecDepth 100000
set_option maxHeartbeats 4000000
namespace R60
open PySem PySem.Spec PyProof.Rows L2
/-! ### operators, by the data -/
def IntS (φ : Int → Prop) : Ty := ⟨fun v _ => ∃ i, v = .int i ∧ φ i, fun _ _ _ _ h => h⟩
def StrS (φ : Str → Prop) : Ty := ⟨fun v _ => ∃ i, v = .str i ∧ φ i, fun _ _ _ _ h => h⟩
section
variable {X : Cx} {m : Mu} {E : XK} {Γ : Gam} {e a b c : Expr} {P : Ty} {pos pos' p2 : Pos} {i j l : Int} {z z' : Str} {φ ψ χ : Int → Prop}
theorem e_is (h : EvE X m Γ e (Is X.K (.int i))) : EvE X m Γ e (IntS (· = i)) := h.imp fun v F p => ⟨i, DAt.i p, rfl⟩
theorem e_of (h : EvE X m Γ e (IntS (· = i))) : EvE X m Γ e (Is X.K (.int i)) := h.imp fun v F ⟨k, e1, e2⟩ => by
  subst e1 e2
  exact .int .nil
theorem e_addS (ha : EvE X m Γ a (IntS φ)) (hb : EvE X m Γ b (IntS ψ)) (h : ∀ i j, φ i → ψ j → χ (i + j)) : EvE X m Γ (.BinOp a .Add b pos) (IntS χ) :=
  e_bin op_add ha hb fun v u F H Q ex ⟨i, e1, p1⟩ ⟨j, e2, p2⟩ q => ⟨i, j, e1, e2, q _ F H (Gr.refl ex) ⟨_, rfl, h i j p1 p2⟩⟩
theorem e_subS (ha : EvE X m Γ a (IntS φ)) (hb : EvE X m Γ b (IntS ψ)) (h : ∀ i j, φ i → ψ j → χ (i - j)) : EvE X m Γ (.BinOp a .Sub b pos) (IntS χ) :=
  e_bin op_sub ha hb fun v u F H Q ex ⟨i, e1, p1⟩ ⟨j, e2, p2⟩ q => ⟨i, j, e1, e2, q _ F H (Gr.refl ex) ⟨_, rfl, h i j p1 p2⟩⟩
theorem e_mulS (ha : EvE X m Γ a (IntS φ)) (hb : EvE X m Γ b (IntS ψ)) (hl : ∀ i, φ i → -(2 ^ 64) < i ∧ i < 2 ^ 64) (h : ∀ i j, φ i → ψ j → χ (i * j)) : EvE X m Γ (.BinOp a .Mult b pos) (IntS χ) :=
  e_bin op_mul ha hb fun v u F H Q ex ⟨i, e1, p1⟩ ⟨j, e2, p2⟩ q => ⟨i, j, e1, e2, .inl (hl i p1), q _ F H (Gr.refl ex) ⟨_, rfl, h i j p1 p2⟩⟩
theorem e_add (ha : EvE X m Γ a (Is X.K (.int i))) (hb : EvE X m Γ b (Is X.K (.int j))) : EvE X m Γ (.BinOp a .Add b pos) (Is X.K (.int (i + j))) :=
  e_bin op_add ha hb fun v u F H Q ex p1 p2 q => ⟨i, j, DAt.i p1, DAt.i p2, q _ F H (Gr.refl ex) (.int .nil)⟩
theorem e_sub (ha : EvE X m Γ a (Is X.K (.int i))) (hb : EvE X m Γ b (Is X.K (.int j))) : EvE X m Γ (.BinOp a .Sub b pos) (Is X.K (.int (i - j))) :=
  e_bin op_sub ha hb fun v u F H Q ex p1 p2 q => ⟨i, j, DAt.i p1, DAt.i p2, q _ F H (Gr.refl ex) (.int .nil)⟩
theorem e_addT (ha : EvE X m Γ a (Is X.K (.str z))) (hb : EvE X m Γ b (Is X.K (.str z'))) (hl : z.length + z'.length ≤ 1000) : EvE X m Γ (.BinOp a .Add b pos) (Is X.K (.str (z ++ z'))) :=
  e_bin op_add_str ha hb fun v u F H Q ex p1 p2 q => ⟨z, z', DAt.s p1, DAt.s p2, Nat.le_trans hl (by decide), q _ F H (Gr.refl ex) (.str .nil)⟩
/-! comparisons: as values, as tests -/
theorem e_lt (ha : EvE X m Γ a (Is X.K (.int i))) (hb : EvE X m Γ b (Is X.K (.int j))) : EvE X m Γ (.Compare a [.Lt] [b] pos) (Is X.K (.bl (decide (i < j)))) :=
  e_cmp op_lt (nomark _) ha hb fun v u F H Q ex p1 p2 q => ⟨i, j, DAt.i p1, DAt.i p2, q _ F H (Gr.refl ex) (.bl .nil)⟩
theorem e_gt (ha : EvE X m Γ a (Is X.K (.int i))) (hb : EvE X m Γ b (Is X.K (.int j))) : EvE X m Γ (.Compare a [.Gt] [b] pos) (Is X.K (.bl (decide (j < i)))) :=
  e_cmp op_gt (nomark _) ha hb fun v u F H Q ex p1 p2 q => ⟨i, j, DAt.i p1, DAt.i p2, q _ F H (Gr.refl ex) (.bl .nil)⟩
theorem e_le (ha : EvE X m Γ a (Is X.K (.int i))) (hb : EvE X m Γ b (Is X.K (.int j))) : EvE X m Γ (.Compare a [.LtE] [b] pos) (Is X.K (.bl (decide (i ≤ j)))) :=
  e_cmp op_le (nomark _) ha hb fun v u F H Q ex p1 p2 q => ⟨i, j, DAt.i p1, DAt.i p2, q _ F H (Gr.refl ex) (.bl .nil)⟩
theorem e_eqi (ha : EvE X m Γ a (Is X.K (.int i))) (hb : EvE X m Γ b (Is X.K (.int j))) : EvE X m Γ (.Compare a [.Eq] [b] pos) (Is X.K (.bl (decide (i = j)))) :=
  e_cmp op_eq (nomark _) ha hb fun v u F H Q ex p1 p2 q => by
    rw [DAt.i p1, DAt.i p2]
    refine ⟨rfl, q _ F H (Gr.refl ex) ?_⟩
    have e1 : decide (V.int i = V.int j) = decide (i = j) := by simp
    rw [e1]
    exact .bl .nil
theorem e_eqs (ha : EvE X m Γ a (Is X.K (.str z))) (hb : EvE X m Γ b (Is X.K (.str z'))) : EvE X m Γ (.Compare a [.Eq] [b] pos) (Is X.K (.bl (decide (z = z')))) :=
  e_cmp op_eq (nomark _) ha hb fun v u F H Q ex p1 p2 q => by
    rw [DAt.s p1, DAt.s p2]
    refine ⟨rfl, q _ F H (Gr.refl ex) ?_⟩
    have e1 : decide (V.str z = V.str z') = decide (z = z') := by simp
    rw [e1]
    exact .bl .nil
theorem e_eqb {x y : Bool} (ha : EvE X m Γ a (Is X.K (.bl x))) (hb : EvE X m Γ b (Is X.K (.bl y))) : EvE X m Γ (.Compare a [.Eq] [b] pos) (Is X.K (.bl (decide (x = y)))) :=
  e_cmp op_eq (nomark _) ha hb fun v u F H Q ex p1 p2 q => by
    rw [DAt.b p1, DAt.b p2]
    refine ⟨by cases x <;> cases y <;> rfl, q _ F H (Gr.refl ex) ?_⟩
    have e1 : decide (V.bl x = V.bl y) = decide (x = y) := by simp
    rw [e1]
    exact .bl .nil
theorem e_neb {x y : Bool} (ha : EvE X m Γ a (Is X.K (.bl x))) (hb : EvE X m Γ b (Is X.K (.bl y))) : EvE X m Γ (.Compare a [.NotEq] [b] pos) (Is X.K (.bl (!decide (x = y)))) :=
  e_cmp op_ne (nomark _) ha hb fun v u F H Q ex p1 p2 q => by
    rw [DAt.b p1, DAt.b p2]
    refine ⟨by cases x <;> cases y <;> rfl, q _ F H (Gr.refl ex) ?_⟩
    have e1 : (!decide (V.bl x = V.bl y)) = !decide (x = y) := by simp
    rw [e1]
    exact .bl .nil
theorem e_nei (ha : EvE X m Γ a (Is X.K (.int i))) (hb : EvE X m Γ b (Is X.K (.int j))) : EvE X m Γ (.Compare a [.NotEq] [b] pos) (Is X.K (.bl (!decide (i = j)))) :=
  e_cmp op_ne (nomark _) ha hb fun v u F H Q ex p1 p2 q => by
    rw [DAt.i p1, DAt.i p2]
    refine ⟨rfl, q _ F H (Gr.refl ex) ?_⟩
    have e1 : (!decide (V.int i = V.int j)) = !decide (i = j) := by simp
    rw [e1]
    exact .bl .nil
theorem e_nes (ha : EvE X m Γ a (Is X.K (.str z))) (hb : EvE X m Γ b (Is X.K (.str z'))) : EvE X m Γ (.Compare a [.NotEq] [b] pos) (Is X.K (.bl (!decide (z = z')))) :=
  e_cmp op_ne (nomark _) ha hb fun v u F H Q ex p1 p2 q => by
    rw [DAt.s p1, DAt.s p2]
    refine ⟨rfl, q _ F H (Gr.refl ex) ?_⟩
    have e1 : (!decide (V.str z = V.str z')) = !decide (z = z') := by simp
    rw [e1]
    exact .bl .nil
/-- x is None -/
def D.isN : D → Bool
  | .non => true
  | _ => false
theorem isN_of {K : PySem.W.Frag} {F : Hp} {d : D} {v : V} (h : DAt K F d v) : decide (v = .non) = d.isN := by
  cases h <;> first | rfl | simp [D.isN]
theorem e_isN {d : D} {pn : Pos} {jn} (ha : EvE X m Γ a (Is X.K d)) : EvE X m Γ (.Compare a [.Is] [.Constant .none jn pn] pos) (Is X.K (.bl d.isN)) :=
  e_cmp op_isN (nomark _) ha e_non fun v u F H Q ex p1 p2 q => ⟨DAt.n p2, q _ F H (Gr.refl ex) (by rw [isN_of p1]; exact .bl .nil)⟩
theorem t_isN {d : D} {pn : Pos} {jn} (ha : EvE X m Γ a (Is X.K d)) : EvT X m Γ (.Compare a [.Is] [.Constant .none jn pn] pos) (Eq d.isN) :=
  t_cmp op_isN (nomark _) ha e_non fun v u F H Q ex p1 p2 q => ⟨DAt.n p2, q _ F H (Gr.refl ex) ⟨_, rfl, (isN_of p1).symm⟩⟩
theorem t_c {op : CmpOp} {k : Bool} (h : EvT X m Γ (.Compare a [op] [b] pos) (Eq k)) : EvT X m Γ (.Compare a [op] [b] pos) (Eq k) := h
theorem t_rel {op : CmpOp} {f : Int → Int → Bool} (ho : OpR X (compareOp op) (rI0 fun i j => .bl (f i j))) (hm : behindInMarks op b = false) (ha : EvE X m Γ a (Is X.K (.int i))) (hb : EvE X m Γ b (Is X.K (.int j))) : EvT X m Γ (.Compare a [op] [b] pos) (Eq (f i j)) :=
  t_cmp ho hm ha hb fun v u F H Q ex p1 p2 q => ⟨i, j, DAt.i p1, DAt.i p2, q _ F H (Gr.refl ex) ⟨_, rfl, rfl⟩⟩
theorem t_lt (ha : EvE X m Γ a (Is X.K (.int i))) (hb : EvE X m Γ b (Is X.K (.int j))) : EvT X m Γ (.Compare a [.Lt] [b] pos) (Eq (decide (i < j))) := t_rel op_lt (nomark _) ha hb
theorem t_le (ha : EvE X m Γ a (Is X.K (.int i))) (hb : EvE X m Γ b (Is X.K (.int j))) : EvT X m Γ (.Compare a [.LtE] [b] pos) (Eq (decide (i ≤ j))) := t_rel op_le (nomark _) ha hb
theorem t_gt (ha : EvE X m Γ a (Is X.K (.int i))) (hb : EvE X m Γ b (Is X.K (.int j))) : EvT X m Γ (.Compare a [.Gt] [b] pos) (Eq (decide (j < i))) := t_rel op_gt (nomark _) ha hb
theorem t_ge (ha : EvE X m Γ a (Is X.K (.int i))) (hb : EvE X m Γ b (Is X.K (.int j))) : EvT X m Γ (.Compare a [.GtE] [b] pos) (Eq (decide (j ≤ i))) := t_rel op_ge (nomark _) ha hb
/-- a test by a comparison whose answer isn't looked at -/
theorem t_any {op : CmpOp} {f : Int → Int → Bool} (ho : OpR X (compareOp op) (rI0 fun i j => .bl (f i j))) (hm : behindInMarks op b = false) (ha : EvE X m Γ a (IntS φ)) (hb : EvE X m Γ b (IntS ψ)) : EvT X m Γ (.Compare a [op] [b] pos) (fun _ => True) :=
  t_cmp ho hm ha hb fun v u F H Q ex ⟨i, e1, p1⟩ ⟨j, e2, p2⟩ q => ⟨i, j, e1, e2, q _ F H (Gr.refl ex) ⟨_, rfl, trivial⟩⟩
theorem t_anyEq (ha : EvE X m Γ a (IntS φ)) (hb : EvE X m Γ b (IntS ψ)) : EvT X m Γ (.Compare a [.Eq] [b] pos) (fun _ => True) :=
  t_cmp op_eq (nomark _) ha hb fun v u F H Q ex ⟨i, e1, p1⟩ ⟨j, e2, p2⟩ q => ⟨by rw [e1, e2] <;> rfl, q _ F H (Gr.refl ex) ⟨_, rfl, trivial⟩⟩
theorem t_eqi (ha : EvE X m Γ a (Is X.K (.int i))) (hb : EvE X m Γ b (Is X.K (.int j))) : EvT X m Γ (.Compare a [.Eq] [b] pos) (Eq (decide (i = j))) :=
  t_cmp op_eq (nomark _) ha hb fun v u F H Q ex p1 p2 q => by
    rw [DAt.i p1, DAt.i p2]
    exact ⟨rfl, q _ F H (Gr.refl ex) ⟨_, rfl, by simp⟩⟩
theorem t_nei (ha : EvE X m Γ a (Is X.K (.int i))) (hb : EvE X m Γ b (Is X.K (.int j))) : EvT X m Γ (.Compare a [.NotEq] [b] pos) (Eq (!decide (i = j))) :=
  t_cmp op_ne (nomark _) ha hb fun v u F H Q ex p1 p2 q => by
    rw [DAt.i p1, DAt.i p2]
    exact ⟨rfl, q _ F H (Gr.refl ex) ⟨_, rfl, by simp⟩⟩
theorem t_eqs (ha : EvE X m Γ a (Is X.K (.str z))) (hb : EvE X m Γ b (Is X.K (.str z'))) : EvT X m Γ (.Compare a [.Eq] [b] pos) (Eq (decide (z = z'))) :=
  t_cmp op_eq (nomark _) ha hb fun v u F H Q ex p1 p2 q => by
    rw [DAt.s p1, DAt.s p2]
    exact ⟨rfl, q _ F H (Gr.refl ex) ⟨_, rfl, by simp⟩⟩
theorem t_nes (ha : EvE X m Γ a (Is X.K (.str z))) (hb : EvE X m Γ b (Is X.K (.str z'))) : EvT X m Γ (.Compare a [.NotEq] [b] pos) (Eq (!decide (z = z'))) :=
  t_cmp op_ne (nomark _) ha hb fun v u F H Q ex p1 p2 q => by
    rw [DAt.s p1, DAt.s p2]
    exact ⟨rfl, q _ F H (Gr.refl ex) ⟨_, rfl, by simp⟩⟩
theorem t_neb {x y : Bool} (ha : EvE X m Γ a (Is X.K (.bl x))) (hb : EvE X m Γ b (Is X.K (.bl y))) : EvT X m Γ (.Compare a [.NotEq] [b] pos) (Eq (!decide (x = y))) :=
  t_cmp op_ne (nomark _) ha hb fun v u F H Q ex p1 p2 q => by
    rw [DAt.b p1, DAt.b p2]
    exact ⟨by cases x <;> cases y <;> rfl, q _ F H (Gr.refl ex) ⟨_, rfl, by simp⟩⟩
/-- a chain i ≤ j ≤ l and its like -/
theorem chain_read {op op' : CmpOp} {f g : Int → Int → Bool} {σ : L2.St} {F H : Hp} {Q : VK} (ha : EvE X m Γ a (Is X.K (.int i))) (hb : EvE X m Γ b (Is X.K (.int j))) (hc : EvE X m Γ c (Is X.K (.int l))) (gd : Good m Γ σ F H)
    (q : ∀ F' H', Gr m.U F H F' H' → m.I F' H' → Q (.bl (f i j && g j l)) H') : tChain (rI0 fun i j => .bl (f i j)) (rI0 fun i j => .bl (g i j)) (tSem X a) (tSem X b) (tSem X c) σ H Q :=
  ev_two ha hb gd fun v u F1 H1 g1 gg p1 p2 => ⟨i, j, DAt.i p1, DAt.i p2, _, rfl, by
    cases hf : f i j with
    | true =>
      rw [hf] at q
      exact hc σ F1 H1 gg _ fun w F2 H2 g2 i2 p3 => ⟨j, l, DAt.i p2, DAt.i p3, q F2 H2 (g1.trans g2) i2⟩
    | false =>
      rw [hf] at q
      exact q F1 H1 g1 gg.i⟩
theorem e_chain {op op' : CmpOp} {f g : Int → Int → Bool} (ho : OpR X (compareOp op) (rI0 fun i j => .bl (f i j))) (ho' : OpR X (compareOp op') (rI0 fun i j => .bl (g i j))) (ha : EvE X m Γ a (Is X.K (.int i))) (hb : EvE X m Γ b (Is X.K (.int j))) (hc : EvE X m Γ c (Is X.K (.int l)))
    (hm : lastMarks [op, op'] [b, c] = false := by with_unfolding_all rfl) : EvE X m Γ (.Compare a [op, op'] [b, c] pos) (Is X.K (.bl (f i j && g j l))) :=
  EvE.of (pe_chain ho ho' sem sem sem hm) fun σ F H Q gd q => chain_read (op := op) (op' := op') ha hb hc gd fun F' H' g1 i1 => q _ F' H' g1 i1 (.bl .nil)
theorem t_chain {op op' : CmpOp} {f g : Int → Int → Bool} (ho : OpR X (compareOp op) (rI0 fun i j => .bl (f i j))) (ho' : OpR X (compareOp op') (rI0 fun i j => .bl (g i j))) (ha : EvE X m Γ a (Is X.K (.int i))) (hb : EvE X m Γ b (Is X.K (.int j))) (hc : EvE X m Γ c (Is X.K (.int l)))
    (hm : lastMarks [op, op'] [b, c] = false := by with_unfolding_all rfl) : EvT X m Γ (.Compare a [op, op'] [b, c] pos) (Eq (f i j && g j l)) :=
  EvT.of (pt_chain ho ho' sem sem sem hm) fun σ F H Q gd q => chain_read (op := op) (op' := op') ha hb hc gd fun F' H' g1 i1 => ⟨_, rfl, q _ F' H' g1 i1 rfl⟩
theorem e_lele (ha : EvE X m Γ a (Is X.K (.int i))) (hb : EvE X m Γ b (Is X.K (.int j))) (hc : EvE X m Γ c (Is X.K (.int l))) (hm : lastMarks [.LtE, .LtE] [b, c] = false := by with_unfolding_all rfl) : EvE X m Γ (.Compare a [.LtE, .LtE] [b, c] pos) (Is X.K (.bl (decide (i ≤ j) && decide (j ≤ l)))) := e_chain op_le op_le ha hb hc hm
theorem t_lele (ha : EvE X m Γ a (Is X.K (.int i))) (hb : EvE X m Γ b (Is X.K (.int j))) (hc : EvE X m Γ c (Is X.K (.int l))) (hm : lastMarks [.LtE, .LtE] [b, c] = false := by with_unfolding_all rfl) : EvT X m Γ (.Compare a [.LtE, .LtE] [b, c] pos) (Eq (decide (i ≤ j) && decide (j ≤ l))) := t_chain op_le op_le ha hb hc hm
theorem t_lelt (ha : EvE X m Γ a (Is X.K (.int i))) (hb : EvE X m Γ b (Is X.K (.int j))) (hc : EvE X m Γ c (Is X.K (.int l))) (hm : lastMarks [.LtE, .Lt] [b, c] = false := by with_unfolding_all rfl) : EvT X m Γ (.Compare a [.LtE, .Lt] [b, c] pos) (Eq (decide (i ≤ j) && decide (j < l))) := t_chain op_le op_lt ha hb hc hm
/-- 'a' ≤ s ≤ 'z' -/
theorem e_leleS {z1 z2 z3 : Str} (ha : EvE X m Γ a (Is X.K (.str z1))) (hb : EvE X m Γ b (Is X.K (.str z2))) (hc : EvE X m Γ c (Is X.K (.str z3))) (hm : lastMarks [.LtE, .LtE] [b, c] = false := by with_unfolding_all rfl) :
    EvE X m Γ (.Compare a [.LtE, .LtE] [b, c] pos) (Is X.K (.bl (!decide (z2.cps.toList < z1.cps.toList) && !decide (z3.cps.toList < z2.cps.toList)))) :=
  EvE.of (pe_chain op_le_str op_le_str sem sem sem hm) fun σ F H Q gd q => ev_two ha hb gd fun v u F1 H1 g1 gg p1 p2 => ⟨z1, z2, DAt.s p1, DAt.s p2, _, rfl, by
    by_cases hf : z2.cps.toList < z1.cps.toList
    · simp only [hf, decide_true, Bool.not_true, Bool.false_and] at q
      simp only [hf, decide_true, Bool.not_true, Bool.false_eq_true, if_false]
      exact q _ F1 H1 g1 gg.i (.bl .nil)
    · simp only [hf, decide_false, Bool.not_false, Bool.true_and] at q
      simp only [hf, decide_false, Bool.not_false, if_true]
      exact hc σ F1 H1 gg _ fun w F2 H2 g2 i2 p3 => ⟨z2, z3, DAt.s p2, DAt.s p3, q _ F2 H2 (g1.trans g2) i2 (.bl .nil)⟩⟩
/-! subscripts -/
theorem e_ix {r : R2} {A B : Ty} (hr : IxR X r) (ha : EvE X m Γ a A) (hb : EvE X m Γ b B) (h : ∀ v u F H (Q : VK), Ex F H → A.p v F → B.p u F → Fin P F H Q → r v u H Q) (hs : PlainIx b := by exact fun _ _ => rfl) : EvE X m Γ (.Subscript a b pos) P :=
  EvE.of (pe_ix hr sem sem hs) fun σ F H Q g q => ev_two ha hb g fun v u F1 H1 g1 gg p1 p2 => h v u F1 H1 Q gg.ex p1 p2 (fin_of gg g1 q)
theorem das_atI {K : PySem.W.Frag} {F : Hp} {ds : List D} {xs : List V} {i : Int} {d : D} (h : DAs K F ds xs) (e : atI ds i = some d) : ∃ v, atI xs i = some v ∧ DAt K F d v := by
  unfold atI at e ⊢
  rw [h.length] at e
  cases hi : ixN xs.length i with
  | none => rw [hi] at e; cases e
  | some j =>
    rw [hi] at e
    exact h.get (i := j) (d := d) e
theorem e_ixL {ds : List D} {d : D} (ha : EvE X m Γ a (Is X.K (.lst ds))) (hb : EvE X m Γ b (Is X.K (.int i))) (hi : atI ds i = some d) (hs : PlainIx b := by exact fun _ _ => rfl) : EvE X m Γ (.Subscript a b pos) (Is X.K d) :=
  e_ix ix_list ha hb (fun v u F H Q ex p1 p2 q => by
    obtain ⟨a, xs, e1, h2, h3⟩ := DAt.l p1
    obtain ⟨w, e2, h4⟩ := das_atI h3 hi
    exact ⟨a, xs, i, w, e1, DAt.i p2, SqL.of (ex _ _ h2), e2, q _ F H (Gr.refl ex) h4⟩) hs
theorem e_ixT {ds : List D} {d : D} (ha : EvE X m Γ a (Is X.K (.tup ds))) (hb : EvE X m Γ b (Is X.K (.int i))) (hi : atI ds i = some d) (hs : PlainIx b := by exact fun _ _ => rfl) : EvE X m Γ (.Subscript a b pos) (Is X.K d) :=
  e_ix ix_tup ha hb (fun v u F H Q ex p1 p2 q => by
    obtain ⟨a, xs, e1, h2, h3⟩ := DAt.t p1
    obtain ⟨w, e2, h4⟩ := das_atI h3 hi
    exact ⟨a, xs, i, w, e1, DAt.i p2, ex_sqt ex h2, e2, q _ F H (Gr.refl ex) h4⟩) hs
theorem e_ixS {k : Nat} (ha : EvE X m Γ a (Is X.K (.str z))) (hb : EvE X m Γ b (Is X.K (.int i))) (hl : z.length ≤ 1000) (hi : atI z.cps.toList i = some k) (hs : PlainIx b := by exact fun _ _ => rfl) : EvE X m Γ (.Subscript a b pos) (Is X.K (.str ⟨#[k]⟩)) :=
  e_ix ix_str ha hb (fun v u F H Q ex p1 p2 q => ⟨z, i, k, DAt.s p1, DAt.i p2, Nat.le_trans hl (by decide), hi, q _ F H (Gr.refl ex) (.str .nil)⟩) hs
/-! slices -/
def cutD (ds : List D) (lo hi : Option Int) : List D := (ds.drop (HT.sIx ds.length 0 lo)).take (HT.sIx ds.length ds.length hi - HT.sIx ds.length 0 lo)
theorem das_cut {K : PySem.W.Frag} {F : Hp} {ds : List D} {xs : List V} {lo hi : Option Int} (h : DAs K F ds xs) : DAs K F (cutD ds lo hi) (cutV xs lo hi) := by
  unfold cutD cutV
  rw [h.length]
  exact (h.drop _).take _
/-- a slice's bound: left out, or a number -/
def EvO (X : Cx) (m : Mu) (Γ : Gam) (o : Option Expr) (k : Option Int) : Prop := match o, k with
  | none, none => True
  | some e, some i => EvE X m Γ e (Is X.K (.int i))
  | _, _ => False
theorem evo_none : EvO X m Γ none none := trivial
theorem evo_some (h : EvE X m Γ e (Is X.K (.int i))) : EvO X m Γ (some e) (some i) := h
theorem evo_pe {o : Option Expr} {k : Option Int} (h : EvO X m Γ o k) : ∃ t, PO X o t ∧ ∀ σ F H, Good m Γ σ F H → ∀ Q : Option Int → Hp → Prop, (∀ F' H', Gr m.U F H F' H' → m.I F' H' → Q k H') → t σ H Q := by
  cases o with
  | none =>
    cases k with
    | none => exact ⟨_, po_none, fun σ F H g Q q => q F H (Gr.refl g.ex) g.i⟩
    | some _ => exact h.elim
  | some e =>
    cases k with
    | none => exact h.elim
    | some i => exact ⟨_, po_some sem, fun σ F H g Q q => h σ F H g _ fun v F1 H1 g1 i1 p => ⟨i, DAt.i p, q F1 H1 g1 i1⟩⟩
theorem e_sl {r : V → Option Int → Option Int → Hp → VK → Prop} {A : Ty} {lo hi : Option Expr} {kl kh : Option Int} (hr : SlR X r) (ha : EvE X m Γ a A) (hlo : EvO X m Γ lo kl) (hhi : EvO X m Γ hi kh) (h : ∀ v F H (Q : VK), Ex F H → A.p v F → Fin P F H Q → r v kl kh H Q) :
    EvE X m Γ (.Subscript a (.Slice lo hi none p2) pos) P := by
  obtain ⟨tl, P1, r1⟩ := evo_pe hlo
  obtain ⟨th, P2, r2⟩ := evo_pe hhi
  exact EvE.of (pe_slice hr sem P1 P2) fun σ F H Q g q => ha σ F H g _ fun v F1 H1 g1 i1 p1 => r1 σ F1 H1 (g.next g1 i1) _ fun F2 H2 g2 i2 => r2 σ F2 H2 ((g.next g1 i1).next g2 i2) _ fun F3 H3 g3 i3 =>
    h v F3 H3 Q g3.fh (A.mono v F1 F3 (g2.ff.trans g3.ff) p1) (fin_of (((g.next g1 i1).next g2 i2).next g3 i3) ((g1.trans g2).trans g3) q)
theorem e_slL {ds : List D} {lo hi : Option Expr} {kl kh : Option Int} (ha : EvE X m Γ a (Is X.K (.lst ds))) (hlo : EvO X m Γ lo kl) (hhi : EvO X m Γ hi kh) : EvE X m Γ (.Subscript a (.Slice lo hi none p2) pos) (Is X.K (.lst (cutD ds kl kh))) :=
  e_sl sl_list ha hlo hhi fun v F H Q ex p q => by
    obtain ⟨a, xs, e1, h2, h3⟩ := DAt.l p
    refine ⟨a, xs, e1, SqL.of (ex _ _ h2), fun p hp => ?_⟩
    have gn : Gr0 F H (upd F p (.lst (cutV xs kl kh))) (upd H p (.lst (cutV xs kl kh))) := Gr.new ex hp
    exact q _ _ _ gn (.lst upd_same ((das_cut h3).mono gn.ff) .nil)
theorem e_slT {ds : List D} {lo hi : Option Expr} {kl kh : Option Int} (ha : EvE X m Γ a (Is X.K (.tup ds))) (hlo : EvO X m Γ lo kl) (hhi : EvO X m Γ hi kh) : EvE X m Γ (.Subscript a (.Slice lo hi none p2) pos) (Is X.K (.tup (cutD ds kl kh))) :=
  e_sl sl_tupA ha hlo hhi fun v F H Q ex p q => by
    obtain ⟨a, xs, e1, h2, h3⟩ := DAt.t p
    refine ⟨a, xs, e1, ex_sqt ex h2, fun hw => ?_, fun hw p hp => ?_⟩
    · have e : cutD ds kl kh = ds := by
        unfold cutD
        rw [h3.length, hw.1, hw.2]
        simp [← h3.length]
      rw [e] at q
      exact q _ F H (Gr.refl ex) (.tup h2 h3 .nil)
    · have gn : Gr0 F H (upd F p (.tup (cutV xs kl kh))) (upd H p (.tup (cutV xs kl kh))) := Gr.new ex hp
      exact q _ _ _ gn (.tup (SqT.of upd_same) ((das_cut h3).mono gn.ff) .nil)
theorem e_slS {lo hi : Option Expr} {kl kh : Option Int} (ha : EvE X m Γ a (Is X.K (.str z))) (hlo : EvO X m Γ lo kl) (hhi : EvO X m Γ hi kh) (hl : z.length ≤ 1000) : EvE X m Γ (.Subscript a (.Slice lo hi none p2) pos) (Is X.K (.str (cutS z kl kh))) :=
  e_sl sl_str ha hlo hhi fun v F H Q ex p q => ⟨z, DAt.s p, Nat.le_trans hl (by decide), q _ F H (Gr.refl ex) (.str .nil)⟩
/-! lists and tuples joined -/
theorem e_cat {ds es : List D} (ha : EvE X m Γ a (Is X.K (.lst ds))) (hb : EvE X m Γ b (Is X.K (.lst es))) (hl : ds.length + es.length ≤ 100000) : EvE X m Γ (.BinOp a .Add b pos) (Is X.K (.lst (ds ++ es))) :=
  e_bin op_cat ha hb fun v u F H Q ex p1 p2 q => by
    obtain ⟨a, xs, e1, h2, h3⟩ := DAt.l p1
    obtain ⟨b, ys, e2, h4, h5⟩ := DAt.l p2
    refine ⟨a, b, xs, ys, e1, e2, ex _ _ h2, ex _ _ h4, by rw [← h3.length, ← h5.length]; exact Nat.le_trans hl (by decide), fun p hp => ?_⟩
    have gn : Gr0 F H (upd F p (.lst (xs ++ ys))) (upd H p (.lst (xs ++ ys))) := Gr.new ex hp
    exact q _ _ _ gn (.lst upd_same ((h3.append h5).mono gn.ff) .nil)
theorem e_catT {ds es : List D} (ha : EvE X m Γ a (Is X.K (.tup ds))) (hb : EvE X m Γ b (Is X.K (.tup es))) (hl : ds.length + es.length ≤ 1000) : EvE X m Γ (.BinOp a .Add b pos) (Is X.K (.tup (ds ++ es))) :=
  e_bin op_catA ha hb fun v u F H Q ex p1 p2 q => by
    obtain ⟨a, xs, e1, h2, h3⟩ := DAt.t p1
    obtain ⟨b, ys, e2, h4, h5⟩ := DAt.t p2
    refine ⟨a, b, xs, ys, e1, e2, ex_sqt ex h2, ex_sqt ex h4, by rw [← h3.length, ← h5.length]; exact Nat.le_trans hl (by decide), fun hx => ?_, fun hx hy => ?_, fun hx hy p hp => ?_⟩
    · subst hx
      have e : ds = [] := List.length_eq_zero_iff.mp h3.length
      subst e
      exact q _ F H (Gr.refl ex) (.tup h4 h5 .nil)
    · subst hy
      have e : es = [] := List.length_eq_zero_iff.mp h5.length
      subst e
      rw [List.append_nil] at q
      exact q _ F H (Gr.refl ex) (.tup h2 h3 .nil)
    · have gn : Gr0 F H (upd F p (.tup (xs ++ ys))) (upd H p (.tup (xs ++ ys))) := Gr.new ex hp
      exact q _ _ _ gn (.tup (SqT.of upd_same) ((h3.append h5).mono gn.ff) .nil)
/-! built-ins -/
theorem e_blt {x : Str} {id : String} {r : List V → Hp → VK → Prop} {es : List Expr} {Ps : List Ty} {p : Pos} (hc : CallR X (.builtin id) r) (hm : X.mg x = none) (ha : EvA X m Γ (e :: es) Ps) (h : ∀ vs F H (Q : VK), Ex F H → HoldsA Ps vs F → Fin P F H Q → r vs H Q) (hv : bootBuiltins x = some (.builtin id) := by decide +kernel) (hg : Gl X x := by rfl)
    (hn : x ≠ "__name__" := by decide) (hdb : (x == ("__debug__" : Str)) = false := by decide) (he : starEach (e :: es) X.env = (false, eval e X.env) :: starEach es X.env := by rfl) (hpl : (backTo pos (starEach es X.env)).any (·.1) = false := by rfl) :
    EvE X m Γ (.Call (.Name x p) (e :: es) [] pos) P :=
  EvE.of (pe_callB hc hg hm hv semA hn hdb he hpl) fun σ F H Q g q => ha σ F H g _ fun vs F1 H1 g1 i1 p1 => h vs F1 H1 Q g1.fh p1 (fin_of (g.next g1 i1) g1 q)
theorem e_bty {x : Str} {T : String} {r : List V → Hp → VK → Prop} {es : List Expr} {Ps : List Ty} {p : Pos} (hc : CallR X (.type T) r) (hm : X.mg x = none) (ha : EvA X m Γ (e :: es) Ps) (h : ∀ vs F H (Q : VK), Ex F H → HoldsA Ps vs F → Fin P F H Q → r vs H Q) (hv : bootBuiltins x = some (.type T) := by decide +kernel) (hg : Gl X x := by rfl)
    (hn : x ≠ "__name__" := by decide) (hdb : (x == ("__debug__" : Str)) = false := by decide) (he : starEach (e :: es) X.env = (false, eval e X.env) :: starEach es X.env := by rfl) (hpl : (backTo pos (starEach es X.env)).any (·.1) = false := by rfl) :
    EvE X m Γ (.Call (.Name x p) (e :: es) [] pos) P :=
  EvE.of (pe_callTy hc hg hm hv semA hn hdb he hpl) fun σ F H Q g q => ha σ F H g _ fun vs F1 H1 g1 i1 p1 => h vs F1 H1 Q g1.fh p1 (fin_of (g.next g1 i1) g1 q)
theorem one_of {Ps : Ty} {vs : List V} {F : Hp} (h : HoldsA [Ps] vs F) : ∃ v, vs = [v] ∧ Ps.p v F := by
  match vs, h with
  | [v], ⟨p, _⟩ => exact ⟨v, rfl, p⟩
theorem two_of {P1 P2 : Ty} {vs : List V} {F : Hp} (h : HoldsA [P1, P2] vs F) : ∃ v u, vs = [v, u] ∧ P1.p v F ∧ P2.p u F := by
  match vs, h with
  | [v, u], ⟨p, q, _⟩ => exact ⟨v, u, rfl, p, q⟩
theorem e_lenL {ds : List D} {p : Pos} (hm : X.mg "len" = none) (ha : EvE X m Γ e (Is X.K (.lst ds))) (hg : Gl X "len" := by rfl) (hs : starEach [e] X.env = [(false, eval e X.env)] := by rfl) (hpl : (backTo pos (starEach [] X.env)).any (·.1) = false := by rfl) : EvE X m Γ (.Call (.Name "len" p) [e] [] pos) (Is X.K (.int ds.length)) :=
  e_blt call_len hm (a_cons ha a_nil hs) (fun vs F H Q ex h q => by
    obtain ⟨v, rfl, p1⟩ := one_of h
    obtain ⟨a, xs, rfl, h2, h3⟩ := DAt.l p1
    exact ⟨_, xs.length, rfl, .inl ⟨xs, SqL.of (ex _ _ h2), rfl⟩, q _ F H (Gr.refl ex) (by rw [← h3.length]; exact .int .nil)⟩) PySem.boot_len hg (by decide) (by decide) hs hpl
theorem e_lenT {ds : List D} {p : Pos} (hm : X.mg "len" = none) (ha : EvE X m Γ e (Is X.K (.tup ds))) (hg : Gl X "len" := by rfl) (hs : starEach [e] X.env = [(false, eval e X.env)] := by rfl) (hpl : (backTo pos (starEach [] X.env)).any (·.1) = false := by rfl) : EvE X m Γ (.Call (.Name "len" p) [e] [] pos) (Is X.K (.int ds.length)) :=
  e_blt call_len hm (a_cons ha a_nil hs) (fun vs F H Q ex h q => by
    obtain ⟨v, rfl, p1⟩ := one_of h
    obtain ⟨a, xs, rfl, h2, h3⟩ := DAt.t p1
    exact ⟨_, xs.length, rfl, .inr ⟨xs, ex_sqt ex h2, rfl⟩, q _ F H (Gr.refl ex) (by rw [← h3.length]; exact .int .nil)⟩) PySem.boot_len hg (by decide) (by decide) hs hpl
theorem e_lenS {p : Pos} (hm : X.mg "len" = none) (hl : z.length ≤ 1000) (ha : EvE X m Γ e (Is X.K (.str z))) (hg : Gl X "len" := by rfl) (hs : starEach [e] X.env = [(false, eval e X.env)] := by rfl) (hpl : (backTo pos (starEach [] X.env)).any (·.1) = false := by rfl) : EvE X m Γ (.Call (.Name "len" p) [e] [] pos) (Is X.K (.int z.length)) :=
  e_blt call_len hm (a_cons ha a_nil hs) (fun vs F H Q ex h q => by
    obtain ⟨v, rfl, p1⟩ := one_of h
    rw [DAt.s p1]
    exact ⟨.str z, z.length, rfl, ⟨Nat.le_trans hl (by decide), rfl⟩, q _ F H (Gr.refl ex) (.int .nil)⟩) PySem.boot_len hg (by decide) (by decide) hs hpl
theorem e_list {ds : List D} {p : Pos} (hm : X.mg "list" = none) (ha : EvE X m Γ e (Is X.K (.lst ds))) (hg : Gl X "list" := by rfl) (hs : starEach [e] X.env = [(false, eval e X.env)] := by rfl) (hpl : (backTo pos (starEach [] X.env)).any (·.1) = false := by rfl) : EvE X m Γ (.Call (.Name "list" p) [e] [] pos) (Is X.K (.lst ds)) :=
  e_bty call_list_of hm (a_cons ha a_nil hs) (fun vs F H Q ex h q => by
    obtain ⟨v, rfl, p1⟩ := one_of h
    obtain ⟨a, xs, rfl, h2, h3⟩ := DAt.l p1
    refine ⟨a, xs, rfl, .inl (SqL.of (ex _ _ h2)), fun p hp => ?_⟩
    have gn : Gr0 F H (upd F p (.lst xs)) (upd H p (.lst xs)) := Gr.new ex hp
    exact q _ _ _ gn (.lst upd_same (h3.mono gn.ff) .nil)) (by decide +kernel) hg (by decide) (by decide) hs hpl
theorem e_all {bs : List Bool} {p : Pos} (hc : X.calm = true) (hm : X.mg "all" = none) (ha : EvE X m Γ e (Is X.K (.lst (bs.map D.bl)))) (hg : Gl X "all" := by rfl) (hs : starEach [e] X.env = [(false, eval e X.env)] := by rfl) (hpl : (backTo pos (starEach [] X.env)).any (·.1) = false := by rfl) : EvE X m Γ (.Call (.Name "all" p) [e] [] pos) (Is X.K (.bl (bs.all id))) :=
  e_blt (cr_all hc) hm (a_cons ha a_nil hs) (fun vs F H Q ex h q => by
    obtain ⟨v, rfl, p1⟩ := one_of h
    obtain ⟨a, xs, rfl, h2, h3⟩ := DAt.l p1
    rw [h3.isBls] at h2
    exact ⟨a, bs, rfl, SqL.of (ex _ _ h2), q _ F H (Gr.refl ex) (.bl .nil)⟩) (by decide +kernel) hg (by decide) (by decide) hs hpl
theorem kb_NoneType_bool : kitB "NoneType" "bool" = some false := by decide +kernel
theorem kb_NoneType_int : kitB "NoneType" "int" = some false := by decide +kernel
theorem kb_NoneType_str : kitB "NoneType" "str" = some false := by decide +kernel
theorem kb_NoneType_list : kitB "NoneType" "list" = some false := by decide +kernel
theorem kb_NoneType_tuple : kitB "NoneType" "tuple" = some false := by decide +kernel
theorem kb_bool_bool : kitB "bool" "bool" = some true := by decide +kernel
theorem kb_bool_int : kitB "bool" "int" = some true := by decide +kernel
theorem kb_bool_str : kitB "bool" "str" = some false := by decide +kernel
theorem kb_bool_list : kitB "bool" "list" = some false := by decide +kernel
theorem kb_bool_tuple : kitB "bool" "tuple" = some false := by decide +kernel
theorem kb_int_bool : kitB "int" "bool" = some false := by decide +kernel
theorem kb_int_int : kitB "int" "int" = some true := by decide +kernel
theorem kb_int_str : kitB "int" "str" = some false := by decide +kernel
theorem kb_int_list : kitB "int" "list" = some false := by decide +kernel
theorem kb_int_tuple : kitB "int" "tuple" = some false := by decide +kernel
theorem kb_str_bool : kitB "str" "bool" = some false := by decide +kernel
theorem kb_str_int : kitB "str" "int" = some false := by decide +kernel
theorem kb_str_str : kitB "str" "str" = some true := by decide +kernel
theorem kb_str_list : kitB "str" "list" = some false := by decide +kernel
theorem kb_str_tuple : kitB "str" "tuple" = some false := by decide +kernel
theorem kb_list_bool : kitB "list" "bool" = some false := by decide +kernel
theorem kb_list_int : kitB "list" "int" = some false := by decide +kernel
theorem kb_list_str : kitB "list" "str" = some false := by decide +kernel
theorem kb_list_list : kitB "list" "list" = some true := by decide +kernel
theorem kb_list_tuple : kitB "list" "tuple" = some false := by decide +kernel
theorem kb_tuple_bool : kitB "tuple" "bool" = some false := by decide +kernel
theorem kb_tuple_int : kitB "tuple" "int" = some false := by decide +kernel
theorem kb_tuple_str : kitB "tuple" "str" = some false := by decide +kernel
theorem kb_tuple_list : kitB "tuple" "list" = some false := by decide +kernel
theorem kb_tuple_tuple : kitB "tuple" "tuple" = some true := by decide +kernel
/-- the type of data -/
def tyD : D → String
  | .non => "NoneType" | .bl _ => "bool" | .int _ => "int" | .str _ => "str" | .lst _ => "list" | .tup _ => "tuple"
theorem ty_of {K : PySem.W.Frag} {F H : Hp} {d : D} {v : V} (ex : Ex F H) (h : DAt K F d v) : TyX K H v (.type (tyD d)) := by
  cases h with
  | non _ => exact .base (by constructor)
  | bl _ => exact .base (by constructor)
  | int _ => exact .base (by constructor)
  | str _ => exact .base (by constructor)
  | lst h _ _ => exact .base (by constructor; exact ex _ _ h)
  | tup h _ _ =>
    rcases h with (h | ⟨o, h⟩) | h
    · exact .base (by constructor; exact ex _ _ h)
    · exact .fTuple (ex _ _ h)
    · obtain ⟨o, its, n, h1, h2, _⟩ := h
      exact .kTuple h1 h2
/-- isinstance(x, T), T a built-in class -/
theorem e_isi {x : Str} {n : String} {d : D} {r : Bool} {p pT : Pos} (hm : X.mg "isinstance" = none) (hmT : X.mg x = none) (ha : EvE X m Γ a (Is X.K d)) (hk : kitB (tyD d) n = some r) (hvT : bootBuiltins x = some (.type n) := by decide +kernel) (hg : Gl X "isinstance" := by rfl) (hgT : Gl X x := by rfl) (hnT : x ≠ "__name__" := by decide) (hdT : (x == ("__debug__" : Str)) = false := by decide)
    (hs : starEach [a, .Name x pT] X.env = (false, eval a X.env) :: starEach [.Name x pT] X.env := by rfl) (hs2 : starEach [.Name x pT] X.env = [(false, eval (.Name x pT) X.env)] := by rfl) (hpl : (backTo pos (starEach [.Name x pT] X.env)).any (·.1) = false := by rfl) :
    EvE X m Γ (.Call (.Name "isinstance" p) [a, .Name x pT] [] pos) (Is X.K (.bl r)) := by
  have hT : EvE X m Γ (.Name x pT) (Vl (.ty n)) := EvE.of (pe_bltn (v := .ty n) hgT hmT hvT rfl hnT hdT) fun σ F H Q g q => q _ F H (Gr.refl g.ex) g.i rfl
  exact e_blt call_isi hm (a_cons ha (a_cons hT a_nil hs2) hs) (fun vs F H Q ex h q => by
    obtain ⟨v, u, rfl, p1, p2⟩ := two_of h
    obtain rfl : u = .ty n := p2
    exact ⟨v, .ty n, _, _, r, rfl, .ty n, ty_of ex p1, kit_ty hk, q _ F H (Gr.refl ex) (.bl .nil)⟩) PyProof.Rows.boot_isinstance hg (by decide) (by decide) hs hpl
/-- isinstance(x, (T1, T2)) -/
theorem e_isi2 {x y : Str} {n n' : String} {d : D} {r r' : Bool} {p pT pT' pp : Pos} {kk} (hm : X.mg "isinstance" = none) (hmT : X.mg x = none) (hmT' : X.mg y = none) (ha : EvE X m Γ a (Is X.K d)) (hk : kitB (tyD d) n = some r) (hk' : kitB (tyD d) n' = some r') (hvT : bootBuiltins x = some (.type n) := by decide +kernel) (hvT' : bootBuiltins y = some (.type n') := by decide +kernel)
    (hg : Gl X "isinstance" := by rfl) (hgT : Gl X x := by rfl) (hnT : x ≠ "__name__" := by decide) (hdT : (x == ("__debug__" : Str)) = false := by decide) (hgT' : Gl X y := by rfl) (hnT' : y ≠ "__name__" := by decide) (hdT' : (y == ("__debug__" : Str)) = false := by decide)
    (hs : starEach [a, .Tuple [.Name x pT, .Name y pT'] kk pp] X.env = (false, eval a X.env) :: starEach [.Tuple [.Name x pT, .Name y pT'] kk pp] X.env := by rfl) (hs2 : starEach [.Tuple [.Name x pT, .Name y pT'] kk pp] X.env = [(false, eval (.Tuple [.Name x pT, .Name y pT'] kk pp) X.env)] := by rfl)
    (hs3 : starEach [.Name x pT, .Name y pT'] X.env = (false, eval (.Name x pT) X.env) :: starEach [.Name y pT'] X.env := by rfl) (hs4 : starEach [.Name y pT'] X.env = [(false, eval (.Name y pT') X.env)] := by rfl)
    (hpl : (backTo pos (starEach [.Tuple [.Name x pT, .Name y pT'] kk pp] X.env)).any (·.1) = false := by rfl) :
    EvE X m Γ (.Call (.Name "isinstance" p) [a, .Tuple [.Name x pT, .Name y pT'] kk pp] [] pos) (Is X.K (.bl (r || r'))) := by
  have hT : EvE X m Γ (.Name x pT) (Vl (.ty n)) := EvE.of (pe_bltn (v := .ty n) hgT hmT hvT rfl hnT hdT) fun σ F H Q g q => q _ F H (Gr.refl g.ex) g.i rfl
  have hT' : EvE X m Γ (.Name y pT') (Vl (.ty n')) := EvE.of (pe_bltn (v := .ty n') hgT' hmT' hvT' rfl hnT' hdT') fun σ F H Q g q => q _ F H (Gr.refl g.ex) g.i rfl
  have hU : EvE X m Γ (.Tuple [.Name x pT, .Name y pT'] kk pp) ⟨fun v F => ∃ tp, v = .ref tp ∧ F tp = some (.tup [.ty n, .ty n']), fun v F F' e ⟨tp, h1, h2⟩ => ⟨tp, h1, e _ _ h2⟩⟩ :=
    e_tup (a_cons hT (a_cons hT' a_nil hs4) hs3) (by show 2 ≤ sizeLine; decide) fun vs F p h e => by
      obtain ⟨v, u, rfl, p1, p2⟩ := two_of h
      obtain rfl : v = .ty n := p1
      obtain rfl : u = .ty n' := p2
      exact ⟨p, rfl, e⟩
  exact e_blt call_isiT hm (a_cons ha (a_cons hU a_nil hs2) hs) (fun vs F H Q ex h q => by
    obtain ⟨v, u, rfl, p1, tp, rfl, p2⟩ := two_of h
    refine ⟨v, tp, _, _, [.type n, .type n'], r || r', rfl, ex _ _ p2, .cons (.ty n) (.cons (.ty n') .nil), ty_of ex p1, ?_, q _ F H (Gr.refl ex) (.bl .nil)⟩
    refine kitAny_cons (b := r) (kit_ty hk) (fun e => ?_) (fun e => by rw [e] <;> rfl)
    subst e
    refine kitAny_cons (b := r') (kit_ty hk') (fun e => ?_) (fun e => by rw [e] <;> rfl)
    subst e
    rfl) PyProof.Rows.boot_isinstance hg (by decide) (by decide) hs hpl
end
end R60

set_option Elab.async false
set_option linter.all false
set_option maxRecDepth 100000
set_option maxHeartbeats 4000000
namespace R60
open PySem PySem.Spec PyProof.Rows L2
section
variable {X : Cx} {m : Mu} {E : XK} {Γ : Gam} {e c elt tg iter : Expr} {P : Ty} {pos pos' : Pos} {α β : Type} {ifs : List Expr} {scope : Scope} {own : List (Str × Nat)} {tt : TT}
/-! the items of a list, by place -/
theorem at_nat {ds : List D} {d : D} (j : Nat) (h : ds[j]? = some d) : atI ds (j : Int) = some d := atI_nat h
theorem at_0 {a : D} {r : List D} : atI (a :: r) 0 = some a := atI_nat (j := 0) rfl
theorem at_1 {a b : D} {r : List D} : atI (a :: b :: r) 1 = some b := atI_nat (j := 1) rfl
theorem at_2 {a b c : D} {r : List D} : atI (a :: b :: c :: r) 2 = some c := atI_nat (j := 2) rfl
theorem at_3 {a b c d : D} {r : List D} : atI (a :: b :: c :: d :: r) 3 = some d := atI_nat (j := 3) rfl
theorem cut_1 {a : D} {r : List D} : cutD (a :: r) (some 1) none = r := by
  unfold cutD
  have h1 : HT.sIx (a :: r).length 0 (some 1) = 1 := by
    rw [show (1 : Int) = ((1 : Nat) : Int) from rfl, HT.sIx_nat]
    simp
  rw [h1]
  simp [HT.sIx]
theorem cut_2 {a b : D} {r : List D} : cutD (a :: b :: r) (some 2) none = r := by
  unfold cutD
  have h1 : HT.sIx (a :: b :: r).length 0 (some 2) = 2 := by
    rw [show (2 : Int) = ((2 : Nat) : Int) from rfl, HT.sIx_nat]
    simp
  rw [h1]
  simp [HT.sIx]
theorem cut_to {ds : List D} {n : Nat} : cutD ds none (some (n : Int)) = ds.take n := by
  unfold cutD
  have h1 : HT.sIx ds.length ds.length (some (n : Int)) = min n ds.length := by rw [HT.sIx_nat]
  rw [h1]
  simp [HT.sIx, List.take_eq_take_iff]
theorem cut_from {ds : List D} {n : Nat} : cutD ds (some (n : Int)) none = ds.drop n := by
  unfold cutD
  have h1 : HT.sIx ds.length 0 (some (n : Int)) = min n ds.length := by rw [HT.sIx_nat]
  rw [h1]
  simp only [HT.sIx]
  rw [List.take_of_length_le (by rw [List.length_drop]; omega)]
  by_cases h : n ≤ ds.length
  · rw [Nat.min_eq_left h]
  · rw [Nat.min_eq_right (by omega), List.drop_of_length_le (Nat.le_refl _), List.drop_of_length_le (by omega)]
/-! lists of data, item by item -/
theorem e_ls {xs : List α} {f : α → D} (h : EvE X m Γ e (Is X.K (.lst (xs.map f)))) : EvE X m Γ e (LsT (xs.map fun x => Is X.K (f x))) := h.imp fun v F p => by
  have := is_lst p
  rw [List.map_map] at this
  exact this
theorem e_ts {xs : List α} {f : α → D} (h : EvE X m Γ e (Is X.K (.tup (xs.map f)))) : EvE X m Γ e (TuT X.K (xs.map fun x => Is X.K (f x))) := h.imp fun v F p => by
  have := is_tut p
  rw [List.map_map] at this
  exact this
theorem ls_e {K : PySem.W.Frag} {xs : List α} {f : α → D} {v : V} {F : Hp} (h : (LsT (xs.map fun x => Is K (f x))).p v F) : (Is K (.lst (xs.map f))).p v F := lst_is (by
  rw [List.map_map]
  exact h)
theorem tgY {xs : List α} {enc : α → Ty} {i : Nat} {x : α} {Γ' : Gam} {js : List Nat} (hx : xs[i]? = some x) (h : TgT X m tg (enc x) Γ Γ' js) : TgT X m tg (YL xs enc i) Γ Γ' js := by
  rw [yl_at hx]
  exact h
/-- a comprehension over data, by data -/
theorem e_lcIf {xs : List α} {Y : Nat → Ty} (Γ1 : α → Gam) (js : List Nat) (bx : α → Bool) (g : α → D) (hcl : X.calm = true) (hN : X.N.Nodup) (hi : PIx X m Γ tg iter xs.length Y) (hn : xs.length ≤ 100000) (ok : BlkOk X.N X.env.scope scope own)
    (ht : ∀ i x, xs[i]? = some x → ∀ s0 H0 C cl fp, TgT (blkX X scope s0 H0 C cl fp) m tg (Y i) (lost Γ (own.map (·.2))) (Γ1 x) js)
    (hc : ∀ x ∈ xs, ∀ s0 H0 C cl fp, EvT (blkX X scope s0 H0 C cl fp) m (Γ1 x) c (Eq (bx x))) (he : ∀ x ∈ xs, bx x = true → ∀ s0 H0 C cl fp, EvE (blkX X scope s0 H0 C cl fp) m (Γ1 x) elt (Is X.K (g x))) (hj : ∀ j ∈ js, j ∈ own.map (·.2) := by decide) (hs : ∀ x, foldedSetIterable iter X.env x = pure x := by intro _; rfl) :
    EvE X m Γ (.ListComp elt [⟨tg, iter, [c], 0⟩] scope pos) (Is X.K (.lst ((xs.filter bx).map g))) :=
  (e_lc Γ1 js bx (fun x => Is X.K (g x)) hcl hN hi hn ok .one hj ht hc he hs).imp fun v F p => ls_e p
theorem e_lcAll {xs : List α} {Y : Nat → Ty} (Γ1 : α → Gam) (js : List Nat) (g : α → D) (hcl : X.calm = true) (hN : X.N.Nodup) (hi : PIx X m Γ tg iter xs.length Y) (hn : xs.length ≤ 100000) (ok : BlkOk X.N X.env.scope scope own)
    (ht : ∀ i x, xs[i]? = some x → ∀ s0 H0 C cl fp, TgT (blkX X scope s0 H0 C cl fp) m tg (Y i) (lost Γ (own.map (·.2))) (Γ1 x) js)
    (he : ∀ x ∈ xs, ∀ s0 H0 C cl fp, EvE (blkX X scope s0 H0 C cl fp) m (Γ1 x) elt (Is X.K (g x))) (hj : ∀ j ∈ js, j ∈ own.map (·.2) := by decide) (hs : ∀ x, foldedSetIterable iter X.env x = pure x := by intro _; rfl) :
    EvE X m Γ (.ListComp elt [⟨tg, iter, [], 0⟩] scope pos) (Is X.K (.lst (xs.map g))) :=
  (e_lc Γ1 js (fun _ => true) (fun x => Is X.K (g x)) hcl hN hi hn ok .nil hj ht (fun _ _ => rfl) (fun x hx _ => he x hx) hs).imp fun v F p => by
    rw [List.filter_eq_self.mpr (fun _ _ => rfl)] at p
    exact ls_e p
/-- y = [.. for .. if ..] ahead of the rest -/
theorem b_setLcIf (i : Nat) {y : Str} {py : Pos} {xs : List α} {Y : Nat → Ty} {o : Except Str β} {enc : β → Ty} {rest : List Stmt} (Γ1 : α → Gam) (js : List Nat) (bx : α → Bool) (g : α → D) (hcl : X.calm = true) (hN : X.N.Nodup) (hi : PIx X m Γ tg iter xs.length Y) (hn : xs.length ≤ 100000) (ok : BlkOk X.N X.env.scope scope own)
    (ht : ∀ i x, xs[i]? = some x → ∀ s0 H0 C cl fp, TgT (blkX X scope s0 H0 C cl fp) m tg (Y i) (lost Γ (own.map (·.2))) (Γ1 x) js)
    (hc : ∀ x ∈ xs, ∀ s0 H0 C cl fp, EvT (blkX X scope s0 H0 C cl fp) m (Γ1 x) c (Eq (bx x))) (he : ∀ x ∈ xs, bx x = true → ∀ s0 H0 C cl fp, EvE (blkX X scope s0 H0 C cl fp) m (Γ1 x) elt (Is X.K (g x)))
    (hr : Blk X m E (Γ.set i (some (Is X.K (.lst ((xs.filter bx).map g))))) rest o enc) (hj : ∀ j ∈ js, j ∈ own.map (·.2) := by decide) (hy : X.N[i]? = some y := by rfl) (hyl : X.env.scope.names.lookup y = some .local := by rfl)
    (hsw : swapsWith (.ListComp elt [⟨tg, iter, [c], 0⟩] scope pos) (some (.Name y py)) pos'.line X.env = pure true := by exact sw_true rfl rfl rfl (by decide +kernel)) (hs : ∀ x, foldedSetIterable iter X.env x = pure x := by intro _; rfl) :
    Blk X m E Γ (.Assign [.Name y py] (.ListComp elt [⟨tg, iter, [c], 0⟩] scope pos) pos' :: rest) o enc :=
  b_stf (s_setLc i Γ1 js bx (fun x => Is X.K (g x)) hcl hN hi hn ok .one hj ht hc he hy hyl hsw hs) (fun z h => by cases h) fun _ _ σ F H gd => hr σ F H ⟨gd.ex, gd.i, fun k T hk => by
    by_cases hik : i = k
    · subst hik
      by_cases l : i < Γ.length
      · rw [List.getElem?_set_self l] at hk
        cases hk
        obtain ⟨v, e1, p⟩ := gd.h i _ (List.getElem?_set_self l)
        exact ⟨v, e1, ls_e p⟩
      · rw [List.getElem?_eq_none (by simpa using l)] at hk
        cases hk
    · rw [List.getElem?_set_ne hik] at hk
      exact gd.h k T (by rw [List.getElem?_set_ne hik]; exact hk)⟩
/-- the first error, item by item -/
def errs (c : Nat → α → Except Str Unit) : Nat → List α → Except Str Unit
  | _, [] => .ok ()
  | i, x :: r => match c i x with
    | .error z => .error z
    | .ok () => errs c (i + 1) r
theorem errs_ok {c : Nat → α → Except Str Unit} : ∀ {xs : List α} {i : Nat}, (∀ j x, xs[j]? = some x → c (i + j) x = .ok ()) → errs c i xs = .ok ()
  | [], _, _ => rfl
  | x :: r, i, h => by
    unfold errs
    have h0 := h 0 x rfl
    rw [Nat.add_zero] at h0
    rw [h0]
    exact errs_ok fun j y hy => by
      have := h (j + 1) y (by simpa using hy)
      rw [show i + 1 + j = i + (j + 1) from by omega]
      exact this
theorem errs_from {c : Nat → α → Except Str Unit} {xs : List α} : ∀ {n i : Nat}, i + n = xs.length → fromErr (fun i => match xs[i]? with | some x => c i x | none => .ok ()) i n = errs c i (xs.drop i)
  | 0, i, h => by
    rw [List.drop_of_length_le (by omega)]
    rfl
  | n + 1, i, h => by
    have hi : i < xs.length := by omega
    have hx : xs[i]? = some xs[i] := by simp [hi]
    rw [List.drop_eq_getElem_cons hi]
    unfold fromErr errs
    rw [hx]
    have ih := errs_from (c := c) (xs := xs) (n := n) (i := i + 1) (by omega)
    cases hc : c i xs[i] with
    | error z => simp only [hc]
    | ok u => simp only [hc]; exact ih
theorem s_forL {body : List Stmt} (xs : List α) {Y : Nat → Ty} (Γ1 : Nat → α → Gam) (js : List Nat) (c : Nat → α → Except Str Unit) {Γ2 : Nat → α → Gam} (hp : PassesOwn (model X.prog X.w) X.A X.env X.xe) (hc : X.calm = true) (hi : PIx X m Γ tg iter xs.length Y)
    (ht : ∀ i x, xs[i]? = some x → TgT X m tg (Y i) (lost Γ js) (Γ1 i x) js) (hb : ∀ i x, xs[i]? = some x → StFs X m E (Γ1 i x) body (c i x) (fun _ => Γ2 i x)) (h2 : ∀ i x, lost (Γ2 i x) js = lost Γ js) (hs : ∀ x, foldedSetIterable iter X.env x = pure x := by intro _; rfl) :
    StF X m E Γ (.For tg iter body [] pos) (errs c 0 xs) (fun _ => lost Γ js) := by
  have e := errs_from (c := c) (xs := xs) (n := xs.length) (i := 0) (by omega)
  rw [List.drop_zero] at e
  rw [← e]
  refine s_for (Γ1 := fun i => match xs[i]? with | some x => Γ1 i x | none => lost Γ js) (Γ2 := fun i => match xs[i]? with | some x => Γ2 i x | none => Γ) hp hc hi (fun i hi => ?_) (fun i hi => ?_) (fun i => ?_) hs
  · have hx : xs[i]? = some xs[i] := by simp [hi]
    simp only [hx]
    exact ht i _ hx
  · have hx : xs[i]? = some xs[i] := by simp [hi]
    simp only [hx]
    exact hb i _ hx
  · cases hx : xs[i]? with
    | some x => exact h2 i x
    | none => rfl
end
end R60

set_option Elab.async false
set_option linter.all false
set_option maxRecDepth 100000
set_option maxHeartbeats 4000000
namespace R60
open PySem PySem.Spec PyProof.Rows L2
/-! ### dicts and instances by the kinds of what they hold -/
def KvT {κ : Type} : List (κ × Ty) → List (κ × V) → Hp → Prop
  | [], [], _ => True
  | (k, T) :: r, (k', v) :: r', F => k = k' ∧ T.p v F ∧ KvT r r' F
  | _, _, _ => False
section
variable {κ : Type} [DecidableEq κ] {F F' : Hp}
theorem KvT.mono (e : Ex F F') : ∀ {kts : List (κ × Ty)} {vs : List (κ × V)}, KvT kts vs F → KvT kts vs F'
  | [], [], _ => trivial
  | (k, T) :: r, (k', v) :: r', h => ⟨h.1, T.mono v F F' e h.2.1, KvT.mono e h.2.2⟩
theorem KvT.len : ∀ {kts : List (κ × Ty)} {vs : List (κ × V)}, KvT kts vs F → vs.length = kts.length
  | [], [], _ => rfl
  | (k, T) :: r, (k', v) :: r', h => by simp [KvT.len h.2.2]
theorem KvT.keys : ∀ {kts : List (κ × Ty)} {vs : List (κ × V)}, KvT kts vs F → vs.map (·.1) = kts.map (·.1)
  | [], [], _ => rfl
  | (k, T) :: r, (k', v) :: r', h => by simp [KvT.keys h.2.2, h.1]
/-- what a list of pairs holds at k -/
def atK {α : Type} (kts : List (κ × α)) (k : κ) : Option α := (kts.find? fun p => decide (p.1 = k)).map (·.2)
def setK {α : Type} (kts : List (κ × α)) (k : κ) (v : α) : List (κ × α) := if (kts.any fun kv => decide (kv.1 = k)) = true then kts.map (fun kv => if kv.1 = k then (kv.1, v) else kv) else kts ++ [(k, v)]
def delK {α : Type} (kts : List (κ × α)) (k : κ) : List (κ × α) := kts.filter fun kv => decide (kv.1 ≠ k)
theorem KvT.has : ∀ {kts : List (κ × Ty)} {vs : List (κ × V)} {k : κ} {T : Ty}, KvT kts vs F → atK kts k = some T → ∃ v, valV vs k = some v ∧ T.p v F
  | [], [], _, _, _, e => nomatch e
  | (k0, T0) :: r, (k', v) :: r', k, T, h, e => by
    obtain ⟨rfl, h1, h2⟩ := h
    by_cases hk : k0 = k
    · subst hk
      simp [atK] at e
      subst e
      exact ⟨v, by rw [valV_pos rfl], h1⟩
    · have e2 : atK r k = some T := by simpa [atK, hk] using e
      obtain ⟨u, q1, q2⟩ := KvT.has h2 e2
      exact ⟨u, by rw [valV_neg hk]; exact q1, q2⟩
theorem KvT.hasnt : ∀ {kts : List (κ × Ty)} {vs : List (κ × V)} {k : κ}, KvT kts vs F → atK kts k = none → valV vs k = none
  | [], [], _, _, _ => rfl
  | (k0, T0) :: r, (k', v) :: r', k, h, e => by
    obtain ⟨rfl, h1, h2⟩ := h
    by_cases hk : k0 = k
    · subst hk
      simp [atK] at e
    · rw [valV_neg hk]
      exact KvT.hasnt h2 (by simpa [atK, hk] using e)
theorem KvT.isSome {kts : List (κ × Ty)} {vs : List (κ × V)} {k : κ} (h : KvT kts vs F) : (valV vs k).isSome = (atK kts k).isSome := by
  cases e : atK kts k with
  | none => rw [h.hasnt e] <;> rfl
  | some T =>
    obtain ⟨v, e1, _⟩ := h.has e
    rw [e1] <;> rfl
theorem KvT.any : ∀ {kts : List (κ × Ty)} {vs : List (κ × V)} {k : κ}, KvT kts vs F → (vs.any fun kv => decide (kv.1 = k)) = (kts.any fun kv => decide (kv.1 = k))
  | [], [], _, _ => rfl
  | (k0, T0) :: r, (k', v) :: r', k, h => by
    obtain ⟨rfl, h1, h2⟩ := h
    simp [List.any_cons, KvT.any h2]
theorem KvT.app : ∀ {k1 k2 : List (κ × Ty)} {v1 v2 : List (κ × V)}, KvT k1 v1 F → KvT k2 v2 F → KvT (k1 ++ k2) (v1 ++ v2) F
  | [], _, [], _, _, h => h
  | (k0, T0) :: r, _, (k', v) :: r', _, h, h' => ⟨h.1, h.2.1, KvT.app h.2.2 h'⟩
theorem KvT.mapSet : ∀ {kts : List (κ × Ty)} {vs : List (κ × V)} {k : κ} {T : Ty} {v : V}, KvT kts vs F → T.p v F → KvT (kts.map fun kv => if kv.1 = k then (kv.1, T) else kv) (vs.map fun kv => if kv.1 = k then (kv.1, v) else kv) F
  | [], [], _, _, _, _, _ => trivial
  | (k0, T0) :: r, (k', v0) :: r', k, T, v, h, hp => by
    obtain ⟨rfl, h1, h2⟩ := h
    have ih := KvT.mapSet (k := k) (T := T) (v := v) h2 hp
    by_cases hk : k0 = k
    · simp only [List.map_cons, hk, if_true]
      exact ⟨rfl, hp, ih⟩
    · simp only [List.map_cons, hk, if_false]
      exact ⟨rfl, h1, ih⟩
theorem KvT.set {kts : List (κ × Ty)} {vs : List (κ × V)} {k : κ} {T : Ty} {v : V} (h : KvT kts vs F) (hp : T.p v F) : KvT (setK kts k T) (putK vs k v) F := by
  unfold setK putK
  rw [h.any]
  by_cases c : (kts.any fun kv => decide (kv.1 = k)) = true
  · rw [if_pos c, if_pos c]
    exact h.mapSet hp
  · rw [if_neg c, if_neg c]
    exact h.app ⟨rfl, hp, trivial⟩
theorem KvT.del : ∀ {kts : List (κ × Ty)} {vs : List (κ × V)} {k : κ}, KvT kts vs F → KvT (delK kts k) (dropK vs k) F
  | [], [], _, _ => trivial
  | (k0, T0) :: r, (k', v) :: r', k, h => by
    obtain ⟨rfl, h1, h2⟩ := h
    have ih := KvT.del (k := k) h2
    unfold delK dropK
    by_cases hk : k0 = k
    · simp only [List.filter_cons, hk, ne_eq, not_true_eq_false, decide_false, Bool.false_eq_true, if_false]
      exact ih
    · simp only [List.filter_cons, hk, ne_eq, not_false_eq_true, decide_true, if_true]
      exact ⟨rfl, h1, ih⟩
end
def DicT (kts : List (L2.Key × Ty)) : Ty := ⟨fun v F => ∃ a vs, v = .ref a ∧ F a = some (.dK vs) ∧ KvT kts vs F, fun v F F' e ⟨a, vs, h1, h2, h3⟩ => ⟨a, vs, h1, e _ _ h2, h3.mono e⟩⟩
def InsT (C : Addr) (fts : List (Str × Ty)) : Ty := ⟨fun v F => ∃ a dx fs, v = .ref a ∧ F a = some (.ins C dx fs) ∧ KvT fts fs F, fun v F F' e ⟨a, dx, fs, h1, h2, h3⟩ => ⟨a, dx, fs, h1, e _ _ h2, h3.mono e⟩⟩
theorem lookup_val {fs : List (Str × V)} {f : Str} : fs.lookup f = valV fs f := by
  induction fs with
  | nil => rfl
  | cons p r ih =>
    obtain ⟨k, v⟩ := p
    by_cases hk : k = f
    · subst hk
      rw [valV_pos rfl]
      simp [List.lookup]
    · rw [valV_neg hk, ← ih]
      have : (f == k) = false := by simpa using fun z => hk z.symm
      simp [List.lookup, this]
theorem insAt_of {C : Addr} {fts : List (Str × Ty)} {mn : Str} (h : atK fts mn = none) : InsAt C mn (InsT C fts) := ⟨fun v F ⟨a, dx, fs, h1, h2, h3⟩ => ⟨a, dx, fs, h1, h2, by rw [lookup_val]; exact h3.hasnt h⟩⟩
section
variable {X : Cx} {m : Mu} {E : XK} {Γ : Gam} {e a b c o d k : Expr} {P : Ty} {pos pos' p apos : Pos}
theorem e_fld {C : Addr} {fts : List (Str × Ty)} {f : Str} {T : Ty} (hc : Cls X.K C) (hn : NoAttr X.K C f) (h : EvE X m Γ o (InsT C fts)) (hf : atK fts f = some T) (hb : attributeBase o f X.env (eval o X.env) = eval o X.env := by rfl) : EvE X m Γ (.Attribute o f pos) T :=
  EvE.of (pe_fld sem hb) fun σ F H Q g q => h σ F H g _ fun v F1 H1 g1 i1 ⟨a, dx, fs, e1, e2, e3⟩ => by
    obtain ⟨u, q1, q2⟩ := e3.has hf
    exact ⟨a, C, dx, fs, u, e1, g1.fh _ _ e2, hc, hn, by rw [lookup_val]; exact q1, q u F1 H1 g1 i1 q2⟩
/-- the key of a dict as a value -/
def keyD : L2.Key → D
  | .inl i => .int i
  | .inr z => .str z
theorem key_v {K : PySem.W.Frag} {F : Hp} {k : L2.Key} {v : V} (h : DAt K F (keyD k) v) : v = kV k := by
  cases k with
  | inl i => exact h.i
  | inr z => exact h.s
theorem e_dget {kts : List (L2.Key × Ty)} {ky : L2.Key} {T : Ty} {j : Nat} (hr : Room j X.A) (hd : EvE X m Γ d (DicT kts)) (hk : EvE X m Γ k (Is X.K (keyD ky))) (ht : atK kts ky = some T) (hs : NoSl k := by exact fun _ _ => rfl) : EvE X m Γ (.Subscript d k pos) T :=
  EvE.of (pe_dget (hu_of hr) sem sem hs) fun σ F H Q g q => ev_two hd hk g fun v u F1 H1 g1 gg ⟨a, vs, e1, e2, e3⟩ p2 => by
    obtain ⟨x, q1, q2⟩ := e3.has ht
    have := DGet.k (k := ky) (gg.ex _ _ e2)
    rw [q1] at this
    refine ⟨a, x, e1, ?_, q x F1 H1 g1 gg.i q2⟩
    rw [key_v p2]
    exact this
theorem t_in {kts : List (L2.Key × Ty)} {ky : L2.Key} {j : Nat} (hr : Room j X.A) (hk : EvE X m Γ k (Is X.K (keyD ky))) (hd : EvE X m Γ d (DicT kts)) (hm : behindInMarks .In d = false := by rfl) : EvT X m Γ (.Compare k [.In] [d] pos) (Eq (atK kts ky).isSome) :=
  EvT.of (pt_cmp (pc_din (hu_of hr) sem sem) hm) fun σ F H Q g q => ev_two hk hd g fun u v F1 H1 g1 gg p2 ⟨a, vs, e1, e2, e3⟩ => by
    have := DGet.k (k := ky) (gg.ex _ _ e2)
    refine ⟨a, _, e1, by rw [key_v p2]; exact this, _, rfl, q _ F1 H1 g1 gg.i (by rw [e3.isSome])⟩
theorem t_nin {kts : List (L2.Key × Ty)} {ky : L2.Key} {j : Nat} (hr : Room j X.A) (hk : EvE X m Γ k (Is X.K (keyD ky))) (hd : EvE X m Γ d (DicT kts)) (hm : behindInMarks .NotIn d = false := by rfl) : EvT X m Γ (.Compare k [.NotIn] [d] pos) (Eq (!(atK kts ky).isSome)) :=
  EvT.of (pt_cmp (pc_dnotin (hu_of hr) sem sem) hm) fun σ F H Q g q => ev_two hk hd g fun u v F1 H1 g1 gg p2 ⟨a, vs, e1, e2, e3⟩ => by
    have := DGet.k (k := ky) (gg.ex _ _ e2)
    refine ⟨a, _, e1, by rw [key_v p2]; exact this, _, rfl, q _ F1 H1 g1 gg.i (by rw [e3.isSome])⟩
theorem e_lenD {kts : List (L2.Key × Ty)} (hm : X.mg "len" = none) (ha : EvE X m Γ e (DicT kts)) (hg : Gl X "len" := by rfl) (hs : starEach [e] X.env = [(false, eval e X.env)] := by rfl) (hpl : (backTo pos (starEach [] X.env)).any (·.1) = false := by rfl) : EvE X m Γ (.Call (.Name "len" p) [e] [] pos) (Is X.K (.int kts.length)) :=
  e_blt call_lenD hm (a_cons ha a_nil hs) (fun vs F H Q ex h q => by
    obtain ⟨v, rfl, a, xs, rfl, h2, h3⟩ := one_of h
    exact ⟨a, xs, rfl, ex _ _ h2, q _ F H (Gr.refl ex) (by rw [h3.len]; exact .int .nil)⟩) PySem.boot_len hg (by decide) (by decide) hs hpl
theorem e_dict {kts : List (L2.Key × Ty)} (hm : X.mg "dict" = none) (ha : EvE X m Γ e (DicT kts)) (hg : Gl X "dict" := by rfl) (hs : starEach [e] X.env = [(false, eval e X.env)] := by rfl) (hpl : (backTo pos (starEach [] X.env)).any (·.1) = false := by rfl) : EvE X m Γ (.Call (.Name "dict" p) [e] [] pos) (DicT kts) :=
  e_bty call_dictD hm (a_cons ha a_nil hs) (fun vs F H Q ex h q => by
    obtain ⟨v, rfl, a, xs, rfl, h2, h3⟩ := one_of h
    refine ⟨a, xs, rfl, .inl (ex _ _ h2), fun p hp => ?_⟩
    have gn : Gr0 F H (upd F p (.dK xs)) (upd H p (.dK xs)) := Gr.new ex hp
    exact q _ _ _ gn ⟨p, xs, rfl, upd_same, h3.mono gn.ff⟩) (by decide +kernel) hg (by decide) (by decide) hs hpl
theorem das_keys {K : PySem.W.Frag} {F : Hp} : ∀ {vs : List (L2.Key × V)} {ks : List L2.Key}, vs.map (·.1) = ks → DAs K F (ks.map keyD) (vs.map fun kv => kV kv.1)
  | [], [], _ => .nil
  | (k, v) :: r, k' :: ks, h => by
    simp at h
    obtain ⟨rfl, h⟩ := h
    refine DAs.cons ?_ (das_keys (by simpa using h))
    cases k with
    | inl i => exact .int .nil
    | inr z => exact .str .nil
theorem e_listD {kts : List (L2.Key × Ty)} (hc : X.calm = true) (hm : X.mg "list" = none) (ha : EvE X m Γ e (DicT kts)) (hg : Gl X "list" := by rfl) (hs : starEach [e] X.env = [(false, eval e X.env)] := by rfl) (hpl : (backTo pos (starEach [] X.env)).any (·.1) = false := by rfl) : EvE X m Γ (.Call (.Name "list" p) [e] [] pos) (Is X.K (.lst (kts.map fun kt => keyD kt.1))) :=
  e_bty (call_list_dK hc) hm (a_cons ha a_nil hs) (fun vs F H Q ex h q => by
    obtain ⟨v, rfl, a, xs, rfl, h2, h3⟩ := one_of h
    refine ⟨a, xs, rfl, ex _ _ h2, fun p hp => ?_⟩
    have gn : Gr0 F H (upd F p (.lst (xs.map fun kv => kV kv.1))) (upd H p (.lst (xs.map fun kv => kV kv.1))) := Gr.new ex hp
    refine q _ _ _ gn (.lst upd_same ?_ .nil)
    have := das_keys (K := X.K) (F := upd F p (.lst (xs.map fun kv => kV kv.1))) h3.keys
    rw [List.map_map] at this
    exact this) (by decide +kernel) hg (by decide) (by decide) hs hpl
theorem e_dnew : EvE X m Γ (.Dict [] [] pos) (DicT []) := EvE.of pe_dnewK fun σ F H Q g q => fun p hp => by
  have gn : Gr0 F H (upd F p (.dK [])) (upd H p (.dK [])) := Gr.new g.ex hp
  exact q _ _ _ gn.weak (m.st _ _ _ _ gn g.i) ⟨p, [], rfl, upd_same, trivial⟩
/-! ### from statement to statement, by the heap -/
variable {α β : Type} {rest : List Stmt} {st : Stmt} {D : Ends} {σ : L2.St} {F H : Hp}
theorem go_stf {o1 : Except Str β} {Γ' : β → Gam} (h : StF X m E Γ st o1 Γ') (g : Good m Γ σ F H) (k : CoF X m E F H (tSemS X rest D) o1 Γ') : tSemS X (st :: rest) D σ H := fun pins s I =>
  (pss_cons sem1 semS).run pins s σ H D I (h σ F H g _ k)
theorem go_fld {C x dx : Addr} {fs : List (Str × V)} {f : Str} {value : Expr} {Tv : Ty} (hc : Cls X.K C) (hn : NoAttr X.K C f) (hv : EvE X m0 Γ value Tv) (ho : EvE X m0 Γ o (Vl (.ref x))) (g : Good m0 Γ σ F H) (hx : H x = some (.ins C dx fs)) (hl : fs.length < 900)
    (k : ∀ v F' H', Gr0 F H F' H' → Tv.p v F' → tSemS X rest D σ (upd H' x (.ins C dx (putF f v fs)))) (hs : swapsWith value (some (.Attribute o f pos')) pos.line X.env = pure false := by rfl) : tSemS X (.Assign [.Attribute o f pos'] value pos :: rest) D σ H := fun pins s I =>
  (pss_cons (ps_fld sem sem hs) semS).run pins s σ H D I (hv σ F H g _ fun v F1 H1 g1 i1 p1 => ho σ F1 H1 (g.next g1 i1) _ fun u F2 H2 g2 i2 p2 => ⟨x, C, dx, fs, p2, g2.hh _ _ (fun z => z) (g1.hh _ _ (fun z => z) hx), hc, hn, by omega, k v F2 H2 (Gr.trans g1 g2) (Tv.mono _ _ _ g2.ff p1)⟩)
/-- a thing that isn't fixed may change -/
theorem Good.upd {x : Addr} {o : HO} (g : Good m0 Γ σ F H) (hx : F x = none) : Good m0 Γ σ F (upd H x o) := ⟨fun b u q => by rw [upd_ne (ne_of_none q hx)]; exact g.ex b u q, trivial, g.h⟩
theorem go_end (h : D.nx σ H) : tSemS X [] D σ H := fun pins s I => pss_nil.run pins s σ H D I h
theorem go_ret {P : Ty} (h : EvE X m Γ e P) (g : Good m Γ σ F H) (k : ∀ v F' H', Gr m.U F H F' H' → m.I F' H' → P.p v F' → D.rt v H') : tSemS X (.Return (some e) pos :: rest) D σ H := fun pins s I =>
  (pss_cons (ps_ret sem) semS).run pins s σ H D I (h σ F H g _ k)
theorem go_set (i : Nat) {x : Str} {P : Ty} (h : EvE X m Γ e P) (g : Good m Γ σ F H) (k : ∀ v F' H', Gr m.U F H F' H' → m.I F' H' → P.p v F' → Good m (Γ.set i (some P)) (σ.set i (some v)) F' H' → tSemS X rest D (σ.set i (some v)) H') (hN : X.N.Nodup) (hi : X.N[i]? = some x := by rfl) (hx : Loc X.env.scope x := by first | exact Or.inl rfl | exact Or.inr rfl)
    (hs : swapsWith e (some (.Name x pos')) pos.line X.env = pure false := by rfl) (hf : X.fn x = true ∨ X.env.scope.names.lookup x = some .local := by first | exact .inl rfl | exact .inr rfl) : tSemS X (.Assign [.Name x pos'] e pos :: rest) D σ H := fun pins s I =>
  (pss_cons (ps_set hN hi hx sem hs hf) semS).run pins s σ H D I (h σ F H g _ fun v F1 H1 g1 i1 p => k v F1 H1 g1 i1 p ⟨g1.fh, i1, (g.h.mono g1.ff).set (by
    rw [I.len]
    exact (List.getElem?_eq_some_iff.mp hi).1) p⟩)
theorem go_if {S : Bool → Prop} {body orelse : List Stmt} (h : EvT X m Γ c S) (g : Good m Γ σ F H) (k1 : ∀ F' H', Gr m.U F H F' H' → m.I F' H' → S true → tSemS X body { D with nx := tSemS X rest D } σ H') (k2 : ∀ F' H', Gr m.U F H F' H' → m.I F' H' → S false → tSemS X orelse { D with nx := tSemS X rest D } σ H') :
    tSemS X (.If c body orelse pos :: rest) D σ H := fun pins s I =>
  (pss_cons (ps_if semT semS semS) semS).run pins s σ H D I (h σ F H g _ fun b F1 H1 g1 i1 p => by
    cases b with
    | true => exact k1 F1 H1 g1 i1 p
    | false => exact k2 F1 H1 g1 i1 p)
end
end R60

set_option Elab.async false
set_option linter.all false
set_option maxRecDepth 100000
set_option maxHeartbeats 4000000
namespace R60
open PySem PySem.Spec PyProof.Rows L2
/-- all that is new is fixed -/
def canon (F H H' : Hp) : Hp := fun b => match H b with
  | none => H' b
  | some _ => F b
theorem gr_canon {U : Addr → Prop} {F H H' : Hp} (e : Ex F H) (s : Same H H') : Gr U F H (canon F H H') H' := by
  refine ⟨fun b u q => ?_, fun b u q => ?_, fun b u _ q => s b u q, fun b q => Same.free s q, fun b q n => ?_⟩
  · unfold canon
    rw [e b u q]
    exact q
  · unfold canon at q
    cases hb : H b with
    | none => rw [hb] at q; exact q
    | some o => rw [hb] at q; exact s b u (e b u q)
  · unfold canon
    cases hb : H b with
    | none => exact absurd hb n
    | some o => exact q
theorem canon_new {F H H' : Hp} {b : Addr} {o : HO} (h : H b = none) (h' : H' b = some o) : canon F H H' b = some o := by
  unfold canon
  rw [h]
  exact h'
/-! ### sorted(d.items()), keys and values whole numbers -/
def pI (q : Int × Int) : L2.Key × V := (Sum.inl q.1, V.int q.2)
def tSortItems (te : TE) : TE := fun σ H Q => te σ H fun x H1 => ∃ (d : Addr) (ps : List (Int × Int)), x = .ref d ∧ H1 d = some (.dK (ps.map pI)) ∧ ∀ (H' : Hp) (l : Addr) (zs : List (Addr × Int × Int)), Same H1 H' → H1 l = none → (∀ z ∈ zs, H1 z.1 = none) →
  (zs.map (·.2)).Perm ps → (zs.map (·.2)).Pairwise (fun a b => ¬ (b.1 < a.1 ∨ (b.1 = a.1 ∧ b.2 < a.2))) → H' l = some (.lst (zs.map fun z => V.ref z.1)) → (∀ z ∈ zs, H' z.1 = some (.tup [.int z.2.1, .int z.2.2])) → Q (.ref l) H'
theorem inv_in1 {X : Cx} {pins : List (Addr × Obj)} {σ : L2.St} {H : Hp} {s : Shared} (I : Inv X pins σ H s) : Inv { X with A := X.A.in1 } pins σ H s := by
  obtain ⟨o1, o2, o3, o4, o5, o6, o7, o8, o9, o10, o11, o12, o13, o14, o15, o16, o17, o18⟩ := I.ok
  exact ⟨⟨o1, o2, o3, o4, o5, o6, o7, o8, o9, o10, o11, o12, o13, o14, o15, o16, o17, o18⟩, I.os, I.bare, I.base, I.loc, I.cell, I.free, I.freeC, I.pin, I.hok, I.len⟩
theorem inv_out1 {X : Cx} {pins : List (Addr × Obj)} {σ : L2.St} {H : Hp} {s : Shared} (I : Inv { X with A := X.A.in1 } pins σ H s) : Inv X pins σ H s := by
  obtain ⟨o1, o2, o3, o4, o5, o6, o7, o8, o9, o10, o11, o12, o13, o14, o15, o16, o17, o18⟩ := I.ok
  exact ⟨⟨o1, o2, o3, o4, o5, o6, o7, o8, o9, o10, o11, o12, o13, o14, o15, o16, o17, o18⟩, I.os, I.bare, I.base, I.loc, I.cell, I.free, I.freeC, I.pin, I.hok, I.len⟩
theorem pairs_at {K : Type} [DecidableEq K] {prog : Program} {w : World} {knd : KeyKind prog w K} {es : List DictEntry} {vs : List (K × Value)} (h : Pairs knd es vs) : ∀ {j : Nat} {e : DictEntry}, es[j]? = some e → ∃ kv, vs[j]? = some kv ∧ knd.is kv.1 e.key = true ∧ e.val = kv.2 := by
  induction h with
  | nil => intro j e q; simp at q
  | cons h1 h2 _ ih =>
    intro j e q
    cases j with
    | zero =>
      simp at q
      subst q
      exact ⟨_, rfl, h1, h2⟩
    | succ j =>
      obtain ⟨kv, e1, e2⟩ := ih (j := j) (e := e) (by simpa using q)
      exact ⟨kv, by simpa using e1, e2⟩
theorem kv_at {κ : Type} {kvs : List (κ × V)} {vs : List (κ × Value)} (h : KV kvs vs) : ∀ {j : Nat} {q : κ × Value}, vs[j]? = some q → ∃ p, kvs[j]? = some p ∧ p.1 = q.1 ∧ RelV p.2 q.2 := by
  unfold KV at h
  induction h with
  | nil => intro j e q; simp at q
  | cons h1 _ ih =>
    intro j e q
    cases j with
    | zero =>
      simp at q
      subst q
      exact ⟨_, rfl, h1.1, h1.2⟩
    | succ j =>
      obtain ⟨kv, e1, e2⟩ := ih (j := j) (q := e) (by simpa using q)
      exact ⟨kv, by simpa using e1, e2⟩
section
variable {X : Cx} {e : Expr} {te : TE} {p apos cpos pos : Pos}
theorem pe_sortItems (hc : X.calm = true) (he : PE X e te) (hm : X.mg "sorted" = none) (hg : Gl X "sorted" := by rfl) (hv : bootBuiltins "sorted" = some (.builtin "sorted") := by decide +kernel) (hbase : attributeBase e "items" X.env (eval e X.env) = eval e X.env := by rfl) (hline : (apos.endLine == cpos.line) = true := by rfl)
    (hs : starEach [.Call (.Attribute e "items" apos) [] [] cpos] X.env = (false, eval (.Call (.Attribute e "items" apos) [] [] cpos) X.env) :: starEach [] X.env := by rfl) (hpl : (backTo pos (starEach [] X.env)).any (·.1) = false := by rfl) :
    PE X (.Call (.Name "sorted" p) [.Call (.Attribute e "items" apos) [] [] cpos] [] pos) (tSortItems te) := by
  refine ⟨fun pins s σ H Q I hq => ?_⟩
  refine wpAny_Call_Name_kw (ld_blt I hg hm hv (PyProof.Rows.callWith_builtin1 ?_ hs hpl))
  rw [hs]
  refine Calls.spliced_cons (wpAny_Call_method (T := "dict") (id := "dict.items") hbase rfl hline F.plainAttrs_dict F.slot_dict_items F.type_dict_items (thn (he.run pins s σ H _ I hq) fun u s1 ⟨x, H1, I1, rx, d, ps, ex, hd, q⟩ => ?_))
  subst ex
  obtain rfl : u = Value.ref d := rx
  obtain ⟨hz, hs0, vs, kv, hdo⟩ := I1.hok d _ hd
  obtain ⟨o, es, ep, ho, hex, hdat, hes, his, hnd⟩ := id hdo
  have lk : (ps.map pI).length = vs.length := Paired.length kv
  refine ⟨hdo.typeIs, hdo.mapOf.noDict, method_meetsIn F.slot_dict_items F.entry_dict_items rfl (PySem.evalArgs_none ⟨rfl, hdo.typeIs, F.args_dict_items_1 _, _, meets_dict_items (mixKind X.prog X.w) d hs0, ⟨vs, hdo⟩, ?_⟩)⟩
  have I2 : Inv X pins σ H1 { s1 with heap := s1.heap.push { cls := .type "dict_items", data := .fields #[.ref d] } } := I1.kept (t' := s1.toks) fun b ob q => Heap.get?_push_of_some _ q
  refine Calls.spliced_nil ?_
  have lps : ps.length = vs.length := by rw [List.length_map] at lk; exact lk
  have les : es.size = vs.length := by rw [← Array.length_toList]; exact his.length
  refine DT.sortedI (es := es) (ep := ep) (I2.ok.hd hc) ⟨_, Heap.get?_push_size _ rfl, rfl, rfl⟩ ⟨o, Heap.get?_push_of_some _ ho, hex, hdat⟩ (by rw [les, ← lk]; exact hz) fun h' tk as hk hlt hl hG => ?_
  have lap : as.length = ps.length := by rw [hl, les, lps]
  have nodup : as.Nodup := List.Pairwise.imp (fun {a b} (h : a < b) => Nat.ne_of_lt h) hG.rise
  have made : ∀ (j : Nat) (b : Addr), as[j]? = some b → ∃ (q : Int × Int) (t1 t2 : Tok), ps[j]? = some q ∧ h'.get? b = some { cls := .type "tuple", data := .seq #[.int q.1 t1, .int q.2 t2] } := fun j b hj => by
    obtain ⟨en, e1, e2⟩ := hG.pairs j b hj
    obtain ⟨kv0, f1, f2, f3⟩ := pairs_at his (j := j) (e := en) (by rw [Array.getElem?_toList]; exact e1)
    obtain ⟨q0, g1, g2, g3⟩ := kv_at kv f1
    rw [List.getElem?_map] at g1
    cases hpj : ps[j]? with
    | none => rw [hpj] at g1; cases g1
    | some q1 =>
      rw [hpj] at g1
      cases g1
      rw [← g2] at f2
      obtain ⟨t1, ek⟩ : ∃ t, en.key = Value.int q1.1 t := by
        rcases keyIs_shape (k := Sum.inl q1.1) (v := en.key) f2 with ⟨i, t, h1, h2⟩ | ⟨x, t, h1, _⟩
        · cases h1
          exact ⟨t, h2⟩
        · cases h1
      obtain ⟨t2, ev⟩ := g3
      rw [ek, f3, ev] at e2
      exact ⟨q1, t1, t2, rfl, e2⟩
  have hL : H1 h'.objs.size = none := I2.hok.fresh (Nat.le_of_lt hlt)
  have I3 : Inv X pins σ (upd H1 h'.objs.size (.lst (as.map V.ref))) { s1 with heap := h'.push { cls := .type "list", data := .seq (as.map Value.ref).toArray }, toks := tk } :=
    I2.laid (t' := tk) (fun b ob z => Heap.get?_push_of_some _ (hk b ob z)) (Nat.le_of_lt hlt) ⟨by rw [List.length_map, lap, ← List.length_map (f := pI)]; exact hz, as.map Value.ref, 0, LiI.vals_refs as, Heap.get?_push_size _ rfl⟩
  obtain ⟨H2, I4, g4, q4⟩ := DX.takeT (P := fun b vs => ∃ (j : Nat) (q : Int × Int), as[j]? = some b ∧ ps[j]? = some q ∧ vs = [.int q.1, .int q.2]) I2 as _ I3 nodup fun b hb => by
    obtain ⟨j, hj⟩ := List.mem_iff_getElem?.mp hb
    obtain ⟨q1, t1, t2, hp, hg⟩ := made j b hj
    have hbl := Nat.le_of_lt (hG.above b hb)
    refine ⟨hbl, ?_, _, ⟨j, q1, hj, hp, rfl⟩, fun H3 => ⟨by show 2 ≤ sizeLine; decide, [.int q1.1 t1, .int q1.2 t2], .cons ⟨t1, rfl⟩ (.cons ⟨t2, rfl⟩ .nil), ⟨_, Heap.get?_push_of_some _ hg, rfl, 0, rfl⟩⟩⟩
    rw [upd_ne (Nat.ne_of_lt (Heap.lt_size hg))]
    exact I2.hok.fresh hbl
  have grow : Same H1 H2 := fun b ob z => g4 b ob (by rw [upd_ne (ne_of_none z hL)]; exact z)
  let rd : V → Int × Int := fun y => match y with
    | .ref t => match H2 t with
      | some (.tup [.int i, .int j]) => (i, j)
      | _ => (0, 0)
    | _ => (0, 0)
  have rdAt : ∀ (j : Nat) (b : Addr) (q : Int × Int), as[j]? = some b → ps[j]? = some q → H2 b = some (.tup [.int q.1, .int q.2]) ∧ rd (.ref b) = q := fun j b q hj hp => by
    obtain ⟨vs, ⟨i, q', h1, h2, h3⟩, h4⟩ := q4 b (List.mem_of_getElem? hj)
    have eij : i = j := (List.getElem?_inj (List.getElem?_eq_some_iff.mp h1).1 nodup).mp (h1.trans hj.symm)
    subst eij
    rw [hp] at h2
    cases h2
    rw [h3] at h4
    refine ⟨h4, ?_⟩
    show (match H2 b with | some (.tup [.int i, .int j]) => (i, j) | _ => (0, 0)) = q
    rw [h4]
  have rdAll : (as.map V.ref).map rd = ps := by
    refine List.ext_getElem? fun j => ?_
    rw [List.map_map, List.getElem?_map]
    cases hj : as[j]? with
    | none =>
      have : ps[j]? = none := List.getElem?_eq_none (by have := List.getElem?_eq_none_iff.mp hj; omega)
      rw [this] <;> rfl
    | some b =>
      obtain ⟨q1, t1, t2, hp, _⟩ := made j b hj
      rw [hp]
      show some (rd (.ref b)) = some q1
      rw [(rdAt j b q1 hj hp).2]
  have hp2 := mt_sortPO (X := { X with A := X.A.in1 }) pins _ σ H2 (.ref h'.objs.size) [] (Value.ref h'.objs.size) [] (fun _ H3 => Q (.ref h'.objs.size) H3) (inv_in1 I4) rfl .nil ⟨h'.objs.size, as.map V.ref, rd, rfl, rfl, g4 _ _ upd_same, fun y hy => by
    obtain ⟨b, hb, rfl⟩ := List.mem_map.mp hy
    obtain ⟨j, hj⟩ := List.mem_iff_getElem?.mp hb
    obtain ⟨q1, t1, t2, hp, _⟩ := made j b hj
    obtain ⟨r1, r2⟩ := rdAt j b q1 hj hp
    exact ⟨b, rfl, by rw [r2]; exact r1⟩, fun ys hs1 hs2 => by
    have pm : ys.Perm (as.map V.ref) := hs2.perm
    have isR : ∀ y ∈ ys, ∃ b, b ∈ as ∧ y = V.ref b := fun y hy => by
      obtain ⟨b, hb, rfl⟩ := List.mem_map.mp (pm.mem_iff.mp hy)
      exact ⟨b, hb, rfl⟩
    let ad : V → Addr := fun y => match y with
      | .ref t => t
      | _ => 0
    have back : (ys.map fun y => (ad y, rd y)).map (fun z => V.ref z.1) = ys := by
      rw [List.map_map]
      refine (List.map_congr_left fun y hy => ?_).trans (List.map_id ys)
      obtain ⟨b, _, rfl⟩ := isR y hy
      rfl
    have snd : (ys.map fun y => (ad y, rd y)).map (·.2) = ys.map rd := by rw [List.map_map] <;> rfl
    refine q _ _ (ys.map fun y => (ad y, rd y)) (fun b ob z => ?_) hL (fun z hz => ?_) ?_ ?_ ?_ (fun z hz => ?_)
    · have z2 := grow b ob z
      have ne : b ≠ h'.objs.size := ne_of_none z hL
      rw [upd_ne ne]
      exact z2
    · obtain ⟨y, hy, rfl⟩ := List.mem_map.mp hz
      obtain ⟨b, hb, rfl⟩ := isR y hy
      exact I2.hok.fresh (Nat.le_of_lt (hG.above b hb))
    · rw [snd, ← rdAll]
      exact pm.map rd
    · rw [snd]
      refine List.pairwise_map.mpr (hs1.imp fun {x y} h => ?_)
      exact SrtO.lexB_no.mp h
    · rw [back]
      exact upd_same
    · obtain ⟨y, hy, rfl⟩ := List.mem_map.mp hz
      obtain ⟨b, hb, rfl⟩ := isR y hy
      obtain ⟨j, hj⟩ := List.mem_iff_getElem?.mp hb
      obtain ⟨q1, t1, t2, hp, hg⟩ := made j b hj
      obtain ⟨r1, r2⟩ := rdAt j b q1 hj hp
      show upd H2 h'.objs.size _ b = some (.tup [.int (rd (.ref b)).1, .int (rd (.ref b)).2])
      rw [upd_ne (Nat.ne_of_lt (Heap.lt_size hg)), r2]
      exact r1⟩
  exact thn hp2 fun u s' ⟨v, H3, J, _, q3⟩ => ⟨.ref h'.objs.size, H3, inv_out1 J, rfl, q3⟩
end
end R60

set_option Elab.async false
set_option linter.all false
set_option maxRecDepth 100000
set_option maxHeartbeats 4000000
namespace R60
open PySem PySem.Spec PyProof.Rows L2
/-! ### sorted lists: there is just one -/
theorem perm_uniq {α : Type} {R : α → α → Prop} (anti : ∀ a b, R a b → R b a → a = b) : ∀ {xs ys : List α}, xs.Perm ys → xs.Pairwise R → ys.Pairwise R → xs = ys
  | [], ys, p, _, _ => (List.Perm.eq_nil p.symm).symm
  | x :: xs, [], p, _, _ => absurd p.length_eq (by simp)
  | x :: xs, y :: ys, p, h1, h2 => by
    rw [List.pairwise_cons] at h1 h2
    have e : x = y := by
      rcases List.mem_cons.mp (p.mem_iff.mp List.mem_cons_self) with e | hx
      · exact e
      · rcases List.mem_cons.mp (p.mem_iff.mpr List.mem_cons_self) with e | hy
        · exact e.symm
        · exact anti x y (h1.1 y hy) (h2.1 x hx)
    subst e
    rw [perm_uniq anti p.cons_inv h1.2 h2.2]
open Classical in
noncomputable def srtBy {α : Type} (S : List α → Prop) (ns : List α) : List α := if h : ∃ ys, ys.Perm ns ∧ S ys then h.choose else ns
theorem srtBy_eq {α : Type} {S : List α → Prop} (uq : ∀ xs ys, xs.Perm ys → S xs → S ys → xs = ys) {ns ys : List α} (p : ys.Perm ns) (h : S ys) : srtBy S ns = ys := by
  have hx : ∃ ys, ys.Perm ns ∧ S ys := ⟨ys, p, h⟩
  unfold srtBy
  rw [dif_pos hx]
  obtain ⟨p1, h1⟩ := hx.choose_spec
  exact uq _ _ (p1.trans p.symm) h1 h
def ltPair (a b : Int × Int) : Prop := a.1 < b.1 ∨ (a.1 = b.1 ∧ a.2 < b.2)
noncomputable def srtP (ps : List (Int × Int)) : List (Int × Int) := srtBy (fun l => l.Pairwise fun a b => ¬ ltPair b a) ps
noncomputable def srtI (ns : List Int) : List Int := srtBy (fun l => l.Pairwise (· ≤ ·)) ns
theorem srtP_eq {ps ys : List (Int × Int)} (p : ys.Perm ps) (h : ys.Pairwise fun a b => ¬ ltPair b a) : srtP ps = ys :=
  srtBy_eq (fun xs ys p h1 h2 => perm_uniq (R := fun a b => ¬ ltPair b a) (fun a b h1 h2 => by
    obtain ⟨a1, a2⟩ := a
    obtain ⟨b1, b2⟩ := b
    simp only [ltPair, Prod.mk.injEq] at h1 h2 ⊢
    omega) p h1 h2) p h
theorem srtI_eq {ps ys : List Int} (p : ys.Perm ps) (h : ys.Pairwise (· ≤ ·)) : srtI ps = ys :=
  srtBy_eq (fun xs ys p h1 h2 => perm_uniq (R := (· ≤ ·)) (fun a b h1 h2 => by omega) p h1 h2) p h
def pairD (q : Int × Int) : D := .tup [.int q.1, .int q.2]
def pairsD (qs : List (Int × Int)) : D := .lst (qs.map pairD)
/-- a dict of whole numbers -/
def KnT (K : PySem.W.Frag) (ps : List (Int × Int)) : Ty := DicT (ps.map fun q => (Sum.inl q.1, Is K (.int q.2)))
theorem kn_vs {K : PySem.W.Frag} {F : Hp} : ∀ {ps : List (Int × Int)} {vs : List (L2.Key × V)}, KvT (ps.map fun q => (Sum.inl q.1, Is K (.int q.2))) vs F → vs = ps.map pI
  | [], [], _ => rfl
  | q :: ps, (k, v) :: vs, h => by
    obtain ⟨rfl, h1, h2⟩ := h
    rw [kn_vs h2, DAt.i h1] <;> rfl
  | [], _ :: _, h => h.elim
  | _ :: _, [], h => h.elim
theorem kn_self {K : PySem.W.Frag} {F : Hp} : ∀ ps : List (Int × Int), KvT (ps.map fun q => (Sum.inl q.1, Is K (.int q.2))) (ps.map pI) F
  | [] => trivial
  | _ :: r => ⟨rfl, .int .nil, kn_self r⟩
theorem das_pairs {K : PySem.W.Frag} {F : Hp} : ∀ {zs : List (Addr × Int × Int)}, (∀ z ∈ zs, F z.1 = some (.tup [.int z.2.1, .int z.2.2])) → DAs K F ((zs.map (·.2)).map pairD) (zs.map fun z => V.ref z.1)
  | [], _ => .nil
  | z :: zs, h => .tup (SqT.of (h z List.mem_cons_self)) (.int (.int .nil)) (das_pairs fun y hy => h y (List.mem_cons_of_mem _ hy))
section
variable {X : Cx} {m : Mu} {E : XK} {Γ : Gam} {e a b c o d k : Expr} {P : Ty} {pos pos' p apos cpos : Pos}
theorem e_sortItems {ps : List (Int × Int)} (hc : X.calm = true) (hm : X.mg "sorted" = none) (h : EvE X m Γ o (KnT X.K ps)) (hg : Gl X "sorted" := by rfl) (hbase : attributeBase o "items" X.env (eval o X.env) = eval o X.env := by rfl) (hline : (apos.endLine == cpos.line) = true := by rfl)
    (hs : starEach [.Call (.Attribute o "items" apos) [] [] cpos] X.env = (false, eval (.Call (.Attribute o "items" apos) [] [] cpos) X.env) :: starEach [] X.env := by rfl) (hpl : (backTo pos (starEach [] X.env)).any (·.1) = false := by rfl) :
    EvE X m Γ (.Call (.Name "sorted" p) [.Call (.Attribute o "items" apos) [] [] cpos] [] pos) (Is X.K (pairsD (srtP ps))) :=
  EvE.of (pe_sortItems hc sem hm hg (by decide +kernel) hbase hline hs hpl) fun σ F H Q g q => h σ F H g _ fun v F1 H1 g1 i1 ⟨a, vs, e1, e2, e3⟩ => by
    rw [kn_vs e3] at e2
    refine ⟨a, ps, e1, g1.fh _ _ e2, fun H' l zs hs hl hz hp hw hL hZ => ?_⟩
    have gc : Gr0 F1 H1 (canon F1 H1 H') H' := gr_canon g1.fh hs
    refine q _ _ _ (g1.trans gc.weak) (m.st _ _ _ _ gc i1) ?_
    rw [srtP_eq hp hw]
    exact .lst (canon_new hl hL) (das_pairs fun z hz' => canon_new (hz z hz') (hZ z hz')) .nil
theorem e_sortI {ns : List Int} (hm : X.mg "sorted" = none) (ha : EvE X m Γ e (Is X.K (.lst (ns.map D.int)))) (hg : Gl X "sorted" := by rfl) (hs : starEach [e] X.env = [(false, eval e X.env)] := by rfl) (hpl : (backTo pos (starEach [] X.env)).any (·.1) = false := by rfl) : EvE X m Γ (.Call (.Name "sorted" p) [e] [] pos) (Is X.K (.lst ((srtI ns).map D.int))) :=
  e_blt cr_sortedI hm (a_cons ha a_nil hs) (fun vs F H Q ex h q => by
    obtain ⟨v, rfl, p1⟩ := one_of h
    obtain ⟨a, xs, rfl, h2, h3⟩ := DAt.l p1
    rw [h3.isInts] at h2
    refine ⟨a, ns, rfl, SqL.of (ex _ _ h2), fun ns' p hp hw hn => ?_⟩
    have gn : Gr0 F H (upd F p (.lst (ns'.map V.int))) (upd H p (.lst (ns'.map V.int))) := Gr.new ex hn
    refine q _ _ _ gn ?_
    rw [srtI_eq hp hw]
    exact .lst upd_same (DAs.ints _) .nil) (by decide +kernel) hg (by decide) (by decide) hs hpl
end
theorem rising_pw : ∀ {r : List Str} {x : Str}, risingS x r = true → (x :: r).Pairwise fun a b => a.cps.toList ≤ b.cps.toList
  | [], x, _ => by simp
  | y :: r, x, h => by
    have h' : (!ltCps y.cps.toList x.cps.toList && risingS y r) = true := h
    rw [Bool.and_eq_true] at h'
    have ih := rising_pw h'.2
    have le : x.cps.toList ≤ y.cps.toList := by
      have := h'.1
      rw [ltCps_eq] at this
      simpa using this
    refine List.pairwise_cons.mpr ⟨fun z hz => ?_, ih⟩
    rcases List.mem_cons.mp hz with rfl | hz
    · exact le
    · exact List.le_trans le ((List.pairwise_cons.mp ih).1 z hz)
theorem sortedS_pw {r : List Str} (h : sortedS r = true) : r.Pairwise fun a b => a.cps.toList ≤ b.cps.toList := by
  cases r with
  | nil => exact .nil
  | cons x r => exact rising_pw h
noncomputable def srtS (ns : List Str) : List Str := srtBy (fun l => sortedS l = true) ns
theorem srtS_eq {ps ys : List Str} (p : ys.Perm ps) (h : sortedS ys = true) : srtS ps = ys :=
  srtBy_eq (S := fun l => sortedS l = true) (fun xs ys p h1 h2 => perm_uniq (R := fun a b : Str => a.cps.toList ≤ b.cps.toList) (fun a b h1 h2 => by
    have := List.le_antisymm h1 h2
    obtain ⟨a⟩ := a
    obtain ⟨b⟩ := b
    simp at this
    rw [this]) p (sortedS_pw h1) (sortedS_pw h2)) p h
section
variable {X : Cx} {m : Mu} {E : XK} {Γ : Gam} {e a b c o d k : Expr} {P : Ty} {pos pos' p apos cpos : Pos}
theorem e_sortS {ns : List Str} (hm : X.mg "sorted" = none) (h64 : ns.length < 64) (ha : EvE X m Γ e (Is X.K (.lst (ns.map D.str)))) (hg : Gl X "sorted" := by rfl) (hs : starEach [e] X.env = [(false, eval e X.env)] := by rfl) (hpl : (backTo pos (starEach [] X.env)).any (·.1) = false := by rfl) : EvE X m Γ (.Call (.Name "sorted" p) [e] [] pos) (Is X.K (.lst ((srtS ns).map D.str))) :=
  e_blt cr_sortedS hm (a_cons ha a_nil hs) (fun vs F H Q ex h q => by
    obtain ⟨v, rfl, p1⟩ := one_of h
    obtain ⟨a, xs, rfl, h2, h3⟩ := DAt.l p1
    rw [h3.isStrs] at h2
    refine ⟨a, ns, rfl, SqL.of (ex _ _ h2), h64, fun ns' p hp hw hn => ?_⟩
    have gn : Gr0 F H (upd F p (.lst (ns'.map V.str))) (upd H p (.lst (ns'.map V.str))) := Gr.new ex hn
    refine q _ _ _ gn ?_
    rw [srtS_eq hp hw]
    exact .lst upd_same (DAs.strs _) .nil) (by decide +kernel) hg (by decide) (by decide) hs hpl
/-- sorted(d), its keys texts -/
theorem e_sortDS {kts : List (L2.Key × Ty)} {ns : List Str} (hc : X.calm = true) (hm : X.mg "sorted" = none) (hk : kts.map (·.1) = ns.map Sum.inr) (h64 : ns.length < 64) (ha : EvE X m Γ e (DicT kts)) (hg : Gl X "sorted" := by rfl) (hs : starEach [e] X.env = [(false, eval e X.env)] := by rfl) (hpl : (backTo pos (starEach [] X.env)).any (·.1) = false := by rfl) : EvE X m Γ (.Call (.Name "sorted" p) [e] [] pos) (Is X.K (.lst ((srtS ns).map D.str))) :=
  e_blt (call_sortedD hc) hm (a_cons ha a_nil hs) (fun vs F H Q ex h q => by
    obtain ⟨v, rfl, a, xs, rfl, h2, h3⟩ := one_of h
    refine ⟨a, xs, ns, rfl, .inl (ex _ _ h2), by rw [h3.keys, hk], h64, fun ns' p hp hw hn => ?_⟩
    have gn : Gr0 F H (upd F p (.lst (ns'.map V.str))) (upd H p (.lst (ns'.map V.str))) := Gr.new ex hn
    refine q _ _ _ gn ?_
    rw [srtS_eq hp hw]
    exact .lst upd_same (DAs.strs _) .nil) (by decide +kernel) hg (by decide) (by decide) hs hpl
end
end R60

set_option Elab.async false
set_option linter.all false
set_option maxRecDepth 100000
set_option maxHeartbeats 4000000
namespace R60
open PySem PySem.Spec PyProof.Rows L2
section
variable {X : Cx} {m : Mu} {E : XK} {Γ : Gam} {kx vx tg iter : Expr} {pos : Pos} {α : Type} {scope : Scope} {own : List (Str × Nat)}
theorem putK_new {kvs : List (L2.Key × V)} {k : L2.Key} {v : V} (h : ∀ p ∈ kvs, p.1 ≠ k) : putK kvs k v = kvs ++ [(k, v)] := by
  unfold putK
  rw [if_neg (by
    intro z
    obtain ⟨p, hp, e⟩ := List.any_eq_true.mp z
    exact h p hp (by simpa using e))]
theorem kn_of {K : PySem.W.Frag} {F : Hp} {kf vf : α → Int} : ∀ xs : List α, KvT ((xs.map fun x => (kf x, vf x)).map fun q => (Sum.inl q.1, Is K (.int q.2))) (xs.map fun x => ((Sum.inl (kf x) : L2.Key), V.int (vf x))) F
  | [] => trivial
  | _ :: r => ⟨rfl, .int .nil, kn_of r⟩
/-- {k: v for .. in ..}, whole numbers, the keys all different -/
theorem e_dc {xs : List α} {Y : Nat → Ty} (Γ1 : α → Gam) (js : List Nat) (kf vf : α → Int) (hcl : X.calm = true) (hN : X.N.Nodup) (hi : PIx X m Γ tg iter xs.length Y) (hn : xs.length ≤ 100000) (hd : (xs.map kf).Nodup) (ok : BlkOk X.N X.env.scope scope own)
    (ht : ∀ i x, xs[i]? = some x → ∀ s0 H0 C cl fp, TgT (blkX X scope s0 H0 C cl fp) m tg (Y i) (lost Γ (own.map (·.2))) (Γ1 x) js)
    (hk : ∀ x ∈ xs, ∀ s0 H0 C cl fp, EvE (blkX X scope s0 H0 C cl fp) m (Γ1 x) kx (Is X.K (.int (kf x)))) (hv : ∀ x ∈ xs, ∀ s0 H0 C cl fp, EvE (blkX X scope s0 H0 C cl fp) m (Γ1 x) vx (Is X.K (.int (vf x))))
    (hj : ∀ j ∈ js, j ∈ own.map (·.2) := by decide) (hs : ∀ x, foldedSetIterable iter X.env x = pure x := by intro _; rfl) :
    EvE X m Γ (.DictComp kx vx [⟨tg, iter, [], 0⟩] scope pos) (KnT X.K (xs.map fun x => (kf x, vf x))) := by
  obtain ⟨wi, PW, ri⟩ := hi
  refine EvE.of (pe_dc (g := gB X scope tg) (tt := tYes) (tk := eB X scope kx) (tv := eB X scope vx) hcl hN PW ok (fun _ _ _ _ _ => ⟨fun pins s σ H v u Q I r h => h _ _ _ _ _ pins s u I r⟩) (fun _ _ _ _ _ => pts_nil) (fun _ _ _ _ _ => ⟨fun pins s σ H Q I h => h _ _ _ _ _ pins s I⟩) (fun _ _ _ _ _ => ⟨fun pins s σ H Q I h => h _ _ _ _ _ pins s I⟩) hs) fun σ F H Q g q => ?_
  refine ri σ F H g _ fun J F1 H1 g1 i1 wk => fun Dl hD => ?_
  have nU : ¬ m.U Dl := fun z => m.up F1 H1 Dl i1 z hD
  have f1D : F1 Dl = none := Same.free g1.fh hD
  have G0 : Holds (lost Γ (own.map (·.2))) (wipe σ (own.map (·.2))) F1 := (g.h.mono g1.ff).wipe _
  let pr : α → L2.Key × V := fun x => (Sum.inl (kf x), V.int (vf x))
  let Inv1 : Nat → Hp → Prop := fun i H' => ∃ F', Gr m.U F1 H1 F' H' ∧ F' Dl = none ∧ m.I F' H' ∧ H' Dl = some (.dK ((xs.take i).map pr))
  have stepI : ∀ F' H' (o : HO), m.I F' H' → m.I F' (upd H' Dl o) := fun F' H' o h => m.loc F' H' _ (fun b hb => upd_ne (fun z => nU (by rw [← z]; exact hb))) h
  refine ⟨fun i k H' => k = xs.length - i ∧ i ≤ xs.length ∧ Inv1 i H', ⟨xs.length, rfl, Nat.zero_le _, F1, gr_upd (Gr.refl g1.fh) hD f1D, f1D, stepI _ _ _ i1, upd_same⟩, ?_⟩
  rintro i k H' ⟨rfl, hin, F', gr, fD, iI, hacc⟩
  by_cases hlt : i < xs.length
  · refine .inr ⟨wk.go F' H' gr.ff gr.fh iI i hlt, fun H2 => i + 1 ≤ xs.length ∧ Inv1 (i + 1) H2, fun H2 h => ⟨xs.length - (i + 1), by omega, rfl, h.1, h.2⟩, fun x H2 hy => ?_⟩
    obtain ⟨F2, gr2, px⟩ := wk.yld F' H' gr.ff gr.fh iI i x H2 hlt hy
    have hxi : xs[i]? = some xs[i] := by simp [hlt]
    have hmem : xs[i] ∈ xs := List.getElem_mem hlt
    have I2 : m.I F2 H2 := m.st _ _ _ _ gr2 iI
    have gdw : Good m (lost Γ (own.map (·.2))) (wipe σ (own.map (·.2))) F2 H2 := ⟨gr2.fh, I2, (G0.mono gr.ff).mono gr2.ff⟩
    have etake : xs.take (i + 1) = xs.take i ++ [xs[i]] := by rw [List.take_succ, hxi] <;> rfl
    intro s0 H0 C cl fp
    refine ht i _ hxi s0 H0 C cl fp _ F2 H2 x gdw px _ fun σ3 F3 H3 gr3 gd3 hw => ?_
    refine ⟨(hw _ hj).trans wipe_wipe, ?_⟩
    have fD2 : F2 Dl = none := gr2.nw Dl fD (by rw [hacc]; simp)
    have hacc2 := gr2.hh Dl _ (fun z => z) hacc
    have fD3 : F3 Dl = none := gr3.nw Dl fD2 (by rw [hacc2]; simp)
    have hacc3 := gr3.hh Dl _ (fun z => z) hacc2
    show eB X scope kx σ3 H3 (fun y H4 => eB X scope vx σ3 H4 fun z H5 => ∃ kvs k, y = kV k ∧ H5 Dl = some (.dK kvs) ∧ kvs.length < sizeLine ∧ (i + 1 ≤ xs.length ∧ Inv1 (i + 1) (upd H5 Dl (.dK (putK kvs k z)))))
    intro s0 H0 C cl fp
    refine hk _ hmem s0 H0 C cl fp σ3 F3 H3 gd3 _ fun y F4 H4 gr4 i4 py => ?_
    have fD4 : F4 Dl = none := gr4.nw Dl fD3 (by rw [hacc3]; simp)
    have hacc4 := gr4.hh Dl _ nU hacc3
    intro s0 H0 C cl fp
    refine hv _ hmem s0 H0 C cl fp σ3 F4 H4 (gd3.next gr4 i4) _ fun z F5 H5 gr5 i5 pz => ?_
    have fD5 : F5 Dl = none := gr5.nw Dl fD4 (by rw [hacc4]; simp)
    have hacc5 := gr5.hh Dl _ nU hacc4
    refine ⟨_, Sum.inl (kf xs[i]), DAt.i py, hacc5, ?_, hlt, F5, gr_upd (((((gr.trans gr2.weak).trans gr3.weak)).trans gr4).trans gr5) hD fD5, fD5, stepI _ _ _ i5, ?_⟩
    · rw [List.length_map, List.length_take]
      exact Nat.lt_of_le_of_lt (Nat.le_trans (Nat.min_le_right _ _) hn) (by decide)
    · rw [upd_same, etake, List.map_append, DAt.i pz, putK_new]
      · rfl
      · intro p hp e
        obtain ⟨x, hx, rfl⟩ := List.mem_map.mp hp
        have e : kf x = kf xs[i] := Sum.inl.inj e
        obtain ⟨j, hj⟩ := List.mem_iff_getElem?.mp hx
        rw [List.getElem?_take] at hj
        by_cases hji : j < i
        · rw [if_pos hji] at hj
          have h1 : (xs.map kf)[j]? = some (kf x) := by rw [List.getElem?_map, hj] <;> rfl
          have h2 : (xs.map kf)[i]? = some (kf x) := by rw [List.getElem?_map, hxi, e] <;> rfl
          have := (List.getElem?_inj (List.getElem?_eq_some_iff.mp h1).1 hd).mp (h1.trans h2.symm)
          omega
        · rw [if_neg hji] at hj
          cases hj
  · have e : i = xs.length := by omega
    subst e
    refine .inl ⟨wk.stop F' H' gr.ff gr.fh iI, q _ (upd F' Dl _) H' (g1.trans (gr_fin gr hD hacc fD)) (m.add F' H' Dl _ nU fD iI) ⟨Dl, _, rfl, upd_same, ?_⟩⟩
    rw [List.take_length]
    exact kn_of xs
end
end R60

set_option Elab.async false
set_option linter.all false
set_option maxRecDepth 100000
set_option maxHeartbeats 4000000
namespace PySem.EnT
open PySem.AutoSeq1 (wpAny_loadPart')
/-- enumerate(t), t a tuple: its new objects -/
theorem new_of (a : Addr) (xs : Array Value) (k : Nat) (dd : Option Addr) (slo : Array (Option Value)) :
    Meets (Builtin.«enumerate.__new__» ⟨[.type "enumerate", .ref a], []⟩) (fun _ R s => s.heap.get? a = some { cls := .type "tuple", dict := dd, data := .seq xs k, slots := slo } ∧
      R (.ok (.ret (.ref (s.heap.push { cls := .type "tuple_iterator", data := .fields #[.ref a, .int 0 0] }).objs.size)))
        { s with heap := (s.heap.push { cls := .type "tuple_iterator", data := .fields #[.ref a, .int 0 0] }).push { cls := .type "enumerate", data := .fields #[.none, .bool false, .ref s.heap.objs.size, rawInt 0, .none, .none] } }) :=
  .of_wp fun prog w A R s hyp => by
    obtain ⟨hp, g, dr, tk, os⟩ := s
    obtain ⟨ha, goal⟩ := hyp
    have sb := sub_enumerate
    have tup : Heap.IsTuple (Shared.heap ⟨hp, g, dr, tk, os⟩) a xs := ⟨_, ha, rfl, k, rfl⟩
    wp_walk using wpAny_loadPart' ha
    refine wpAny_stack_any fun stk => wpAny_pure ?_
    split
    · rename_i cc _ _ _ _ _
      cases (cc == Value.type "enumerate") <;>
      · wp_walk using wpAny_loadPart' ha, wpAny_pyIter_tuple tup
        exact ⟨_, rfl, goal⟩
    · wp_walk using wpAny_loadPart' ha, wpAny_pyIter_tuple tup
      exact ⟨_, rfl, goal⟩
section
variable {prog : Program} {w : World} {A : Around} {E : Value → Shared → Prop} {s : Shared}
theorem call_of {a : Addr} {xs : Array Value} {Q : Value → Shared → Prop} (tup : s.heap.IsTuple a xs)
    (goal : ∀ h2, IsEnum h2 (s.heap.objs.size + 1) s.heap.objs.size 0 .none → h2.IsTupleIter s.heap.objs.size a 0 → (∀ b o, s.heap.get? b = some o → h2.get? b = some o) → Q (.ref (s.heap.objs.size + 1)) { s with heap := h2 }) :
    wpAny (model prog w) A (call (.type "enumerate") [.ref a]) Q E s := by
  obtain ⟨⟨oc, odd, odt, osl⟩, g1, g2, k, g3⟩ := tup
  have g2 : oc = .type "tuple" := g2
  have g3 : odt = .seq xs k := g3
  subst g2 g3
  refine callType_new F.called_enumerate (by decide) (F.typeCall_enumerate_1 _) (F.newCall_enumerate_1 _) (fun obj => F.args_object_init_2 obj _) F.entry_enumerate_new (new_of a xs k odd osl) ⟨g1, ?_⟩
  have sz := Heap.size_push s.heap ({ cls := .type "tuple_iterator", data := .fields #[.ref a, .int 0 0] } : Obj)
  have en := Heap.get?_push_size (s.heap.push { cls := .type "tuple_iterator", data := .fields #[.ref a, .int 0 0] }) (o := { cls := .type "enumerate", data := .fields #[.none, .bool false, .ref s.heap.objs.size, rawInt 0, .none, .none] }) rfl
  show _ ∧ _
  rw [sz] at en ⊢
  exact ⟨⟨_, en, rfl⟩, goal _ en ⟨_, Heap.get?_push_of_some _ (Heap.get?_push_size _ rfl), rfl, rfl⟩ fun b o z => Heap.get?_push_of_some _ (Heap.get?_push_of_some _ z)⟩
end
end PySem.EnT
namespace R60
open PySem PySem.Spec PyProof.Rows L2
/-- the empty tuple at a: nothing is walked -/
def ItE (K : PySem.W.Frag) (a : Addr) : It := ⟨fun _ _ => False, fun _ _ _ _ => False, fun _ H => SqT K H a []⟩
theorem turn_enum0 {P : Program} {w : World} {K : PySem.W.Frag} {tg : Expr} (a e it : Addr) (hne : e ≠ it) : Turn P w K tg (ItE K a) [e, it] e (fun _ h => IsEnum h e it 0 .none ∧ h.IsTupleIter it a 0) where
  mem := List.mem_cons_self
  obj := fun i h ⟨h1, ⟨o, h2, h3, h4⟩⟩ b hb => by
    rcases List.mem_cons.mp hb with rfl | hb
    · exact ⟨_, h1, fun v z => nomatch z⟩
    · rw [List.mem_singleton.mp hb]
      exact ⟨o, h2, fun v z => by rw [h4] at z; cases z⟩
  keep := fun i h h' ⟨h1, h2⟩ k => ⟨k e List.mem_cons_self _ h1, h2.at fun o z => k it (List.mem_cons_of_mem _ (List.mem_singleton.mpr rfl)) o z⟩
  item := fun X _ _ _ _ i pins s σ H E I hf st hg => hg.elim
  done := fun X hP hw hK hc i pins s σ H E I hf st hg => by
    subst hP hw hK
    obtain ⟨h1, h2⟩ := st
    obtain ⟨its, rv, h3, _⟩ := I.tuple (show SqT X.K H a [] from hg)
    cases rv
    have ha : a ≠ it := by
      intro z
      obtain ⟨o, q1, q2, _⟩ := h2
      obtain ⟨o', q3, q4, _⟩ := h3
      rw [z, q1] at q3
      cases q3
      rw [q2] at q4
      exact absurd (Value.type.inj q4) (by decide)
    refine wpAny_pyNext_enum_endD (Draws.tuple (A := X.A.in1) (I.ok.hd hc) it a ha #[]) h1 ⟨h2, h3⟩ fun h' eb => ⟨rfl, ?_⟩
    obtain ⟨f0, f1, f2, f3, f4, f5⟩ := hf it (List.mem_cons_of_mem _ (List.mem_singleton.mpr rfl))
    exact I.turned (t' := s.toks) (fun b o hb z => eb b o hb z) f0 f1 f3 f4 f5
  self := fun A i s Q E ⟨h1, _⟩ q => wpAny_pyIter_enum h1 q
def iEnum0 (K : PySem.W.Frag) (ta : TA) : TI := fun σ H R => ta σ H fun vs H1 => ∃ a, vs = [.ref a] ∧ SqT K H1 a [] ∧ R (ItE K a) H1
theorem pi_enum0 {X : Cx} {tg e : Expr} {ta : TA} {p pos : Pos} (hg : Gl X "enumerate") (hm : X.mg "enumerate" = none) (ha : PA X [e] ta) (hs : starEach [e] X.env = [(false, eval e X.env)] := by rfl) : PI X tg (.Call (.Name "enumerate" p) [e] [] pos) (iEnum0 X.K ta) := by
  refine ⟨fun pins s σ H R I h => Call_ (ld_blt I hg hm boot_enumerate (PyProof.Rows.callWith_type1 (thn (ha.run pos pins s σ H _ I h) fun us s1 ⟨vs, H1, I1, r1, a, ex, hq, q⟩ => ?_) hs rfl))⟩
  subst ex
  obtain rfl := Vals.ref1 r1
  obtain ⟨its, rv, h3, _⟩ := I1.tuple hq
  refine PySem.EnT.call_of (show s1.heap.IsTuple a its.toArray from h3) fun h2 e1 e2 kp => wpAny_pyIter_enum e1 ?_
  refine ⟨s1.heap.objs.size + 1, [s1.heap.objs.size + 1, s1.heap.objs.size], _, _, H1, rfl, I1.kept (t' := s1.toks) kp, turn_enum0 a _ _ (Nat.succ_ne_self _), ⟨e1, e2⟩, fun b hb => ?_, q⟩
  have le : s1.heap.objs.size ≤ b := by
    rcases List.mem_cons.mp hb with rfl | hb
    · exact Nat.le_succ _
    · rw [List.mem_singleton.mp hb]
      exact Nat.le_refl _
  exact I1.fpOk le (I1.hok.fresh le)
section
variable {X : Cx} {m : Mu} {E : XK} {Γ : Gam} {e : Expr} {pos p tpos : Pos}
theorem i_enum0 {α : Type} {tg a : Expr} {Y : Nat → Ty} (hm : X.mg "enumerate" = none) (h : EvE X m Γ a (Is X.K (.tup []))) (hg : Gl X "enumerate" := by rfl) (hs : starEach [a] X.env = [(false, eval a X.env)] := by rfl) :
    PIx X m Γ tg (.Call (.Name "enumerate" p) [a] [] pos) ([] : List α).length Y :=
  ⟨_, pi_enum0 hg hm semA hs, fun σ F H g R q => (show EvA X m Γ [a] [Is X.K (.tup [])] from a_cons h a_nil hs) σ F H g _ fun vs F1 H1 g1 i1 p1 => by
    obtain ⟨v, rfl, p2⟩ := one_of p1
    obtain ⟨a, xs, rfl, h2, h3⟩ := DAt.t p2
    obtain rfl := h3.nl
    refine ⟨a, rfl, ex_sqt g1.fh h2, q _ F1 H1 g1 i1 ⟨fun F' H' a1 a2 aI i hi => absurd hi (Nat.not_lt_zero _), fun F' H' a1 a2 aI => ex_sqt a2 (ex_sqt a1 h2), fun F' H' a1 a2 aI i x H2 hi => absurd hi (Nat.not_lt_zero _)⟩⟩⟩
theorem e_listT {ds : List D} (hm : X.mg "list" = none) (ha : EvE X m Γ e (Is X.K (.tup ds))) (hg : Gl X "list" := by rfl) (hs : starEach [e] X.env = [(false, eval e X.env)] := by rfl) (hpl : (backTo pos (starEach [] X.env)).any (·.1) = false := by rfl) : EvE X m Γ (.Call (.Name "list" p) [e] [] pos) (Is X.K (.lst ds)) :=
  e_bty call_list_of hm (a_cons ha a_nil hs) (fun vs F H Q ex h q => by
    obtain ⟨v, rfl, p1⟩ := one_of h
    obtain ⟨a, xs, rfl, h2, h3⟩ := DAt.t p1
    refine ⟨a, xs, rfl, .inr (ex_sqt ex h2), fun p hp => ?_⟩
    have gn : Gr0 F H (upd F p (.lst xs)) (upd H p (.lst xs)) := Gr.new ex hp
    exact q _ _ _ gn (.lst upd_same (h3.mono gn.ff) .nil)) (by decide +kernel) hg (by decide) (by decide) hs hpl
theorem go_fldX {α : Type} {o : Expr} {rest : List Stmt} {D : Ends} {σ : L2.St} {F H : Hp} {pos' : Pos} {C x dx : Addr} {fs : List (Str × V)} {f : Str} {value : Expr} {ov : Except Str α} {encv : α → Ty} (hc : Cls X.K C) (hn : NoAttr X.K C f) (hv : EvX X m0 E Γ value ov encv) (ho : EvE X m0 Γ o (Vl (.ref x))) (g : Good m0 Γ σ F H) (hx : H x = some (.ins C dx fs)) (hl : fs.length < 900)
    (k2 : ∀ z, ov = .error z → ∀ C d F' H', Gr0 F H F' H' → ErrM X.K X.mg C → H' d = some (errD z) → E (.ref C) (some d) H') (k1 : ∀ a, ov = .ok a → ∀ v F' H', Gr0 F H F' H' → (encv a).p v F' → tSemS X rest D σ (upd H' x (.ins C dx (putF f v fs))))
    (hs : swapsWith value (some (.Attribute o f pos')) pos.line X.env = pure false := by rfl) : tSemS X (.Assign [.Attribute o f pos'] value pos :: rest) D σ H := fun pins s I =>
  (pss_cons (ps_fld sem sem hs) semS).run pins s σ H D I (hv σ F H g _ (by
    cases hov : ov with
    | ok a => exact fun v F1 H1 g1 i1 p1 => ho σ F1 H1 (g.next g1 i1) _ fun u F2 H2 g2 i2 p2 => ⟨x, C, dx, fs, p2, g2.hh _ _ (fun z => z) (g1.hh _ _ (fun z => z) hx), hc, hn, by omega, k1 a hov v F2 H2 (Gr.trans g1 g2) ((encv a).mono _ _ _ g2.ff p1)⟩
    | error z => exact fun C d F1 H1 g1 i1 e1 e2 => k2 z hov C d F1 H1 g1 e1 e2))
end
end R60

set_option Elab.async false
set_option pp.maxSteps 400
set_option linter.all false
set_option maxRecDepth 100000
set_option maxHeartbeats 4000000
namespace R60
open PySem PySem.Spec PyProof.Rows L2
/-! ### new lists that may be changed -/
def spN {ι : Type} (Ts : ι → List Ty) (Ps : ι → List Ty) : Sp := fun vs H Q _ => ∃ i F, Ex F H ∧ HoldsA (Ts i) vs F ∧ NewL m0 F H Q (Ps i)
section
variable {X : Cx} {m : Mu} {E : XK} {Γ : Gam} {e c o elt tg iter : Expr} {P R : Ty} {pos pos' p apos : Pos} {α ι : Type} {scope : Scope} {own : List (Str × Nat)}
theorem n_lcAll {xs : List α} {Y : Nat → Ty} (Γ1 : α → Gam) (js : List Nat) (fx : α → Ty) (hcl : X.calm = true) (hN : X.N.Nodup) (hi : PIx X m Γ tg iter xs.length Y) (hn : xs.length ≤ 100000) (ok : BlkOk X.N X.env.scope scope own)
    (ht : ∀ i x, xs[i]? = some x → ∀ s0 H0 C cl fp, TgT (blkX X scope s0 H0 C cl fp) m tg (Y i) (lost Γ (own.map (·.2))) (Γ1 x) js)
    (he : ∀ x ∈ xs, ∀ s0 H0 C cl fp, EvE (blkX X scope s0 H0 C cl fp) m (Γ1 x) elt (fx x)) (hj : ∀ j ∈ js, j ∈ own.map (·.2) := by decide) (hs : ∀ x, foldedSetIterable iter X.env x = pure x := by intro _; rfl) :
    EvN X m Γ (.ListComp elt [⟨tg, iter, [], 0⟩] scope pos) (xs.map fx) := fun σ F H g Q q => (n_lc Γ1 js (fun _ => true) fx hcl hN hi hn ok .nil hj ht (fun _ _ => rfl) (fun x hx _ => he x hx) hs) σ F H g Q (by
  rw [List.filter_eq_self.mpr (fun _ _ => rfl)]
  exact q)
/-- list(xs), new -/
theorem n_list {Ps : List Ty} (hm : X.mg "list" = none) (ha : EvE X m Γ e (LsT Ps)) (hg : Gl X "list" := by rfl) (hs : starEach [e] X.env = [(false, eval e X.env)] := by rfl) (hpl : (backTo pos (starEach [] X.env)).any (·.1) = false := by rfl) : EvN X m Γ (.Call (.Name "list" p) [e] [] pos) Ps :=
  fun σ F H g Q q pins s I => (pe_callTy call_list_of hg hm (by decide +kernel) semA (by decide) (by decide) hs hpl).run pins s σ H Q I ((a_cons ha a_nil hs) σ F H g _ fun vs F1 H1 g1 i1 p1 => by
    obtain ⟨v, rfl, a, xs, rfl, h2, h3⟩ := one_of p1
    refine ⟨a, xs, rfl, .inl (SqL.of (g1.fh _ _ h2)), fun l hl => ?_⟩
    have gs : Gr0 F1 H1 F1 (upd H1 l (.lst xs)) := Gr.scratch g1.fh hl
    exact q l xs F1 _ (g1.trans gs.weak) (m.st _ _ _ _ gs i1) (g1.dm l hl) (Same.free g1.fh hl) upd_same h3)
theorem n_lst {es : List Expr} {Ps : List Ty} (ha : EvA X m Γ es Ps) (hl : Ps.length ≤ sizeLine) : EvN X m Γ (.List es pos) Ps := fun σ F H g Q q pins s I => (pe_lst semA).run pins s σ H Q I (ha σ F H g _ fun vs F1 H1 g1 i1 p1 => ⟨by rw [p1.len]; exact hl, fun p hp => by
  have gs : Gr0 F1 H1 F1 (upd H1 p (.lst vs)) := Gr.scratch g1.fh hp
  exact q p vs F1 _ (g1.trans gs.weak) (m.st _ _ _ _ gs i1) (g1.dm p hp) (Same.free g1.fh hp) upd_same p1⟩)
variable {Ts Ps : ι → List Ty} {k j : Nat} {C : Addr} {mn : Str}
/-- a method that gives a new list -/
theorem n_meth0 (i : ι) (c : MetX X.prog X.w X.K X.mg X.base k C mn (spN Ts Ps)) (hr : Room j X.A) (hk : k ≤ j) (hR : InsAt C mn R) (h0 : EvE X m0 Γ o R) (hT : Ts i = [R]) {pl : Sem Bool}
    (ht : eval (.Call (.Attribute o mn apos) [] [] pos) X.env = (do
      let ov ← eval o X.env
      standAt apos.atName
      let (f, first) ← holding [ov] (getMethod ov mn pl)
      callWith pos f first (backTo pos (starEach [] X.env)) (backToKw pos (keywordEach [] X.env))) := by rfl) : EvN X m0 Γ (.Call (.Attribute o mn apos) [] [] pos) (Ps i) := fun σ F H g Q q pins s I =>
  (pe_mx0 c hr hk passL sem ht).run pins s σ H Q I (h0 σ F H g _ fun u F1 H1 g1 i1 p1 => by
    obtain ⟨a, dx, fs, rfl, ea, en⟩ := hR.at_ u F1 p1
    exact ⟨a, dx, fs, rfl, g1.fh _ _ ea, en, i, F1, g1.fh, by rw [hT]; exact ⟨p1, trivial⟩, fun a acc F2 H2 g2 i2 h2 f2 l2 p2 => q a acc F2 H2 (Gr.trans g1 g2) trivial (g1.dm a h2) f2 l2 p2⟩)
end
section
variable {X : Cx} {m : Mu} {E : XK} {Γ : Gam} {e c o : Expr} {P R : Ty} {pos pos' p apos : Pos} {rest : List Stmt} {D : Ends} {σ : L2.St} {F H : Hp}
theorem go_setN (i : Nat) {x : Str} {Ps : List Ty} (h : EvN X m Γ e Ps) (g : Good m Γ σ F H) (k : ∀ a acc F' H', Gr m.U F H F' H' → m.I F' H' → H a = none → F' a = none → H' a = some (.lst acc) → HoldsA Ps acc F' → Good m (Γ.set i (some (Vl (.ref a)))) (σ.set i (some (.ref a))) F' H' → tSemS X rest D (σ.set i (some (.ref a))) H')
    (hN : X.N.Nodup) (hi : X.N[i]? = some x := by rfl) (hx : Loc X.env.scope x := by first | exact Or.inl rfl | exact Or.inr rfl)
    (hs : swapsWith e (some (.Name x pos')) pos.line X.env = pure false := by rfl) (hf : X.fn x = true ∨ X.env.scope.names.lookup x = some .local := by first | exact .inl rfl | exact .inr rfl) : tSemS X (.Assign [.Name x pos'] e pos :: rest) D σ H := fun pins s I =>
  (pss_cons (ps_set hN hi hx sem hs hf) semS).run pins s σ H D I (h σ F H g _ fun a acc F1 H1 g1 i1 h0 f0 hl p => k a acc F1 H1 g1 i1 h0 f0 hl p ⟨g1.fh, i1, (g.h.mono g1.ff).set (by
    rw [I.len]
    exact (List.getElem?_eq_some_iff.mp hi).1) rfl⟩)
/-- a[j] = v, a not fixed -/
theorem go_lset {a : Addr} {acc : List V} {j : Nat} {value ix : Expr} {Tv : Ty} (hv : EvE X m0 Γ value Tv) (ho : EvE X m0 Γ o (Vl (.ref a))) (hi : EvE X m0 Γ ix (Is X.K (.int j))) (g : Good m0 Γ σ F H) (hl : H a = some (.lst acc)) (hj : j < acc.length)
    (k : ∀ v F' H', Gr0 F H F' H' → Tv.p v F' → tSemS X rest D σ (upd H' a (.lst (acc.set j v)))) (hs : swapsWithSole [.Subscript o ix pos'] value pos.line X.env = pure false := by rfl) (hw : swappedStores [.Subscript o ix pos'] value X.env = pure none := by rfl)
    (h1 : (assignEach [.Subscript o ix pos'] X.env).map (·.2) = [assign (.Subscript o ix pos') X.env] := by rfl) (hG : PG X (.Subscript o ix pos') (gSub (tSem X o) (tSem X ix) rSetL) := by exact pg_sub sem sem set_list) : tSemS X (.Assign [.Subscript o ix pos'] value pos :: rest) D σ H := fun pins s I =>
  (pss_cons (ps_asg sem hG hs hw h1) semS).run pins s σ H D I (hv σ F H g _ fun v F1 H1 g1 i1 p1 => ho σ F1 H1 (g.next g1 i1) _ fun u F2 H2 g2 i2 p2 => hi σ F2 H2 ((g.next g1 i1).next g2 i2) _ fun w3 F3 H3 g3 i3 p3 =>
    ⟨a, acc, (j : Int), j, p2, DAt.i p3, (Gr.trans (Gr.trans g1 g2) g3).hh _ _ (fun z => z) hl, by
      unfold ixN
      rw [if_pos (by omega), if_pos (by omega)]
      simp, k v F3 H3 (Gr.trans (Gr.trans g1 g2) g3) (Tv.mono _ _ _ (g2.ff.trans g3.ff) p1)⟩)
end
section
variable {P : Program} {w : World} {K : PySem.W.Frag} {mg : Str → Option Value} {base : Heap} {C : Addr} {mn : Str} {k : Nat} {sp sp' : Sp}
theorem MetX.imp (c : MetX P w K mg base k C mn sp) (h : ∀ vs H Q E, sp' vs H Q E → sp vs H Q E) : MetX P w K mg base k C mn sp' := by
  obtain ⟨f, fd, ps, h1, h2, h3, h4⟩ := c
  exact ⟨f, fd, ps, h1, h2, h3, h4.imp h⟩
theorem met_blkN {ι : Type} {Ts Ps : ι → List Ty} {Γ : ι → Gam} {qual : Str} {st : Stmt} {N ps : List Str} (D : DefM K C mn qual st) (S : FnScope N ps (defScope st)) (b : BindH mn qual st ps) (hl : ∀ i, (Ts i).length = ps.length) (hΓ : ∀ i, (Ts i).map some ++ List.replicate (N.length - ps.length) none = Γ i) {e : Expr} {pos : Pos} (hst : defBody st = [.Return (some e) pos])
    (hb : ∀ i f cdv A outer s H E, Room k (cxD P w K mg base qual st N f cdv A outer s H E).A → EvN (cxD P w K mg base qual st N f cdv A outer s H E) m0 (Γ i) e (Ps i)) :
    MetX P w K mg base (k + 1) C mn (spN Ts Ps) := met_of D S b (fun vs H Q E ⟨i, F, _, hA, _⟩ => by rw [hA.len, hl]) (by
  intro f cdv A outer s H vs Q E hr h
  obtain ⟨i, F, ex, hA, c⟩ := h
  refine ⟨_, semS, ?_⟩
  rw [hst]
  refine fun pins s I => (pss_cons (ps_ret sem) semS).run pins s _ H _ I (hb i f cdv A outer _ H E hr (L2.start N vs) F H ⟨ex, trivial, ?_⟩ _ c)
  rw [← hΓ i]
  unfold L2.start
  have e : vs.length = ps.length := by rw [hA.len, hl]
  rw [e]
  exact hA.holds)
theorem spN_imp {ι : Type} {Ts : ι → List Ty} {Ps : ι → List Ty} {o : ι → Except Str Unit} {enc : ι → Unit → Ty} (ho : ∀ i, o i = .ok ()) (he : ∀ i v F, (LsT (Ps i)).p v F → (enc i ()).p v F) : ∀ vs H Q E, spG K mg (fun _ => m0) Ts o enc vs H Q E → spN Ts Ps vs H Q E := fun vs H Q E ⟨i, F, ex, _, hA, c⟩ =>
  ⟨i, F, ex, hA, newL_of trivial fun v F' H' g i' p => by
    rw [ho i] at c
    exact c v F' H' g i' (he i v F' p)⟩
end
end R60

set_option Elab.async false
set_option pp.maxSteps 400
set_option linter.all false
set_option maxRecDepth 100000
set_option maxHeartbeats 4000000
namespace R60
open PySem PySem.Spec PyProof.Rows L2
section
variable {X : Cx} {m : Mu} {E : XK} {Γ Γ' : Gam} {e c o : Expr} {es ts : List Expr} {P R : Ty} {pos pos' p apos : Pos} {α β : Type} {k j : Nat} {x : Str} {sp : Sp} {z : Str} {js : List Nat} {Ts : List Ty}
theorem EvX.toE {a : α} {enc : α → Ty} (h : EvX X m E Γ e (.ok a) enc) : EvE X m Γ e (enc a) := h
theorem EvX.toE' {a : α} {enc : α → Ty} {oe : Except Str α} (h : EvX X m E Γ e oe enc) (ho : oe = .ok a) : EvE X m Γ e (enc a) := by
  subst ho
  exact h
/-- arguments of which one raises -/
theorem e_callErr {Pb : β → List Ty} {enc : α → Ty} (c : CalX X.prog X.w X.K X.mg X.base k x sp) (hr : Room j X.A) (hk : k ≤ j) (hx : Passes (L2.CX X.prog X.w) X E) (ha : EvXA X m E Γ (e :: es) (.error z) Pb) (hg : Gl X x := by rfl)
    (hdb : (x == ("__debug__" : Str)) = false := by decide) (he : starEach (e :: es) X.env = (false, eval e X.env) :: starEach es X.env := by rfl) (hpl : (backTo pos (starEach es X.env)).any (·.1) = false := by rfl) :
    EvX X m E Γ (.Call (.Name x p) (e :: es) [] pos) (.error z) enc :=
  fun σ F H g Q q pins s I => (pe_cx c hr hk hg hx semA hdb he hpl).run pins s σ H Q I (ha σ F H g _ q)
theorem ax_err {enc : β → Ty} {Ps : List Ty} (ha : EvX X m E Γ e (.error z) enc) (hr : EvA X m Γ es Ps) (hs : starEach (e :: es) X.env = (false, eval e X.env) :: starEach es X.env := by rfl) : EvXA X m E Γ (e :: es) (.error z) (fun a => enc a :: Ps) := ax_consX ha hr hs
/-- (a, b, ..) = a list -/
theorem tg_lst {k : Nat} {T : Ty} (hc : X.calm = true) (h : TgTs X m ts Ts Γ Γ' js) (hT : ∀ v F, T.p v F → (LsT Ts).p v F) (hn : (assignEach ts X.env).length = Ts.length := by rfl) (hst : (assignEach ts X.env).findIdx? (·.1) = none := by rfl) :
    TgT X m (.Tuple ts k pos) T Γ Γ' js := fun σ F H v gd p Q q pins s u I r => (pg_unl hc semGs hn hst).run pins s σ H v u Q I r (by
  obtain ⟨a, vs, rfl, h1, h2⟩ := hT v F p
  exact ⟨a, vs, rfl, SqL.of (gd.ex _ _ h1), h2.len, h σ F H vs gd h2 Q q⟩)
theorem tg_lstD {ds : List D} {k : Nat} (hc : X.calm = true) (h : TgTs X m ts (ds.map (Is X.K)) Γ Γ' js) (hn : (assignEach ts X.env).length = (ds.map (Is X.K)).length := by rfl) (hst : (assignEach ts X.env).findIdx? (·.1) = none := by rfl) :
    TgT X m (.Tuple ts k pos) (Is X.K (.lst ds)) Γ Γ' js := tg_lst hc h (fun v F p => is_lst p) hn hst
end
end R60

set_option Elab.async false
set_option pp.maxSteps 400
set_option linter.all false
set_option maxRecDepth 100000
set_option maxHeartbeats 4000000
namespace R60
open PySem PySem.Spec PyProof.Rows L2
section
variable {X : Cx} {m : Mu} {E : XK} {Γ : Gam} {e c o i : Expr} {es : List Expr} {P R : Ty} {pos pos' p apos cpos : Pos} {rest : List Stmt} {D : Ends} {σ : L2.St} {F H : Hp} {α ι : Type} {x : Str} {z : Str} {a : Addr} {k j : Nat}
/-- SIZES.get(z, v) of a written dict -/
theorem e_kget {f : Expr} {s : Int} {d : R60.D} (kd : KDct X.K X.w a z (.int s)) (low : (a == sysModules) = false) (ho : EvE X m Γ o (Vl (.ref a))) (he : EvE X m Γ e (Is X.K (.str z))) (hf : EvE X m Γ f (Is X.K d)) (mm : M2 X o "get" apos e f cpos := by exact ⟨rfl, rfl, rfl, rfl⟩) :
    EvE X m Γ (.Call (.Attribute o "get" apos) [e, f] [] cpos) (Is X.K (.int s)) := by
  obtain ⟨es, n, u, h1, h2, h3, h4⟩ := kd
  exact EvE.of (pe_kget2 ⟨h1, h2, low⟩ sem sem sem mm) fun σ F H Q g q => ho σ F H g _ fun v F1 H1 g1 i1 p1 => ⟨p1, he σ F1 H1 (g.next g1 i1) _ fun v2 F2 H2 g2 i2 p2 => hf σ F2 H2 ((g.next g1 i1).next g2 i2) _ fun v3 F3 H3 g3 i3 p3 =>
    ⟨z, some u, .int s, DAt.s p2, h3, (fun u' e => by cases e; exact h4), (fun e => nomatch e), q _ F3 H3 ((g1.trans g2).trans g3) i3 (.int .nil)⟩⟩
/-- d[z] of a written dict -/
theorem e_kix {v : V} {T : Ty} (kd : KDct X.K X.w a z v) (hT : ∀ F, T.p v F) (ho : EvE X m Γ o (Vl (.ref a))) (he : EvE X m Γ e (Is X.K (.str z))) (hs : PlainIx e := by exact fun _ _ => rfl) : EvE X m Γ (.Subscript o e pos) T :=
  e_ix ix_kdict ho he (fun w u F H Q ex p1 p2 q => ⟨a, z, v, p1, DAt.s p2, kd, q v F H (Gr.refl ex) (hT F)⟩) hs
/-- a def by its address -/
def CalA (P : Program) (w : World) (K : PySem.W.Frag) (mg : Str → Option Value) (base : Heap) (k : Nat) (f : Addr) (sp : Sp) : Prop := ∃ (fd : FuncData) (ps : List Str), PySem.W.keepIn K (.ref f) = true ∧ Binds K fd ps [] ∧ FnOk P w K mg base (L2.CX P w) k f fd ps sp
theorem CalX.at {P : Program} {w : World} {K : PySem.W.Frag} {mg : Str → Option Value} {base : Heap} {sp : Sp} {f : Addr} (c : CalX P w K mg base k x sp) (h : mg x = some (.ref f)) : CalA P w K mg base k f sp := by
  obtain ⟨f', fd, ps, h1, h2, h3, h4⟩ := c
  rw [h] at h1
  cases h1
  exact ⟨fd, ps, h2, h3, h4⟩
/-- a call of the def that slot i holds -/
theorem e_callL {f : Addr} {mi : ι → Mu} {Ts : ι → List Ty} {ff : ι → Except Str α} {enc : ι → α → Ty} {o' : Except Str α} {en' : α → Ty} (n : Nat) (it : ι) (c : CalA X.prog X.w X.K X.mg X.base k f (spG X.K X.mg mi Ts ff enc)) (hr : Room j X.A) (hk : k ≤ j) (hx : Passes (L2.CX X.prog X.w) X E) (sb : Sub (mi it) m) (hΓ : Γ[n]? = some (some (Vl (.ref f)))) (ha : EvA X m Γ (e :: es) (Ts it))
    (hO : ff it = o' := by rfl) (hE : enc it = en' := by rfl) (hN : X.N[n]? = some x := by rfl) (hv : Vis X.env.scope x := by first | exact Or.inl rfl | exact Or.inr (Or.inl rfl) | exact Or.inr (Or.inr rfl)) (hdb : (x == ("__debug__" : Str)) = false := by decide) (hcd : (x == ("__classdict__" : Str)) = false := by decide)
    (he : starEach (e :: es) X.env = (false, eval e X.env) :: starEach es X.env := by rfl) (hpl : (backTo pos (starEach es X.env)).any (·.1) = false := by rfl) : EvX X m E Γ (.Call (.Name x p) (e :: es) [] pos) o' en' := by
  subst hO hE
  obtain ⟨fd, ps, h2, h3, h4⟩ := c
  exact fun σ F H g Q q pins s I => (pe_callL (i := n) h4 (hr.mono hk) hN hv h2 h3 .nil hx semA hdb hcd he hpl).run pins s σ H Q I ⟨by
    obtain ⟨v, e1, e2⟩ := g.h n _ hΓ
    rw [e1, show v = .ref f from e2], ha σ F H g _ fun vs F1 H1 g1 i1 p1 => ⟨it, F1, g1.fh, sb.i _ _ i1, by rw [List.append_nil]; exact p1, (q.later g1).sub sb i1⟩⟩
/-- y = dict(d): new, not yet fixed -/
theorem go_newD (n : Nat) {y : Str} {kts : List (L2.Key × Ty)} {spos : Pos} (hm : X.mg "dict" = none) (ha : EvE X m Γ e (DicT kts)) (g : Good m Γ σ F H)
    (kk : ∀ a vs F' H', Gr m.U F H F' H' → m.I F' H' → H a = none → F' a = none → H' a = some (.dK vs) → KvT kts vs F' → Good m (Γ.set n (some (Vl (.ref a)))) (σ.set n (some (.ref a))) F' H' → tSemS X rest D (σ.set n (some (.ref a))) H') (hN : X.N.Nodup) (hi : X.N[n]? = some y := by rfl) (hx : Loc X.env.scope y := by first | exact Or.inl rfl | exact Or.inr rfl)
    (hg : Gl X "dict" := by rfl) (hsa : starEach [e] X.env = [(false, eval e X.env)] := by rfl) (hpl : (backTo pos (starEach [] X.env)).any (·.1) = false := by rfl)
    (hs : swapsWith (.Call (.Name "dict" p) [e] [] pos) (some (.Name y pos')) spos.line X.env = pure false := by rfl) (hf : X.fn y = true ∨ X.env.scope.names.lookup y = some .local := by first | exact .inl rfl | exact .inr rfl) : tSemS X (.Assign [.Name y pos'] (.Call (.Name "dict" p) [e] [] pos) spos :: rest) D σ H := fun pins s I =>
  (pss_cons (ps_set hN hi hx (pe_callTy call_dictD hg hm (by decide +kernel) semA (by decide) (by decide) hsa hpl) hs hf) semS).run pins s σ H D I ((a_cons ha a_nil hsa) σ F H g _ fun vs F1 H1 g1 i1 p1 => by
    obtain ⟨v, rfl, a, xs, rfl, h2, h3⟩ := one_of p1
    refine ⟨a, xs, rfl, .inl (g1.fh _ _ h2), fun l hl => ?_⟩
    have gs : Gr0 F1 H1 F1 (L2.upd H1 l (.dK xs)) := Gr.scratch g1.fh hl
    exact kk l xs F1 _ (g1.trans gs.weak) (m.st _ _ _ _ gs i1) (g1.dm l hl) (Same.free g1.fh hl) upd_same h3 ⟨gs.fh, m.st _ _ _ _ gs i1, (g.h.mono g1.ff).set (by
      rw [I.len]
      exact (List.getElem?_eq_some_iff.mp hi).1) rfl⟩)
/-- d[k] = v, v may raise, d not fixed -/
theorem go_dputX {value : Expr} {vs : List (L2.Key × V)} {ky : L2.Key} {ov : Except Str α} {encv : α → Ty} (hr : Room j X.A) (hv : EvX X m0 E Γ value ov encv) (ho : EvE X m0 Γ o (Vl (.ref a))) (hi : EvE X m0 Γ i (Is X.K (keyD ky))) (g : Good m0 Γ σ F H) (hd : H a = some (.dK vs)) (hl : vs.length ≤ 1000)
    (k2 : ∀ z, ov = .error z → ∀ C d F' H', Gr0 F H F' H' → ErrM X.K X.mg C → H' d = some (errD z) → E (.ref C) (some d) H') (k1 : ∀ r, ov = .ok r → ∀ v F' H', Gr0 F H F' H' → (encv r).p v F' → tSemS X rest D σ (L2.upd H' a (.dK (putK vs ky v))))
    (hs : swapsWith value (some (.Subscript o i pos')) pos.line X.env = pure false := by rfl) : tSemS X (.Assign [.Subscript o i pos'] value pos :: rest) D σ H := fun pins s I =>
  (pss_cons (ps_dput (hu_of hr) sem sem sem hs) semS).run pins s σ H D I (hv σ F H g _ (by
    cases hov : ov with
    | error z => exact fun C d F1 H1 g1 i1 e1 e2 => k2 z hov C d F1 H1 g1 e1 e2
    | ok r => exact fun v F1 H1 g1 i1 p1 => ho σ F1 H1 (g.next g1 i1) _ fun u F2 H2 g2 i2 p2 => hi σ F2 H2 ((g.next g1 i1).next g2 i2) _ fun w3 F3 H3 g3 i3 p3 => ⟨a, _, p2, by
      rw [key_v p3]
      exact DPut.k ((Gr.trans (Gr.trans g1 g2) g3).hh _ _ (fun z => z) hd) (Nat.lt_of_le_of_lt hl (by decide)), k1 r hov v F3 H3 (Gr.trans (Gr.trans g1 g2) g3) ((encv r).mono _ _ _ (g2.ff.trans g3.ff) p1)⟩))
/-- d.pop(k), it is there -/
theorem go_dpop {vs : List (L2.Key × V)} {ky : L2.Key} {v : V} {spos : Pos} (ho : EvE X m0 Γ o (Vl (.ref a))) (he : EvE X m0 Γ e (Is X.K (keyD ky))) (g : Good m0 Γ σ F H) (hd : H a = some (.dK vs)) (hv : valV vs ky = some v) (k1 : ∀ F' H', Gr0 F H F' H' → tSemS X rest D σ (L2.upd H' a (.dK (dropK vs ky))))
    (mm : M1 X o "pop" apos e cpos := by exact ⟨rfl, rfl, rfl, rfl⟩) (hs : swapsWith (.Call (.Attribute o "pop" apos) [e] [] cpos) none spos.line X.env = pure false := by rfl) : tSemS X (.Expr (.Call (.Attribute o "pop" apos) [e] [] cpos) spos :: rest) D σ H := fun pins s I =>
  (pss_cons (ps_expr (pe_dpop1 sem sem mm) hs) semS).run pins s σ H D I (ho σ F H g _ fun u F1 H1 g1 i1 p1 => ⟨a, p1, .inl ⟨vs, .inl (g1.hh _ _ (fun z => z) hd)⟩, he σ F1 H1 (g.next g1 i1) _ fun w2 F2 H2 g2 i2 p2 =>
    ⟨vs, ky, v, (Gr.trans g1 g2).hh _ _ (fun z => z) hd, key_v p2, hv, k1 F2 H2 (Gr.trans g1 g2)⟩⟩)
end
end R60

set_option Elab.async false
set_option linter.all false
set_option maxRecDepth 100000
set_option maxHeartbeats 4000000
namespace PySem.ZsT
open PySem.Sem (wp)
/-- a zip that minds the lengths -/
abbrev Zs (h : Heap) (zz ti to : Addr) (slot : Value) : Prop := h.get? zz = some { cls := .type "zip", dict := none, data := .fields #[slot, .bool false, .bool true, .ref ti, .ref to], slots := #[] }
section
variable {prog : Program} {w : World} {A : Around} {E : Value → Shared → Prop} {s : Shared} {zz ti to i1 i2 l1 l2 : Addr} {n : Nat} {xs ys : Array Value} {p0 q0 : Value}
theorem draw_some {M : Model} {it : Value} {Q : Option Value → Shared → Prop} (h : wpAny M A (Builtin.SmallTypes.nextOf it) (fun v s1 => Q (some v) s1) (fun _ _ => False) s) : wpAny M A (Builtin.SmallTypes.nextOrEnd it) Q E s := by
  unfold Builtin.SmallTypes.nextOrEnd
  exact wpAny_bind (wpAny_attempt (wpAny_mono h (fun v s1 q => wpAny_pure q) fun _ _ q => q.elim))
theorem draw_none {it : Value} {Q : Option Value → Shared → Prop} (h : wpAny (model prog w) A (Builtin.SmallTypes.nextOf it) (fun _ _ => False) (fun e s1 => (∃ a, e = .ref a ∧ ∃ o, s1.heap.get? a = some o ∧ o.cls = .type "StopIteration") ∧ Q none s1) s) : wpAny (model prog w) A (Builtin.SmallTypes.nextOrEnd it) Q E s := by
  unfold Builtin.SmallTypes.nextOrEnd
  refine wpAny_bind (wpAny_attempt (wpAny_mono h (fun _ _ q => q.elim) fun e s1 ⟨⟨a, ea, o, ho, hc⟩, q⟩ => ?_))
  subst ea
  exact wpAny_bind (wpAny_isInstance (T := "StopIteration") (b := true) ⟨o, ho, hc⟩ isSubtype_stop (wpAny_pure q))
theorem setF {slot v : Value} {Q : Unit → Shared → Prop} (hz : Zs s.heap zz ti to slot) (hQ : ∀ h1, Zs h1 zz ti to v → Heap.SameBut zz s.heap h1 → Q () { s with heap := h1 }) : wpAny (model prog w) A (setField (.ref zz) 0 v) Q E s :=
  by
  refine wpAny_setField_rec hz ?_ fun h1 a b => ?_
  rotate_left
  exact hQ h1 a b
  show _ < 5
  decide
theorem setG {slot v : Value} {Q : Unit → Shared → Prop} (hz : Zs s.heap zz ti to slot) (hQ : ∀ h1, Zs h1 zz ti to slot → Heap.SameBut zz s.heap h1 → Q () { s with heap := h1 }) : wpAny (model prog w) A (setField (.ref zz) 1 (.bool false)) Q E s :=
  by
  refine wpAny_setField_rec hz ?_ fun h1 a b => ?_
  rotate_left
  exact hQ h1 a b
  show _ < 5
  decide
theorem step_item {x y : Value} {Q : Value → Shared → Prop} (D : ZipApart zz ti to i1 i2 l1 l2) (hz : Zs s.heap zz ti to .none) (hti : IsPair s.heap ti (.ref i1) (.ref i2)) (hto : IsPair s.heap to p0 q0)
    (j1 : s.heap.IsListIter i1 l1 n) (j2 : s.heap.IsTupleIter i2 l2 n) (k1 : s.heap.IsList l1 xs) (k2 : s.heap.IsTuple l2 ys) (hx : xs[n]? = some x) (hy : ys[n]? = some y)
    (hQ : ∀ h1, Zs h1 zz ti to (rawInt s.heap.objs.size) → IsPair h1 to x y → h1.IsListIter i1 l1 (n + 1) → h1.IsTupleIter i2 l2 (n + 1) → IsPair h1 s.heap.objs.size x y →
      (∀ c o, c ≠ zz → c ≠ to → c ≠ i1 → c ≠ i2 → s.heap.get? c = some o → h1.get? c = some o) → Q (.ref s.heap.objs.size) { s with heap := h1 }) :
    wpAny (model prog w) A (Builtin.«zip.__next__» ⟨[.ref zz], []⟩) (fun fin s1 => ∃ v, fin = .done (.ret v) ∧ Q v s1) E s := by
  show wpAny _ _ (field (.ref zz) 2 >>= _) _ _ _
  refine wpAny_bind (wpAny_field hz rfl (x := .bool true) rfl ?_)
  show wpAny _ _ (field (.ref zz) 3 >>= _) _ _ _
  refine wpAny_bind (wpAny_field hz rfl (x := .ref ti) rfl (wpAny_bind (wpAny_seqItems hti rfl ?_)))
  show wpAny _ _ (Builtin.SmallTypes.ownedTupleIsFree (.ref zz) >>= _) _ _ _
  refine wpAny_bind ?_
  unfold Builtin.SmallTypes.ownedTupleIsFree
  refine wpAny_bind (wpAny_field hz rfl (x := .none) rfl (wpAny_pure ?_))
  simp only [if_true]
  refine wpAny_bind (wpAny_rule (wpAny_bind (wpAny_field hz rfl (x := .ref to) rfl (wpAny_bind (setF hz fun g1 z1 b1 => ?_)))))
  refine wpAny_bind ?_
  simp only [List.zipIdx_cons, List.zipIdx_nil, List.forIn_cons, List.forIn_nil]
  refine wpAny_bind (wpAny_bind (wpAny_onRaise ?_))
  show wpAny _ _ (Builtin.SmallTypes.nextOrEnd (.ref i1)) _ _ _
  refine draw_some (wpAny_nextOf_list_item (j1.extBut b1.extBut D.i1z) (k1.extBut b1.extBut D.l1z) hx fun g2 m1 b2 => ?_)
  have o2 : IsPair g2 to p0 q0 := b2.extBut _ _ D.TOi1 (b1.extBut _ _ D.TOz hto)
  refine wpAny_bind (wpAny_seqItems o2 rfl (wpAny_bind (wpAny_updateSeq_pair o2 fun g3 o3 b3 => ?_)))
  replace o3 : IsPair g3 to x q0 := o3
  refine wpAny_bind (wpAny_letGo (wpAny_pure ?_))
  refine wpAny_bind (wpAny_bind (wpAny_onRaise ?_))
  show wpAny _ _ (Builtin.SmallTypes.nextOrEnd (.ref i2)) _ _ _
  refine draw_some (RZ.nextOf_tuple_item (((j2.extBut b1.extBut D.i2z).extBut b2.extBut D.i12.symm).extBut b3.extBut D.TOi2.symm) (((k2.extBut b1.extBut D.l2z).extBut b2.extBut D.l2i1).extBut b3.extBut D.l2TO) hy fun g4 m2 b4 => ?_)
  have o4 : IsPair g4 to x q0 := b4.extBut _ _ D.TOi2 o3
  refine wpAny_bind (wpAny_seqItems o4 rfl (wpAny_bind (wpAny_updateSeq_pair o4 fun g5 o5 b5 => ?_)))
  replace o5 : IsPair g5 to x y := o5
  refine wpAny_bind (wpAny_letGo (wpAny_pure (wpAny_pure ?_)))
  refine wpAny_bind (wpAny_seqItems o5 rfl (wpAny_bind (wpAny_newTuple ?_)))
  have sz : g5.objs.size = s.heap.objs.size := by rw [b5.1, b4.1, b3.1, b2.1, b1.1]
  have z5 : Zs g5 zz ti to .ellipsis := b5.extBut _ _ D.TOz.symm (b4.extBut _ _ D.i2z.symm (b3.extBut _ _ D.TOz.symm (b2.extBut _ _ D.i1z.symm z1)))
  have old : ∀ c o, c ≠ zz → c ≠ to → c ≠ i1 → c ≠ i2 → s.heap.get? c = some o → g5.get? c = some o := fun c o a1 a2 a3 a4 e =>
    b5.extBut _ _ a2 (b4.extBut _ _ a4 (b3.extBut _ _ a2 (b2.extBut _ _ a3 (b1.extBut _ _ a1 e))))
  have f1 : g5.IsListIter i1 l1 (n + 1) := ((m1.extBut b3.extBut D.TOi1.symm).extBut b4.extBut D.i12).extBut b5.extBut D.TOi1.symm
  have f2 : g5.IsTupleIter i2 l2 (n + 1) := m2.extBut b5.extBut D.TOi2.symm
  have lz : zz < g5.objs.size := Heap.lt_size z5
  show wpAny _ _ (Builtin.SmallTypes.ownedTupleHandOut (.ref zz) (.ref g5.objs.size) >>= _) _ _ _
  refine wpAny_bind ?_
  unfold Builtin.SmallTypes.ownedTupleHandOut
  refine wpAny_bind (setF (slot := .ellipsis) (Heap.get?_push_of_some _ z5) fun g7 z7 b7 => setG (v := .none) z7 fun g8 z8 b8 => ?_)
  have up : ∀ c o, c ≠ zz → g5.get? c = some o → g8.get? c = some o := fun c o a e => b8.extBut _ _ a (b7.extBut _ _ a (Heap.get?_push_of_some _ e))
  have t8 : IsPair g8 g5.objs.size x y := b8.extBut _ _ (Nat.ne_of_gt lz) (b7.extBut _ _ (Nat.ne_of_gt lz) (Heap.get?_push_size _ rfl))
  rw [sz] at t8
  refine wpAny_pure ⟨_, rfl, ?_⟩
  show Q (.ref g5.objs.size) { s with heap := g8 }
  rw [sz]
  refine hQ g8 ?_ (up _ _ D.TOz o5) (f1.at fun o e => up _ o D.i1z e) (f2.at fun o e => up _ o D.i2z e) t8 fun c o a1 a2 a3 a4 e => up c o a1 (old c o a1 a2 a3 a4 e)
  have z8 : Zs g8 zz ti to (rawInt g5.objs.size) := z8
  rw [sz] at z8
  exact z8
theorem step_end {Q : PySem.Fin → Shared → Prop} (hh : A.handled = none) (D : ZipApart zz ti to i1 i2 l1 l2) (hz : Zs s.heap zz ti to .none) (hti : IsPair s.heap ti (.ref i1) (.ref i2)) (hto : IsPair s.heap to p0 q0)
    (j1 : s.heap.IsListIter i1 l1 n) (j2 : s.heap.IsTupleIter i2 l2 n) (k1 : s.heap.IsList l1 xs) (k2 : s.heap.IsTuple l2 ys) (hx : xs[n]? = none) (hy : ys[n]? = none)
    (hE : ∀ h1 e, (∀ c o, c ≠ zz → c ≠ to → c ≠ i1 → c ≠ i2 → s.heap.get? c = some o → h1.get? c = some o) → (∃ o, h1.get? e = some o ∧ o.cls = .type "StopIteration") → E (.ref e) { s with heap := h1 }) :
    wpAny (model prog w) A (Builtin.«zip.__next__» ⟨[.ref zz], []⟩) Q E s := by
  show wpAny _ _ (field (.ref zz) 2 >>= _) _ _ _
  refine wpAny_bind (wpAny_field hz rfl (x := .bool true) rfl ?_)
  show wpAny _ _ (field (.ref zz) 3 >>= _) _ _ _
  refine wpAny_bind (wpAny_field hz rfl (x := .ref ti) rfl (wpAny_bind (wpAny_seqItems hti rfl ?_)))
  show wpAny _ _ (Builtin.SmallTypes.ownedTupleIsFree (.ref zz) >>= _) _ _ _
  refine wpAny_bind ?_
  unfold Builtin.SmallTypes.ownedTupleIsFree
  refine wpAny_bind (wpAny_field hz rfl (x := .none) rfl (wpAny_pure ?_))
  simp only [if_true]
  refine wpAny_bind (wpAny_rule (wpAny_bind (wpAny_field hz rfl (x := .ref to) rfl (wpAny_bind (setF hz fun g1 z1 b1 => ?_)))))
  refine wpAny_bind ?_
  simp only [List.zipIdx_cons, List.zipIdx_nil, List.forIn_cons, List.forIn_nil]
  refine wpAny_bind (wpAny_bind (wpAny_onRaise ?_))
  show wpAny _ _ (Builtin.SmallTypes.nextOrEnd (.ref i1)) _ _ _
  refine draw_none (wpAny_nextOf_list_end hh (j1.extBut b1.extBut D.i1z) (k1.extBut b1.extBut D.l1z) hx fun g2 e2 b2 st2 => ⟨⟨e2, rfl, st2⟩, ?_⟩)
  have z2 : Zs g2 zz ti to .ellipsis := b2 _ _ D.i1z.symm z1
  refine wpAny_bind (setF z2 fun g3 z3 b3 => ?_)
  refine wpAny_bind (wpAny_bind ?_)
  show wpAny _ _ (forIn [(Value.ref i2, 1)] PUnit.unit _) _ _ _
  simp only [List.forIn_cons, List.forIn_nil]
  refine wpAny_bind (wpAny_bind (draw_none (RZ.nextOf_tuple_end hh (((j2.extBut b1.extBut D.i2z).extBut b2 D.i12.symm).extBut b3.extBut D.i2z) (((k2.extBut b1.extBut D.l2z).extBut b2 D.l2i1).extBut b3.extBut D.l2z) hy fun g4 e4 b4 st4 => ⟨⟨e4, rfl, st4⟩, ?_⟩)))
  refine wpAny_pure (wpAny_pure ?_)
  refine wpAny_bind (wpAny_rule ?_)
  show wpAny _ _ (newExc (.type "StopIteration") [] >>= _) _ _ _
  refine wpAny_bind ?_
  simp only [newExc, newTuple]
  refine wpAny_bind (wpAny_newObj_type ?_ (by size_fits))
  refine wpAny_bind (m := firstArgMember _ _) (wpAny_of_eq (a := Value.none) (by first | rfl | (simp only [firstArgMember]; rfl)) ?_)
  refine wpAny_newObj_type ?_ (by size_fits)
  simp only [raiseNew]
  refine wpAny_bind (wpAny_handled ?_)
  rw [hh]
  refine wpAny_bind (wpAny_pure (wpAny_throw ?_))
  exact hE _ _ (fun c o a1 a2 a3 a4 q => Heap.get?_push_of_some _ (Heap.get?_push_of_some _ (b4 _ _ a4 (b3.extBut _ _ a1 (b2 _ _ a3 (b1.extBut _ _ a1 q)))))) ⟨_, Heap.get?_push_size _ rfl, rfl⟩
theorem next_item {x y : Value} {Q : Option Value → Shared → Prop} (D : ZipApart zz ti to i1 i2 l1 l2) (hz : Zs s.heap zz ti to .none) (hti : IsPair s.heap ti (.ref i1) (.ref i2)) (hto : IsPair s.heap to p0 q0)
    (j1 : s.heap.IsListIter i1 l1 n) (j2 : s.heap.IsTupleIter i2 l2 n) (k1 : s.heap.IsList l1 xs) (k2 : s.heap.IsTuple l2 ys) (hx : xs[n]? = some x) (hy : ys[n]? = some y)
    (hQ : ∀ h1, Zs h1 zz ti to (rawInt s.heap.objs.size) → IsPair h1 to x y → h1.IsListIter i1 l1 (n + 1) → h1.IsTupleIter i2 l2 (n + 1) → IsPair h1 s.heap.objs.size x y →
      (∀ c o, c ≠ zz → c ≠ to → c ≠ i1 → c ≠ i2 → s.heap.get? c = some o → h1.get? c = some o) → Q (some (.ref s.heap.objs.size)) { s with heap := h1 }) :
    wpAny (model prog w) A (pyNext (.ref zz)) Q E s := by
  have ty : s.TypeIs (.ref zz) "zip" := ⟨_, hz, rfl⟩
  unfold pyNext
  exact wpAny_bind (wpAny_attempt (wpAny_callSpecial?_slot (name := Str.ofString "__next__") ty F.slot_zip_next
    (wpAny_call_entry F.slot_zip_next ty F.entry_zip_next (step_item D hz hti hto j1 j2 k1 k2 hx hy fun h1 a1 a2 a3 a4 a5 a6 => wpAny_pure (hQ h1 a1 a2 a3 a4 a5 a6)) (F.args_zip_next_1 _))))
theorem next_end {Q : Option Value → Shared → Prop} (hh : A.handled = none) (D : ZipApart zz ti to i1 i2 l1 l2) (hz : Zs s.heap zz ti to .none) (hti : IsPair s.heap ti (.ref i1) (.ref i2)) (hto : IsPair s.heap to p0 q0)
    (j1 : s.heap.IsListIter i1 l1 n) (j2 : s.heap.IsTupleIter i2 l2 n) (k1 : s.heap.IsList l1 xs) (k2 : s.heap.IsTuple l2 ys) (hx : xs[n]? = none) (hy : ys[n]? = none)
    (hQ : ∀ h1, (∀ c o, c ≠ zz → c ≠ to → c ≠ i1 → c ≠ i2 → s.heap.get? c = some o → h1.get? c = some o) → Q none { s with heap := h1 }) : wpAny (model prog w) A (pyNext (.ref zz)) Q E s := by
  have ty : s.TypeIs (.ref zz) "zip" := ⟨_, hz, rfl⟩
  unfold pyNext
  refine wpAny_bind (wpAny_attempt (wpAny_callSpecial?_slot (name := Str.ofString "__next__") ty F.slot_zip_next
    (wpAny_call_entry F.slot_zip_next ty F.entry_zip_next (step_end hh D hz hti hto j1 j2 k1 k2 hx hy fun h1 e hk he => ?_) (F.args_zip_next_1 _))))
  obtain ⟨o, ho, hc⟩ := he
  exact wpAny_bind (wpAny_isInstance (T := "StopIteration") (b := true) ⟨o, ho, hc⟩ isSubtype_stop (wpAny_pure (hQ _ hk)))
theorem go_zs {elts : List Expr} {kk : Nat} {pos : Pos} {t : Addr} {Q : Unit → Shared → Prop} (hz : Zs s.heap zz ti to (rawInt t)) (hQ : ∀ h1, Zs h1 zz ti to .none → Heap.SameBut zz s.heap h1 → Q () { s with heap := h1 }) :
    wpAny (model prog w) A (letOwnedTupleGo (.Tuple elts kk pos) (.ref zz) (.ref t)) Q E s := by
  unfold letOwnedTupleGo
  refine wpAny_bind (wpAny_load hz ?_)
  show wpAny _ _ (if (["enumerate", "zip", "dict_itemiterator", "dict_reverseitemiterator", "odict_iterator", "itertools.zip_longest", "itertools.pairwise"].contains "zip" &&
      (#[rawInt t, .bool false, .bool true, .ref ti, .ref to] : Array Value)[0]? == some (rawInt t)) = true then _ else _) Q E s
  rw [if_pos (by simp)]
  exact wpAny_bind (wpAny_rule (setF hz fun h1 a b => hQ h1 a b))
theorem iter_zs {slot : Value} {Q : Value → Shared → Prop} (hz : Zs s.heap zz ti to slot) (h : Q (.ref zz) s) : wpAny (model prog w) A (pyIter (.ref zz)) Q E s := by
  have ty : s.TypeIs (.ref zz) "zip" := ⟨_, hz, rfl⟩
  refine wpAny_pyIter_slot ty F.slot_zip_iter (wpAny_call_entry F.slot_zip_iter ty F.entry_zip_iter ?_ (F.args_zip_iter_1 _))
  show wpAny _ _ (ret (.ref zz)) _ _ s
  exact wpAny_pure ⟨_, rfl, "zip", _, ty, F.slot_zip_next.lookup, h⟩

/-! its making -/
abbrev st0 : Str := Str.ofString "strict"
theorem tyc (a b c : Value) : checkTypeCall "zip" ⟨[a, b], [(st0, c)]⟩ = pure () := by kernel_rfl
theorem nwc (a b c : Value) : checkBuiltinCall "zip.__new__" ⟨[.type "zip", a, b], [(st0, c)]⟩ = pure () := by kernel_rfl
theorem oin (x a b c : Value) : argsOk "object.__init__" ⟨[x, a, b], [(st0, c)]⟩ := by unfold argsOk; kernel_rfl
abbrev n1 (h : Heap) (l1 : Addr) : Heap := h.push { cls := .type "list_iterator", data := .fields #[.ref l1, .int 0 0] }
abbrev n2 (h : Heap) (l1 l2 : Addr) : Heap := (n1 h l1).push { cls := .type "tuple_iterator", data := .fields #[.ref l2, .int 0 0] }
abbrev n3 (h : Heap) (l1 l2 : Addr) : Heap := (n2 h l1 l2).push { cls := .type "tuple", data := .seq #[.ref h.objs.size, .ref (n1 h l1).objs.size] }
abbrev n4 (h : Heap) (l1 l2 : Addr) : Heap := (n3 h l1 l2).push { cls := .type "tuple", data := .seq #[.none, .none] }
abbrev n5 (h : Heap) (l1 l2 : Addr) : Heap := (n4 h l1 l2).push { cls := .type "zip", data := .fields #[.none, .bool false, .bool true, .ref (n2 h l1 l2).objs.size, .ref (n3 h l1 l2).objs.size] }
theorem made (l1 l2 : Addr) (xs ys : Array Value) :
    Meets (Builtin.«zip.__new__» ⟨[.type "zip", .ref l1, .ref l2], [(st0, .bool true)]⟩) (fun _ R s => s.heap.IsList l1 xs ∧ s.heap.IsTuple l2 ys ∧ R (.ok (.ret (.ref (n4 s.heap l1 l2).objs.size))) { s with heap := n5 s.heap l1 l2 }) :=
  .of_wp fun prog w A R s hyp => by
    obtain ⟨hp, g, dr, tk, os⟩ := s
    obtain ⟨k1, k2, goal⟩ := hyp
    have sb := sub_zip
    have e1 : (st0 != ("strict" : Str)) = false := by decide +kernel
    have L1 : Heap.IsList (Shared.heap ⟨hp, g, dr, tk, os⟩) l1 xs := k1
    have L2 : Heap.IsTuple (Shared.heap ⟨hp.push { cls := .type "list_iterator", data := .fields #[.ref l1, .int 0 0] }, g, dr, tk, os⟩) l2 ys := Heap.IsTuple.push k2 _
    wp_walk using wpAny_pyIter_list L1, wpAny_pyIter_tuple L2
    exact ⟨_, rfl, goal⟩
theorem make {Q : Value → Shared → Prop} (k1 : s.heap.IsList l1 xs) (k2 : s.heap.IsTuple l2 ys)
    (goal : ∀ h1, Zs h1 (s.heap.objs.size + 4) (s.heap.objs.size + 2) (s.heap.objs.size + 3) .none → IsPair h1 (s.heap.objs.size + 2) (.ref s.heap.objs.size) (.ref (s.heap.objs.size + 1)) → IsPair h1 (s.heap.objs.size + 3) .none .none →
      h1.IsListIter s.heap.objs.size l1 0 → h1.IsTupleIter (s.heap.objs.size + 1) l2 0 → (∀ c o, s.heap.get? c = some o → h1.get? c = some o) → Q (.ref (s.heap.objs.size + 4)) { s with heap := h1 }) :
    wpAny (model prog w) A (call (.type "zip") [.ref l1, .ref l2] [(st0, .bool true)]) Q E s := by
  refine callType_newKw F.called_zip (by decide) (tyc _ _ _) (nwc _ _ _) (fun x => oin x _ _ _) F.entry_zip_new (made l1 l2 xs ys) ⟨k1, k2, ?_⟩
  have a1 : (n1 s.heap l1).objs.size = s.heap.objs.size + 1 := Heap.size_push ..
  have a2 : (n2 s.heap l1 l2).objs.size = s.heap.objs.size + 2 := by rw [Heap.size_push, a1]
  have a3 : (n3 s.heap l1 l2).objs.size = s.heap.objs.size + 3 := by rw [Heap.size_push, a2]
  have a4 : (n4 s.heap l1 l2).objs.size = s.heap.objs.size + 4 := by rw [Heap.size_push, a3]
  have c5 : (n5 s.heap l1 l2).get? (n4 s.heap l1 l2).objs.size = some _ := Heap.get?_push_size _ rfl
  have c4 : (n5 s.heap l1 l2).get? (n3 s.heap l1 l2).objs.size = some _ := Heap.get?_push_of_some _ (Heap.get?_push_size _ rfl)
  have c3 : (n5 s.heap l1 l2).get? (n2 s.heap l1 l2).objs.size = some _ := Heap.get?_push_of_some _ (Heap.get?_push_of_some _ (Heap.get?_push_size _ rfl))
  have c2 : (n5 s.heap l1 l2).get? (n1 s.heap l1).objs.size = some _ := Heap.get?_push_of_some _ (Heap.get?_push_of_some _ (Heap.get?_push_of_some _ (Heap.get?_push_size _ rfl)))
  have c1 : (n5 s.heap l1 l2).get? s.heap.objs.size = some _ := Heap.get?_push_of_some _ (Heap.get?_push_of_some _ (Heap.get?_push_of_some _ (Heap.get?_push_of_some _ (Heap.get?_push_size _ rfl))))
  show _ ∧ _
  rw [a4, a2, a3] at c5
  rw [a3] at c4
  rw [a2, a1] at c3
  rw [a1] at c2
  rw [a4]
  exact ⟨⟨_, c5, rfl⟩, goal _ c5 c3 c4 ⟨_, c1, rfl, rfl⟩ ⟨_, c2, rfl, rfl⟩ fun c o x => Heap.get?_push_of_some _ (Heap.get?_push_of_some _ (Heap.get?_push_of_some _ (Heap.get?_push_of_some _ (Heap.get?_push_of_some _ x))))⟩
end
end PySem.ZsT
namespace R60
open PySem PySem.Spec PyProof.Rows L2
/-- the list at a and the tuple at b, of one length, the items in new pairs -/
def ItZs (K : PySem.W.Frag) (a b : Addr) : It :=
  ⟨fun i H => ∃ (xs ys : List V) (x y : V), SqL K H a xs ∧ SqT K H b ys ∧ xs[i]? = some x ∧ ys[i]? = some y,
    fun i H v H' => ∃ T x y, v = .ref T ∧ H T = none ∧ H' = upd H T (.tup [x, y]) ∧ (∀ xs, SqL K H a xs → xs[i]? = some x) ∧ ∀ ys, SqT K H b ys → ys[i]? = some y,
    fun i H => ∃ xs ys : List V, SqL K H a xs ∧ SqT K H b ys ∧ xs.length ≤ i ∧ ys.length ≤ i⟩
theorem turn_zs {P : Program} {w : World} {K : PySem.W.Frag} {elts : List Expr} {kk : Nat} {tpos : Pos} {a b zz ti to i1 i2 : Addr} (D : ZipApart zz ti to i1 i2 a b) :
    Turn P w K (.Tuple elts kk tpos) (ItZs K a b) [zz, ti, to, i1, i2] zz (fun i h => PySem.ZsT.Zs h zz ti to .none ∧ IsPair h ti (.ref i1) (.ref i2) ∧ (∃ p q, IsPair h to p q) ∧ h.IsListIter i1 a i ∧ h.IsTupleIter i2 b i) where
  mem := by simp
  obj := fun i h st c hc => by
    obtain ⟨q1, q2, ⟨p, q, q3⟩, ⟨o1, e1, _, d1⟩, ⟨o2, e2, _, d2⟩⟩ := st
    have hc' : c = zz ∨ c = ti ∨ c = to ∨ c = i1 ∨ c = i2 := by simpa using hc
    rcases hc' with rfl | rfl | rfl | rfl | rfl
    · exact ⟨_, q1, fun v z => nomatch z⟩
    · exact ⟨_, q2, fun v z => nomatch z⟩
    · exact ⟨_, q3, fun v z => nomatch z⟩
    · exact ⟨o1, e1, fun v z => by rw [d1] at z; cases z⟩
    · exact ⟨o2, e2, fun v z => by rw [d2] at z; cases z⟩
  keep := fun i h h' ⟨q1, q2, ⟨p, q, q3⟩, q4, q5⟩ k => ⟨k zz (by simp) _ q1, k ti (by simp) _ q2, ⟨p, q, k to (by simp) _ q3⟩, q4.at fun o z => k i1 (by simp) o z, q5.at fun o z => k i2 (by simp) o z⟩
  item := fun X hP hw hK hc i pins s σ H E I hf st hg => by
    subst hP hw hK
    obtain ⟨q1, q2, ⟨p, q, q3⟩, q4, q5⟩ := st
    obtain ⟨xs, ys, x, y, hqx, hqy, hx, hy⟩ := hg
    obtain ⟨us, r1, p1, _⟩ := I.list hqx
    obtain ⟨vs, r2, p2, _⟩ := I.tuple hqy
    obtain ⟨u, hu, ru⟩ := r1.get hx
    obtain ⟨v, hv, rv⟩ := r2.get hy
    have lt : ∀ {c o}, s.heap.get? c = some o → s.heap.objs.size ≠ c := fun e => Nat.ne_of_gt (Heap.lt_size e)
    have nzz := lt q1
    refine PySem.ZsT.next_item D q1 q2 q3 q4 q5 p1.isList (show s.heap.IsTuple b vs.toArray from p2) (x := u) (y := v) (by simpa using hu) (by simpa using hv) fun h1 a1 a2 a3 a4 a5 old => ?_
    refine ⟨_, rfl, PySem.ZsT.go_zs (s := { s with heap := h1 }) a1 fun h2 b1 sb => ?_⟩
    have t2 : h2.get? s.heap.objs.size = some { cls := .type "tuple", data := .seq #[u, v] } := (sb.2 _ nzz).trans a5
    have new : ObjOk X.prog X.w (upd H s.heap.objs.size (.tup [x, y])) h2 s.heap.objs.size (.tup [x, y]) := ⟨by show 2 ≤ sizeLine; decide, [u, v], .cons ru (.cons rv .nil), ⟨_, t2, rfl, _, rfl⟩⟩
    have J : Inv X pins σ (upd H s.heap.objs.size (.tup [x, y])) { s with heap := h2 } := I.turnedNew (t' := s.toks) (ch := [zz, ti, to, i1, i2]) (fun c o hb z => by
      simp at hb
      exact (sb.2 c hb.1).trans (old c o hb.1 hb.2.2.1 hb.2.2.2.1 hb.2.2.2.2 z)) hf (Nat.le_refl _) new
    refine ⟨.ref s.heap.objs.size, _, J, rfl, ⟨_, x, y, rfl, I.hok.fresh (Nat.le_refl _), rfl, fun l hl => by rw [I.list_inj hl hqx]; exact hx, fun l hl => by rw [I.tuple_inj hl hqy]; exact hy⟩, ⟨b1, ?_, ⟨u, v, ?_⟩, ?_, ?_⟩, fun c hcm => ?_⟩
    · exact (sb.2 _ D.TIz).trans (old _ _ D.TIz D.TITO D.TIi1 D.TIi2 q2)
    · exact (sb.2 _ D.TOz).trans a2
    · exact a3.at fun o z => (sb.2 _ D.i1z).trans z
    · exact a4.at fun o z => (sb.2 _ D.i2z).trans z
    · have hne : s.heap.objs.size ≠ c := by
        have hc' : c = zz ∨ c = ti ∨ c = to ∨ c = i1 ∨ c = i2 := by simpa using hcm
        rcases hc' with rfl | rfl | rfl | rfl | rfl
        · exact nzz
        · exact lt q2
        · exact lt q3
        · obtain ⟨_, e1, _⟩ := q4
          exact lt e1
        · obtain ⟨_, e2, _⟩ := q5
          exact lt e2
      rw [upd_ne (Ne.symm hne)]
      exact (hf c hcm).1
  done := fun X hP hw hK hc i pins s σ H E I hf st hg => by
    subst hP hw hK
    obtain ⟨q1, q2, ⟨p, q, q3⟩, q4, q5⟩ := st
    obtain ⟨xs, ys, hqx, hqy, ex, ey⟩ := hg
    obtain ⟨us, r1, p1, _⟩ := I.list hqx
    obtain ⟨vs, r2, p2, _⟩ := I.tuple hqy
    have l1 := r1.length
    have l2 := r2.length
    exact PySem.ZsT.next_end (I.ok.hd hc) D q1 q2 q3 q4 q5 p1.isList (show s.heap.IsTuple b vs.toArray from p2) (by simp; omega) (by simp; omega) fun h1 old => ⟨rfl, I.turnedL (t' := s.toks) (ch := [zz, ti, to, i1, i2]) (fun c o hb z => by
      simp at hb
      exact old c o hb.1 hb.2.2.1 hb.2.2.2.1 hb.2.2.2.2 z) hf⟩
  self := fun A i s Q E st h => PySem.ZsT.iter_zs st.1 h
def iZs (K : PySem.W.Frag) (ta tk : TA) : TI := fun σ H R => ta σ H fun vs H1 => tk σ H1 fun zs H2 => ∃ a b xs ys, vs = [.ref a, .ref b] ∧ zs = [.bl true] ∧ SqL K H2 a xs ∧ SqT K H2 b ys ∧ R (ItZs K a b) H2
theorem kw_type {M : Model} {A : Around} {E : Value → Shared → Prop} {s : Shared} {pos : Pos} {T : String} {args : List (Bool × Sem Value)} {kws : List (Option Str × Sem Value)} {Q : Value → Shared → Prop} (hpl : args.any (·.1) = false) (hkw : kws.any (·.1.isNone) = false)
    (h : wpAny M A (evalArgs (.type T) true args kws) (fun a s1 => wpAny M A (call (.type T) a.pos a.kw) Q E s1) E s) : wpAny M A (callWith pos (.type T) [] args kws) Q E s := by
  unfold callWith
  refine wpAny_bind (wpAny_holding (wpAny_mono h (fun a s1 q => wpAny_bind (wpAny_standAt ?_)) fun _ _ x => x))
  simp only [hpl, hkw, Bool.or_false]
  refine wpAny_bind (wpAny_pure ?_)
  exact wpAny_bind (wpAny_mono q (fun r s2 z => wpAny_bind (wpAny_holding (wpAny_point (wpAny_pure z)))) fun _ _ x => x)
theorem pi_zs {X : Cx} {e e2 e3 : Expr} {ta tk : TA} {p pos tpos kpos : Pos} {elts : List Expr} {kk : Nat} (hg : Gl X "zip") (hm : X.mg "zip" = none) (ha : PA X [e, e2] ta) (hk : PK X [⟨some "strict", e3, kpos⟩] tk)
    (he : backTo pos (starEach [e, e2] X.env) = (false, eval e X.env) :: backTo pos (starEach [e2] X.env)) (hpl : (backTo pos (starEach [e, e2] X.env)).any (·.1) = false) :
    PI X (.Tuple elts kk tpos) (.Call (.Name "zip" p) [e, e2] [⟨some "strict", e3, kpos⟩] pos) (iZs X.K ta tk) := by
  refine ⟨fun pins s σ H R I h => ?_⟩
  refine wpAny_Call_Name_kw (ld_blt I hg hm PyProof.Rows.boot_zip (kw_type hpl rfl ?_))
  rw [he]
  refine evalArgs_kwB rfl ?_
  rw [← he]
  refine thn (ha.run pos pins s σ H _ I h) fun us s1 ⟨vs, H1, I1, r1, q1⟩ => thn (hk.run pos pins s1 σ H1 _ I1 q1) fun ks s2 ⟨zs, H2, I2, r2, a, b, xs, ys, ev, ez, hx, hy, q⟩ => ?_
  subst ev ez
  cases r1 with
  | cons r r1 => cases r1 with
  | cons r' r1 =>
  cases r1
  cases r
  cases r'
  cases r2 with
  | cons r r2 =>
  cases r2
  cases r
  obtain ⟨us, rv, p1, _⟩ := I2.list hx
  obtain ⟨vs, rw_, p2, _⟩ := I2.tuple hy
  have p2 : s2.heap.IsTuple b vs.toArray := p2
  have la : a < s2.heap.objs.size := p1.lt
  have lb : b < s2.heap.objs.size := by
    obtain ⟨o, z, _⟩ := p2
    exact Heap.lt_size z
  show wpAny _ _ (call (.type "zip") [.ref a, .ref b] [(PySem.ZsT.st0, .bool true)]) _ _ s2
  refine PySem.ZsT.make p1.isList p2 fun h1 z0 z1 z2 z3 z4 old => PySem.ZsT.iter_zs z0 ?_
  have I3 : Inv X pins σ H2 { s2 with heap := h1 } := I2.kept (t' := s2.toks) old
  refine ⟨s2.heap.objs.size + 4, [s2.heap.objs.size + 4, s2.heap.objs.size + 2, s2.heap.objs.size + 3, s2.heap.objs.size, s2.heap.objs.size + 1], _, _, H2, rfl, I3, turn_zs (PySem.W.ktu_apart s2.heap.objs.size a b la lb), ⟨z0, z1, ⟨_, _, z2⟩, z3, z4⟩, fun c hcm => ?_, q⟩
  have hle : s2.heap.objs.size ≤ c := by
    have hc' : c = s2.heap.objs.size + 4 ∨ c = s2.heap.objs.size + 2 ∨ c = s2.heap.objs.size + 3 ∨ c = s2.heap.objs.size ∨ c = s2.heap.objs.size + 1 := by simpa using hcm
    rcases hc' with z | z | z | z | z
    · rw [z]; exact Nat.le_add_right _ _
    · rw [z]; exact Nat.le_add_right _ _
    · rw [z]; exact Nat.le_add_right _ _
    · rw [z]; exact Nat.le_refl _
    · rw [z]; exact Nat.le_add_right _ _
  exact I2.fpOk hle (I2.hok.fresh hle)
end R60

set_option Elab.async false
set_option linter.all false
set_option maxRecDepth 100000
set_option maxHeartbeats 400000
namespace R60
open PySem PySem.Spec PyProof.Rows L2
section
variable {X : Cx} {m : Mu} {Γ : Gam} {a b : Expr} {pos p tpos kpos cpos : Pos} {elts : List Expr} {kk ck : Nat} {α β : Type}
theorem i_zs {xs : List α} {ys : List β} {ex : α → Ty} {ey : β → Ty} (hm : X.mg "zip" = none) (ha : EvE X m Γ a (LsT (xs.map ex))) (hb : EvE X m Γ b (TuT X.K (ys.map ey))) (hl : xs.length = ys.length) (hg : Gl X "zip" := by rfl)
    (hs : starEach [a, b] X.env = (false, eval a X.env) :: starEach [b] X.env := by rfl) (hs2 : starEach [b] X.env = [(false, eval b X.env)] := by rfl)
    (he : backTo pos (starEach [a, b] X.env) = (false, eval a X.env) :: backTo pos (starEach [b] X.env) := by rfl) (hpl : (backTo pos (starEach [a, b] X.env)).any (·.1) = false := by rfl) :
    PIx X m Γ (.Tuple elts kk tpos) (.Call (.Name "zip" p) [a, b] [⟨some "strict", .Constant (.bool true) ck cpos, kpos⟩] pos) xs.length (fun i => TuT X.K [YL xs ex i, YL ys ey i]) :=
  ⟨_, pi_zs hg hm semA (pk_cons sem pk_nil) he hpl, fun σ F H g R q => (show EvA X m Γ [a, b] [LsT (xs.map ex), TuT X.K (ys.map ey)] from a_cons ha (a_cons hb a_nil hs2) hs) σ F H g _ fun vs F1 H1 g1 i1 p1 => (e_bl (i := true) (j := ck) (pos := cpos)) σ F1 H1 (g.next g1 i1) _ fun u F2 H2 g2 i2 p2 => by
      obtain ⟨v, v', rfl, ⟨x, xs', e1, h2, h3⟩, y, ys', e2, h4, h5⟩ := two_of p1
      have g12 := g1.trans g2
      have h2 := g2.ff _ _ h2
      have h4 := ex_sqt g2.ff h4
      have h3 := h3.mono g2.ff
      have h5 := h5.mono g2.ff
      have l1 : xs'.length = xs.length := by rw [h3.len, List.length_map]
      have l2 : ys'.length = ys.length := by rw [h5.len, List.length_map]
      refine ⟨x, y, xs', ys', by rw [e1, e2], by rw [DAt.b p2], SqL.of (g12.fh _ _ h2), ex_sqt g12.fh h4, q _ F2 H2 g12 (i2 ) ?_⟩
      refine ⟨fun F' H' a1 a2 aI i hi => ?_, fun F' H' a1 a2 aI => ?_, fun F' H' a1 a2 aI i x H2 hi y => ?_⟩
      · exact ⟨xs', ys', xs'[i], ys'[i], SqL.of (a2 _ _ (a1 _ _ h2)), ex_sqt a2 (ex_sqt a1 h4), by simp [l1, hi], by simp [l2, ← hl, hi]⟩
      · exact ⟨xs', ys', SqL.of (a2 _ _ (a1 _ _ h2)), ex_sqt a2 (ex_sqt a1 h4), by omega, by omega⟩
      · obtain ⟨T, u, v, rfl, hT, rfl, hu, hv⟩ := y
        have gn : Gr0 F' H' (upd F' T (.tup [u, v])) (upd H' T (.tup [u, v])) := Gr.new a2 hT
        refine ⟨_, gn, T, _, rfl, SqT.of upd_same, ?_, ?_, trivial⟩
        · exact (YL xs ex i).mono _ _ _ (a1.trans gn.ff) (yl_holds h3 (hu xs' (SqL.of (a2 _ _ (a1 _ _ h2)))))
        · exact (YL ys ey i).mono _ _ _ (a1.trans gn.ff) (yl_holds h5 (hv ys' (ex_sqt a2 (ex_sqt a1 h4))))⟩
end
end R60

set_option Elab.async false
set_option linter.all false
set_option maxRecDepth 100000
set_option maxHeartbeats 4000000
namespace R60
open PySem PySem.Spec PyProof.Rows L2
abbrev PG : Program := PySem.Challenge.pw_reedtapes_k60_whole_decks_back_and_again
def top (i : Nat) : Stmt := PG.main.body.getD i (.Pass ⟨0, 0, 0, 0⟩)
abbrev s_is_between : Stmt := top 30
theorem sc_is_between : FnScope ["thing", "bounds", "low", "high"] ["thing", "bounds"] (defScope s_is_between) := ⟨rfl, rfl, rfl, by decide +kernel, rfl, by decide +kernel, by decide +kernel⟩
theorem bd_is_between : BindH "is_between" "is_between" s_is_between ["thing", "bounds"] := fun _ _ _ _ _ _ us hl => match us, hl with | [_, _], _ => rfl
abbrev s_is_text : Stmt := top 31
theorem sc_is_text : FnScope ["thing", "sign"] ["thing"] (defScope s_is_text) := ⟨rfl, rfl, rfl, by decide +kernel, rfl, by decide +kernel, by decide +kernel⟩
theorem bd_is_text : BindH "is_text" "is_text" s_is_text ["thing"] := fun _ _ _ _ _ _ us hl => match us, hl with | [_], _ => rfl
abbrev s_is_event : Stmt := top 32
theorem sc_is_event : FnScope ["event", "tick", "word", "things", "thing", "bounds"] ["event"] (defScope s_is_event) := ⟨rfl, rfl, rfl, by decide +kernel, rfl, by decide +kernel, by decide +kernel⟩
theorem bd_is_event : BindH "is_event" "is_event" s_is_event ["event"] := fun _ _ _ _ _ _ us hl => match us, hl with | [_], _ => rfl
abbrev s_need_track : Stmt := top 33
theorem sc_need_track : FnScope ["track", "at", "event"] ["track"] (defScope s_need_track) := ⟨rfl, rfl, rfl, by decide +kernel, rfl, by decide +kernel, by decide +kernel⟩
theorem bd_need_track : BindH "need_track" "need_track" s_need_track ["track"] := fun _ _ _ _ _ _ us hl => match us, hl with | [_], _ => rfl
abbrev s_need_tick : Stmt := top 34
theorem sc_need_tick : FnScope ["tick"] ["tick"] (defScope s_need_tick) := ⟨rfl, rfl, rfl, by decide +kernel, rfl, by decide +kernel, by decide +kernel⟩
theorem bd_need_tick : BindH "need_tick" "need_tick" s_need_tick ["tick"] := fun _ _ _ _ _ _ us hl => match us, hl with | [_], _ => rfl
abbrev s_need_room_e : Stmt := top 35
theorem sc_need_room_e : FnScope ["track"] ["track"] (defScope s_need_room_e) := ⟨rfl, rfl, rfl, by decide +kernel, rfl, by decide +kernel, by decide +kernel⟩
theorem bd_need_room_e : BindH "need_room" "need_room" s_need_room_e ["track"] := fun _ _ _ _ _ _ us hl => match us, hl with | [_], _ => rfl
abbrev s_later : Stmt := top 37
theorem sc_later : FnScope ["track", "by", "event"] ["track", "by"] (defScope s_later) := ⟨rfl, rfl, rfl, by decide +kernel, rfl, by decide +kernel, by decide +kernel⟩
theorem bd_later : BindH "later" "later" s_later ["track", "by"] := fun _ _ _ _ _ _ us hl => match us, hl with | [_, _], _ => rfl
abbrev s_put_in : Stmt := top 40
theorem sc_put_in : FnScope ["track", "event", "place", "found", "one"] ["track", "event"] (defScope s_put_in) := ⟨rfl, rfl, rfl, by decide +kernel, rfl, by decide +kernel, by decide +kernel⟩
theorem bd_put_in : BindH "put_in" "put_in" s_put_in ["track", "event"] := fun _ _ _ _ _ _ us hl => match us, hl with | [_, _], _ => rfl
abbrev s_need_beat : Stmt := top 46
theorem sc_need_beat : FnScope ["beat"] ["beat"] (defScope s_need_beat) := ⟨rfl, rfl, rfl, by decide +kernel, rfl, by decide +kernel, by decide +kernel⟩
theorem bd_need_beat : BindH "need_beat" "need_beat" s_need_beat ["beat"] := fun _ _ _ _ _ _ us hl => match us, hl with | [_], _ => rfl
abbrev s_need_pace : Stmt := top 47
theorem sc_need_pace : FnScope ["pace"] ["pace"] (defScope s_need_pace) := ⟨rfl, rfl, rfl, by decide +kernel, rfl, by decide +kernel, by decide +kernel⟩
theorem bd_need_pace : BindH "need_pace" "need_pace" s_need_pace ["pace"] := fun _ _ _ _ _ _ us hl => match us, hl with | [_], _ => rfl
abbrev s_Map_init : Stmt := inClass (top 48) 0
theorem sc_Map_init : FnScope ["self", "beat", "paces", "tick", "pace"] ["self", "beat", "paces"] (defScope s_Map_init) := ⟨rfl, rfl, rfl, by decide +kernel, rfl, by decide +kernel, by decide +kernel⟩
abbrev s_Map_put : Stmt := inClass (top 48) 4
theorem sc_Map_put : FnScope ["self", "tick", "pace"] ["self", "tick", "pace"] (defScope s_Map_put) := ⟨rfl, rfl, rfl, by decide +kernel, rfl, by decide +kernel, by decide +kernel⟩
theorem bd_Map_put : BindH "put" "Map.put" s_Map_put ["self", "tick", "pace"] := fun _ _ _ _ _ _ us hl => match us, hl with | [_, _, _], _ => rfl
abbrev s_Map_beat : Stmt := inClass (top 48) 6
theorem sc_Map_beat : FnScope ["self"] ["self"] (defScope s_Map_beat) := ⟨rfl, rfl, rfl, by decide +kernel, rfl, by decide +kernel, by decide +kernel⟩
theorem bd_Map_beat : BindH "beat" "Map.beat" s_Map_beat ["self"] := fun _ _ _ _ _ _ us hl => match us, hl with | [_], _ => rfl
abbrev s_Map_paces : Stmt := inClass (top 48) 7
theorem sc_Map_paces : FnScope ["self"] ["self"] (defScope s_Map_paces) := ⟨rfl, rfl, rfl, by decide +kernel, rfl, by decide +kernel, by decide +kernel⟩
theorem bd_Map_paces : BindH "paces" "Map.paces" s_Map_paces ["self"] := fun _ _ _ _ _ _ us hl => match us, hl with | [_], _ => rfl
abbrev s_Map_twin : Stmt := inClass (top 48) 13
theorem sc_Map_twin : FnScope ["self"] ["self"] (defScope s_Map_twin) := ⟨rfl, rfl, rfl, by decide +kernel, rfl, by decide +kernel, by decide +kernel⟩
theorem bd_Map_twin : BindH "twin" "Map.twin" s_Map_twin ["self"] := fun _ _ _ _ _ _ us hl => match us, hl with | [_], _ => rfl
abbrev s_Tape_init : Stmt := inClass (top 64) 0
theorem sc_Tape_init : FnScope ["self", "beat", "tracks", "paces", "track"] ["self", "beat", "tracks", "paces"] (defScope s_Tape_init) := ⟨rfl, rfl, rfl, by decide +kernel, rfl, by decide +kernel, by decide +kernel⟩
abbrev s_Tape_beat : Stmt := inClass (top 64) 4
theorem sc_Tape_beat : FnScope ["self"] ["self"] (defScope s_Tape_beat) := ⟨rfl, rfl, rfl, by decide +kernel, rfl, by decide +kernel, by decide +kernel⟩
theorem bd_Tape_beat : BindH "beat" "Tape.beat" s_Tape_beat ["self"] := fun _ _ _ _ _ _ us hl => match us, hl with | [_], _ => rfl
abbrev s_Tape_tracks : Stmt := inClass (top 64) 5
theorem sc_Tape_tracks : FnScope ["self", "track"] ["self"] (defScope s_Tape_tracks) := ⟨rfl, rfl, rfl, by decide +kernel, rfl, by decide +kernel, by decide +kernel⟩
theorem bd_Tape_tracks : BindH "tracks" "Tape.tracks" s_Tape_tracks ["self"] := fun _ _ _ _ _ _ us hl => match us, hl with | [_], _ => rfl
abbrev s_Tape_paces : Stmt := inClass (top 64) 6
theorem sc_Tape_paces : FnScope ["self"] ["self"] (defScope s_Tape_paces) := ⟨rfl, rfl, rfl, by decide +kernel, rfl, by decide +kernel, by decide +kernel⟩
theorem bd_Tape_paces : BindH "paces" "Tape.paces" s_Tape_paces ["self"] := fun _ _ _ _ _ _ us hl => match us, hl with | [_], _ => rfl
abbrev s_Tape_paced : Stmt := inClass (top 64) 7
theorem sc_Tape_paced : FnScope ["self"] ["self"] (defScope s_Tape_paced) := ⟨rfl, rfl, rfl, by decide +kernel, rfl, by decide +kernel, by decide +kernel⟩
theorem bd_Tape_paced : BindH "paced" "Tape.paced" s_Tape_paced ["self"] := fun _ _ _ _ _ _ us hl => match us, hl with | [_], _ => rfl
abbrev s_is_of : Stmt := top 69
theorem sc_is_of : FnScope ["event", "channel"] ["event", "channel"] (defScope s_is_of) := ⟨rfl, rfl, rfl, by decide +kernel, rfl, by decide +kernel, by decide +kernel⟩
theorem bd_is_of : BindH "is_of" "is_of" s_is_of ["event", "channel"] := fun _ _ _ _ _ _ us hl => match us, hl with | [_, _], _ => rfl
abbrev s_apart : Stmt := top 70
theorem sc_apart : FnScope ["track", "channel", "mine", "event"] ["track", "channel"] (defScope s_apart) := ⟨rfl, rfl, rfl, by decide +kernel, rfl, by decide +kernel, by decide +kernel⟩
theorem bd_apart : BindH "apart" "apart" s_apart ["track", "channel"] := fun _ _ _ _ _ _ us hl => match us, hl with | [_, _], _ => rfl
abbrev s_need_new : Stmt := top 77
theorem sc_need_new : FnScope ["book", "name", "sign"] ["book", "name"] (defScope s_need_new) := ⟨rfl, rfl, rfl, by decide +kernel, rfl, by decide +kernel, by decide +kernel⟩
theorem bd_need_new : BindH "need_new" "need_new" s_need_new ["book", "name"] := fun _ _ _ _ _ _ us hl => match us, hl with | [_, _], _ => rfl
abbrev s_need_room_d : Stmt := top 78
theorem sc_need_room_d : FnScope ["book"] ["book"] (defScope s_need_room_d) := ⟨rfl, rfl, rfl, by decide +kernel, rfl, by decide +kernel, by decide +kernel⟩
theorem bd_need_room_d : BindH "need_room" "need_room" s_need_room_d ["book"] := fun _ _ _ _ _ _ us hl => match us, hl with | [_], _ => rfl
abbrev s_tape_of : Stmt := top 80
theorem sc_tape_of : FnScope ["book", "name"] ["book", "name"] (defScope s_tape_of) := ⟨rfl, rfl, rfl, by decide +kernel, rfl, by decide +kernel, by decide +kernel⟩
theorem bd_tape_of : BindH "tape_of" "tape_of" s_tape_of ["book", "name"] := fun _ _ _ _ _ _ us hl => match us, hl with | [_, _], _ => rfl
abbrev s_track_of : Stmt := top 81
theorem sc_track_of : FnScope ["tape", "number", "rows"] ["tape", "number"] (defScope s_track_of) := ⟨rfl, rfl, rfl, by decide +kernel, rfl, by decide +kernel, by decide +kernel⟩
theorem bd_track_of : BindH "track_of" "track_of" s_track_of ["tape", "number"] := fun _ _ _ _ _ _ us hl => match us, hl with | [_, _], _ => rfl
abbrev s_with_track : Stmt := top 82
theorem sc_with_track : FnScope ["tape", "number", "track", "rows"] ["tape", "number", "track"] (defScope s_with_track) := ⟨rfl, rfl, rfl, by decide +kernel, rfl, by decide +kernel, by decide +kernel⟩
theorem bd_with_track : BindH "with_track" "with_track" s_with_track ["tape", "number", "track"] := fun _ _ _ _ _ _ us hl => match us, hl with | [_, _, _], _ => rfl
abbrev s_do_new : Stmt := top 83
theorem sc_do_new : FnScope ["book", "name", "things", "tape"] ["book", "name", "things"] (defScope s_do_new) := ⟨rfl, rfl, rfl, by decide +kernel, rfl, by decide +kernel, by decide +kernel⟩
theorem bd_do_new : BindH "do_new" "do_new" s_do_new ["book", "name", "things"] := fun _ _ _ _ _ _ us hl => match us, hl with | [_, _, _], _ => rfl
abbrev s_do_add : Stmt := top 84
theorem sc_do_add : FnScope ["book", "name", "things", "tape"] ["book", "name", "things"] (defScope s_do_add) := ⟨rfl, rfl, rfl, by decide +kernel, rfl, by decide +kernel, by decide +kernel⟩
theorem bd_do_add : BindH "do_add" "do_add" s_do_add ["book", "name", "things"] := fun _ _ _ _ _ _ us hl => match us, hl with | [_, _, _], _ => rfl
abbrev s_do_put : Stmt := top 85
theorem sc_do_put : FnScope ["book", "name", "things", "tape", "number", "event"] ["book", "name", "things"] (defScope s_do_put) := ⟨rfl, rfl, rfl, by decide +kernel, rfl, by decide +kernel, by decide +kernel⟩
theorem bd_do_put : BindH "do_put" "do_put" s_do_put ["book", "name", "things"] := fun _ _ _ _ _ _ us hl => match us, hl with | [_, _, _], _ => rfl
abbrev s_do_take : Stmt := top 86
theorem sc_do_take : FnScope ["book", "name", "things", "tape", "number", "place", "track"] ["book", "name", "things"] (defScope s_do_take) := ⟨rfl, rfl, rfl, by decide +kernel, rfl, by decide +kernel, by decide +kernel⟩
theorem bd_do_take : BindH "do_take" "do_take" s_do_take ["book", "name", "things"] := fun _ _ _ _ _ _ us hl => match us, hl with | [_, _, _], _ => rfl
abbrev s_do_pace : Stmt := top 87
theorem sc_do_pace : FnScope ["book", "name", "things", "tape", "paced"] ["book", "name", "things"] (defScope s_do_pace) := ⟨rfl, rfl, rfl, by decide +kernel, rfl, by decide +kernel, by decide +kernel⟩
theorem bd_do_pace : BindH "do_pace" "do_pace" s_do_pace ["book", "name", "things"] := fun _ _ _ _ _ _ us hl => match us, hl with | [_, _, _], _ => rfl
abbrev s_do_later : Stmt := top 89
theorem sc_do_later : FnScope ["book", "name", "things", "tape"] ["book", "name", "things"] (defScope s_do_later) := ⟨rfl, rfl, rfl, by decide +kernel, rfl, by decide +kernel, by decide +kernel⟩
theorem bd_do_later : BindH "do_later" "do_later" s_do_later ["book", "name", "things"] := fun _ _ _ _ _ _ us hl => match us, hl with | [_, _, _], _ => rfl
abbrev s_do_part : Stmt := top 94
theorem sc_do_part : FnScope ["book", "name", "things", "tape", "number", "channel", "track", "mine", "rest"] ["book", "name", "things"] (defScope s_do_part) := ⟨rfl, rfl, rfl, by decide +kernel, rfl, by decide +kernel, by decide +kernel⟩
theorem bd_do_part : BindH "do_part" "do_part" s_do_part ["book", "name", "things"] := fun _ _ _ _ _ _ us hl => match us, hl with | [_, _, _], _ => rfl
abbrev s_after : Stmt := top 99
theorem sc_after : FnScope ["book", "deed", "word", "name", "things", "later_book", "act"] ["book", "deed"] (defScope s_after) := ⟨rfl, rfl, rfl, by decide +kernel, rfl, by decide +kernel, by decide +kernel⟩
theorem bd_after : BindH "after" "after" s_after ["book", "deed"] := fun _ _ _ _ _ _ us hl => match us, hl with | [_, _], _ => rfl
abbrev s_Deck_init : Stmt := inClass (top 101) 0
theorem sc_Deck_init : FnScope ["self"] ["self"] (defScope s_Deck_init) := ⟨rfl, rfl, rfl, by decide +kernel, rfl, by decide +kernel, by decide +kernel⟩
theorem bd_Deck_init : BindH "__init__" "Deck.__init__" s_Deck_init ["self"] := fun _ _ _ _ _ _ us hl => match us, hl with | [_], _ => rfl
abbrev s_Deck_len : Stmt := inClass (top 101) 1
theorem sc_Deck_len : FnScope ["self"] ["self"] (defScope s_Deck_len) := ⟨rfl, rfl, rfl, by decide +kernel, rfl, by decide +kernel, by decide +kernel⟩
theorem bd_Deck_len : BindH "__len__" "Deck.__len__" s_Deck_len ["self"] := fun _ _ _ _ _ _ us hl => match us, hl with | [_], _ => rfl
abbrev s_Deck_do : Stmt := inClass (top 101) 3
theorem sc_Deck_do : FnScope ["self", "deed"] ["self", "deed"] (defScope s_Deck_do) := ⟨rfl, rfl, rfl, by decide +kernel, rfl, by decide +kernel, by decide +kernel⟩
theorem bd_Deck_do : BindH "do" "Deck.do" s_Deck_do ["self", "deed"] := fun _ _ _ _ _ _ us hl => match us, hl with | [_, _], _ => rfl
abbrev s_Deck_do_all : Stmt := inClass (top 101) 4
theorem sc_Deck_do_all : FnScope ["self", "deeds", "begun", "done", "deed"] ["self", "deeds"] (defScope s_Deck_do_all) := ⟨rfl, rfl, rfl, by decide +kernel, rfl, by decide +kernel, by decide +kernel⟩
theorem bd_Deck_do_all : BindH "do_all" "Deck.do_all" s_Deck_do_all ["self", "deeds"] := fun _ _ _ _ _ _ us hl => match us, hl with | [_, _], _ => rfl
abbrev s_Deck_busy : Stmt := inClass (top 101) 5
theorem sc_Deck_busy : FnScope ["self"] ["self"] (defScope s_Deck_busy) := ⟨rfl, rfl, rfl, by decide +kernel, rfl, by decide +kernel, by decide +kernel⟩
theorem bd_Deck_busy : BindH "busy" "Deck.busy" s_Deck_busy ["self"] := fun _ _ _ _ _ _ us hl => match us, hl with | [_], _ => rfl
abbrev s_Deck_undo : Stmt := inClass (top 101) 6
theorem sc_Deck_undo : FnScope ["self", "deeds", "begun"] ["self"] (defScope s_Deck_undo) := ⟨rfl, rfl, rfl, by decide +kernel, rfl, by decide +kernel, by decide +kernel⟩
theorem bd_Deck_undo : BindH "undo" "Deck.undo" s_Deck_undo ["self"] := fun _ _ _ _ _ _ us hl => match us, hl with | [_], _ => rfl
abbrev s_Deck_redo : Stmt := inClass (top 101) 7
theorem sc_Deck_redo : FnScope ["self", "deeds", "later_book"] ["self"] (defScope s_Deck_redo) := ⟨rfl, rfl, rfl, by decide +kernel, rfl, by decide +kernel, by decide +kernel⟩
theorem bd_Deck_redo : BindH "redo" "Deck.redo" s_Deck_redo ["self"] := fun _ _ _ _ _ _ us hl => match us, hl with | [_], _ => rfl
abbrev s_Deck_deeds : Stmt := inClass (top 101) 8
theorem sc_Deck_deeds : FnScope ["self", "deeds", "begun"] ["self"] (defScope s_Deck_deeds) := ⟨rfl, rfl, rfl, by decide +kernel, rfl, by decide +kernel, by decide +kernel⟩
theorem bd_Deck_deeds : BindH "deeds" "Deck.deeds" s_Deck_deeds ["self"] := fun _ _ _ _ _ _ us hl => match us, hl with | [_], _ => rfl
abbrev s_Deck_names : Stmt := inClass (top 101) 9
theorem sc_Deck_names : FnScope ["self"] ["self"] (defScope s_Deck_names) := ⟨rfl, rfl, rfl, by decide +kernel, rfl, by decide +kernel, by decide +kernel⟩
theorem bd_Deck_names : BindH "names" "Deck.names" s_Deck_names ["self"] := fun _ _ _ _ _ _ us hl => match us, hl with | [_], _ => rfl
abbrev s_Deck_tape : Stmt := inClass (top 101) 10
theorem sc_Deck_tape : FnScope ["self", "name"] ["self", "name"] (defScope s_Deck_tape) := ⟨rfl, rfl, rfl, by decide +kernel, rfl, by decide +kernel, by decide +kernel⟩
theorem bd_Deck_tape : BindH "tape" "Deck.tape" s_Deck_tape ["self", "name"] := fun _ _ _ _ _ _ us hl => match us, hl with | [_, _], _ => rfl
abbrev s_Lsame : Stmt := top 103
theorem sc_Lsame : FnScope ["_law_found", "_law_due", "_law_k"] ["_law_found", "_law_due"] (defScope s_Lsame) := ⟨rfl, rfl, rfl, by decide +kernel, rfl, by decide +kernel, by decide +kernel⟩
theorem bd_Lsame : BindH "_law_same" "_law_same" s_Lsame ["_law_found", "_law_due"] := fun _ _ _ _ _ _ us hl => match us, hl with | [_, _], _ => rfl
abbrev s_Ltried : Stmt := top 104
theorem sc_Ltried : FnScope ["_law_ask", "_law_found", "_law_word_here", "e"] ["_law_ask"] (defScope s_Ltried) := ⟨rfl, rfl, rfl, by decide +kernel, rfl, by decide +kernel, by decide +kernel⟩
theorem bd_Ltried : BindH "_law_tried" "_law_tried" s_Ltried ["_law_ask"] := fun _ _ _ _ _ _ us hl => match us, hl with | [_], _ => rfl
abbrev s_Lbegin : Stmt := top 105
theorem sc_Lbegin : FnScope ["_law_script"] ["_law_script"] (defScope s_Lbegin) := ⟨rfl, rfl, rfl, by decide +kernel, rfl, by decide +kernel, by decide +kernel⟩
theorem bd_Lbegin : BindH "_law_begin" "_law_begin" s_Lbegin ["_law_script"] := fun _ _ _ _ _ _ us hl => match us, hl with | [_], _ => rfl
abbrev s_Lpick : Stmt := top 106
theorem sc_Lpick : FnScope ["_law_draw", "_law_many", "_law_cell", "_law_got"] ["_law_draw", "_law_many"] (defScope s_Lpick) := ⟨rfl, rfl, rfl, by decide +kernel, rfl, by decide +kernel, by decide +kernel⟩
theorem bd_Lpick : BindH "_law_pick" "_law_pick" s_Lpick ["_law_draw", "_law_many"] := fun _ _ _ _ _ _ us hl => match us, hl with | [_, _], _ => rfl
abbrev s_Lnames : Stmt := top 107
theorem sc_Lnames : FnScope ["_law_draw", "_law_stem", "_law_at", "_law_first", "_law_letters", "_law_k"] ["_law_draw"] (defScope s_Lnames) := ⟨rfl, rfl, rfl, by decide +kernel, rfl, by decide +kernel, by decide +kernel⟩
theorem bd_Lnames : BindH "_law_names" "_law_names" s_Lnames ["_law_draw"] := fun _ _ _ _ _ _ us hl => match us, hl with | [_], _ => rfl
abbrev s_Lbook_copy : Stmt := top 108
theorem sc_Lbook_copy : FnScope ["_law_book", "_law_found", "_law_name", "_law_beat_here", "_law_known", "_law_tracks", "_law_track"] ["_law_book"] (defScope s_Lbook_copy) := ⟨rfl, rfl, rfl, by decide +kernel, rfl, by decide +kernel, by decide +kernel⟩
theorem bd_Lbook_copy : BindH "_law_book_copy" "_law_book_copy" s_Lbook_copy ["_law_book"] := fun _ _ _ _ _ _ us hl => match us, hl with | [_], _ => rfl
abbrev s_Lone : Stmt := top 109
theorem sc_Lone : FnScope ["_law_draw", "_law_some"] ["_law_draw", "_law_some"] (defScope s_Lone) := ⟨rfl, rfl, rfl, by decide +kernel, rfl, by decide +kernel, by decide +kernel⟩
theorem bd_Lone : BindH "_law_one" "_law_one" s_Lone ["_law_draw", "_law_some"] := fun _ _ _ _ _ _ us hl => match us, hl with | [_, _], _ => rfl
abbrev s_Lbeat : Stmt := top 110
theorem sc_Lbeat : FnScope ["_law_draw"] ["_law_draw"] (defScope s_Lbeat) := ⟨rfl, rfl, rfl, by decide +kernel, rfl, by decide +kernel, by decide +kernel⟩
theorem bd_Lbeat : BindH "_law_beat" "_law_beat" s_Lbeat ["_law_draw"] := fun _ _ _ _ _ _ us hl => match us, hl with | [_], _ => rfl
abbrev s_Ltick : Stmt := top 111
theorem sc_Ltick : FnScope ["_law_draw"] ["_law_draw"] (defScope s_Ltick) := ⟨rfl, rfl, rfl, by decide +kernel, rfl, by decide +kernel, by decide +kernel⟩
theorem bd_Ltick : BindH "_law_tick" "_law_tick" s_Ltick ["_law_draw"] := fun _ _ _ _ _ _ us hl => match us, hl with | [_], _ => rfl
abbrev s_Lchannel : Stmt := top 112
theorem sc_Lchannel : FnScope ["_law_draw"] ["_law_draw"] (defScope s_Lchannel) := ⟨rfl, rfl, rfl, by decide +kernel, rfl, by decide +kernel, by decide +kernel⟩
theorem bd_Lchannel : BindH "_law_channel" "_law_channel" s_Lchannel ["_law_draw"] := fun _ _ _ _ _ _ us hl => match us, hl with | [_], _ => rfl
abbrev s_Lkey : Stmt := top 113
theorem sc_Lkey : FnScope ["_law_draw"] ["_law_draw"] (defScope s_Lkey) := ⟨rfl, rfl, rfl, by decide +kernel, rfl, by decide +kernel, by decide +kernel⟩
theorem bd_Lkey : BindH "_law_key" "_law_key" s_Lkey ["_law_draw"] := fun _ _ _ _ _ _ us hl => match us, hl with | [_], _ => rfl
abbrev s_Lword : Stmt := top 114
theorem sc_Lword : FnScope ["_law_draw", "_law_most", "_law_signs", "_law_k"] ["_law_draw", "_law_most"] (defScope s_Lword) := ⟨rfl, rfl, rfl, by decide +kernel, rfl, by decide +kernel, by decide +kernel⟩
theorem bd_Lword : BindH "_law_word" "_law_word" s_Lword ["_law_draw", "_law_most"] := fun _ _ _ _ _ _ us hl => match us, hl with | [_, _], _ => rfl
abbrev s_Lthing : Stmt := top 115
theorem sc_Lthing : FnScope ["_law_draw", "_law_kind", "_law_channel_here"] ["_law_draw"] (defScope s_Lthing) := ⟨rfl, rfl, rfl, by decide +kernel, rfl, by decide +kernel, by decide +kernel⟩
theorem bd_Lthing : BindH "_law_thing" "_law_thing" s_Lthing ["_law_draw"] := fun _ _ _ _ _ _ us hl => match us, hl with | [_], _ => rfl
abbrev s_Lsome_event : Stmt := top 116
theorem sc_Lsome_event : FnScope ["_law_draw", "_law_track", "_law_event", "_law_ticks"] ["_law_draw", "_law_track"] (defScope s_Lsome_event) := ⟨rfl, rfl, rfl, by decide +kernel, rfl, by decide +kernel, by decide +kernel⟩
theorem bd_Lsome_event : BindH "_law_some_event" "_law_some_event" s_Lsome_event ["_law_draw", "_law_track"] := fun _ _ _ _ _ _ us hl => match us, hl with | [_, _], _ => rfl
abbrev s_Lpace : Stmt := top 117
theorem sc_Lpace : FnScope ["_law_draw"] ["_law_draw"] (defScope s_Lpace) := ⟨rfl, rfl, rfl, by decide +kernel, rfl, by decide +kernel, by decide +kernel⟩
theorem bd_Lpace : BindH "_law_pace" "_law_pace" s_Lpace ["_law_draw"] := fun _ _ _ _ _ _ us hl => match us, hl with | [_], _ => rfl
abbrev s_Lslim_deed : Stmt := top 118
theorem sc_Lslim_deed : FnScope ["_law_draw", "_law_book", "_law_names_here", "_law_beat_here", "_law_name", "_law_m", "_law_number", "_law_track", "_law_kind", "_law_first", "_law_tick_here"] ["_law_draw", "_law_book", "_law_names_here"] (defScope s_Lslim_deed) := ⟨rfl, rfl, rfl, by decide +kernel, rfl, by decide +kernel, by decide +kernel⟩
theorem bd_Lslim_deed : BindH "_law_slim_deed" "_law_slim_deed" s_Lslim_deed ["_law_draw", "_law_book", "_law_names_here"] := fun _ _ _ _ _ _ us hl => match us, hl with | [_, _, _], _ => rfl
abbrev s_Lslim_sizes : Stmt := top 119
theorem sc_Lslim_sizes : FnScope [] [] (defScope s_Lslim_sizes) := ⟨rfl, rfl, rfl, by decide +kernel, rfl, by decide +kernel, by decide +kernel⟩
theorem bd_Lslim_sizes : BindH "_law_slim_sizes" "_law_slim_sizes" s_Lslim_sizes [] := fun _ _ _ _ _ _ us hl => match us, hl with | [], _ => rfl
abbrev s_Lname_word : Stmt := top 120
theorem sc_Lname_word : FnScope ["_law_book", "_law_name", "_law_sign"] ["_law_book", "_law_name"] (defScope s_Lname_word) := ⟨rfl, rfl, rfl, by decide +kernel, rfl, by decide +kernel, by decide +kernel⟩
theorem bd_Lname_word : BindH "_law_name_word" "_law_name_word" s_Lname_word ["_law_book", "_law_name"] := fun _ _ _ _ _ _ us hl => match us, hl with | [_, _], _ => rfl
abbrev s_Lwithin : Stmt := top 121
theorem sc_Lwithin : FnScope ["_law_thing_here", "_law_least", "_law_most"] ["_law_thing_here", "_law_least", "_law_most"] (defScope s_Lwithin) := ⟨rfl, rfl, rfl, by decide +kernel, rfl, by decide +kernel, by decide +kernel⟩
theorem bd_Lwithin : BindH "_law_within" "_law_within" s_Lwithin ["_law_thing_here", "_law_least", "_law_most"] := fun _ _ _ _ _ _ us hl => match us, hl with | [_, _, _], _ => rfl
abbrev s_Levent_good : Stmt := top 122
theorem sc_Levent_good : FnScope ["_law_event", "_law_word_here", "_law_things", "_law_text", "_law_many", "_law_sign", "_law_thing_here"] ["_law_event"] (defScope s_Levent_good) := ⟨rfl, rfl, rfl, by decide +kernel, rfl, by decide +kernel, by decide +kernel⟩
theorem bd_Levent_good : BindH "_law_event_good" "_law_event_good" s_Levent_good ["_law_event"] := fun _ _ _ _ _ _ us hl => match us, hl with | [_], _ => rfl
abbrev s_Lslim_track_word : Stmt := top 123
theorem sc_Lslim_track_word : FnScope ["_law_m", "_law_track", "_law_deed", "_law_event"] ["_law_m", "_law_track", "_law_deed"] (defScope s_Lslim_track_word) := ⟨rfl, rfl, rfl, by decide +kernel, rfl, by decide +kernel, by decide +kernel⟩
theorem bd_Lslim_track_word : BindH "_law_slim_track_word" "_law_slim_track_word" s_Lslim_track_word ["_law_m", "_law_track", "_law_deed"] := fun _ _ _ _ _ _ us hl => match us, hl with | [_, _, _], _ => rfl
abbrev s_Lslim_word : Stmt := top 124
theorem sc_Lslim_word : FnScope ["_law_book", "_law_deed", "_law_word_here", "_law_m"] ["_law_book", "_law_deed"] (defScope s_Lslim_word) := ⟨rfl, rfl, rfl, by decide +kernel, rfl, by decide +kernel, by decide +kernel⟩
theorem bd_Lslim_word : BindH "_law_slim_word" "_law_slim_word" s_Lslim_word ["_law_book", "_law_deed"] := fun _ _ _ _ _ _ us hl => match us, hl with | [_, _], _ => rfl
abbrev s_Lput_in : Stmt := top 125
theorem sc_Lput_in : FnScope ["_law_track", "_law_event", "_law_at", "_law_one_here"] ["_law_track", "_law_event"] (defScope s_Lput_in) := ⟨rfl, rfl, rfl, by decide +kernel, rfl, by decide +kernel, by decide +kernel⟩
theorem bd_Lput_in : BindH "_law_put_in" "_law_put_in" s_Lput_in ["_law_track", "_law_event"] := fun _ _ _ _ _ _ us hl => match us, hl with | [_, _], _ => rfl
abbrev s_Llane : Stmt := top 126
theorem sc_Llane : FnScope ["_law_event"] ["_law_event"] (defScope s_Llane) := ⟨rfl, rfl, rfl, by decide +kernel, rfl, by decide +kernel, by decide +kernel⟩
theorem bd_Llane : BindH "_law_lane" "_law_lane" s_Llane ["_law_event"] := fun _ _ _ _ _ _ us hl => match us, hl with | [_], _ => rfl
abbrev s_Lslim_done : Stmt := top 127
theorem sc_Lslim_done : FnScope ["_law_book", "_law_deed", "_law_word_here", "_law_m", "_law_track", "_law_event"] ["_law_book", "_law_deed"] (defScope s_Lslim_done) := ⟨rfl, rfl, rfl, by decide +kernel, rfl, by decide +kernel, by decide +kernel⟩
theorem bd_Lslim_done : BindH "_law_slim_done" "_law_slim_done" s_Lslim_done ["_law_book", "_law_deed"] := fun _ _ _ _ _ _ us hl => match us, hl with | [_, _], _ => rfl
abbrev s_Lpairs : Stmt := top 128
theorem sc_Lpairs : FnScope ["_law_known", "_law_tick_here"] ["_law_known"] (defScope s_Lpairs) := ⟨rfl, rfl, rfl, by decide +kernel, rfl, by decide +kernel, by decide +kernel⟩
theorem bd_Lpairs : BindH "_law_pairs" "_law_pairs" s_Lpairs ["_law_known"] := fun _ _ _ _ _ _ us hl => match us, hl with | [_], _ => rfl
abbrev s_Ldeck_so : Stmt := top 129
theorem sc_Ldeck_so : FnScope ["_law_deck", "_law_book", "_law_name", "_law_tape", "_law_due"] ["_law_deck", "_law_book"] (defScope s_Ldeck_so) := ⟨rfl, rfl, rfl, by decide +kernel, rfl, by decide +kernel, by decide +kernel⟩
theorem bd_Ldeck_so : BindH "_law_deck_so" "_law_deck_so" s_Ldeck_so ["_law_deck", "_law_book"] := fun _ _ _ _ _ _ us hl => match us, hl with | [_, _], _ => rfl
abbrev s_Lswung : Stmt := top 130
theorem sc_Lswung : FnScope ["_law_deck", "_law_back", "_law_stands", "_law_ahead", "_law_one_here", "_law_other", "_law_told", "_law_good"] ["_law_deck", "_law_back", "_law_stands", "_law_ahead"] (defScope s_Lswung) := ⟨rfl, rfl, rfl, by decide +kernel, rfl, by decide +kernel, by decide +kernel⟩
theorem bd_Lswung : BindH "_law_swung" "_law_swung" s_Lswung ["_law_deck", "_law_back", "_law_stands", "_law_ahead"] := fun _ _ _ _ _ _ us hl => match us, hl with | [_, _, _, _], _ => rfl
abbrev s_law : Stmt := top 131
theorem sc_law : FnScope ["_law_script", "_law_draw", "_law_names_here", "_law_stands", "_law_ahead", "_law_turn", "_law_kind", "_law_book", "_law_word_here", "_law_told", "_law_back", "_law_deck", "_law_deed", "_law_row", "_law_one_here"] ["_law_script"] (defScope s_law) := ⟨rfl, rfl, rfl, by decide +kernel, rfl, by decide +kernel, by decide +kernel⟩
theorem bd_law : BindH "law" "law" s_law ["_law_script"] := fun _ _ _ _ _ _ us hl => match us, hl with | [_], _ => rfl
end R60

set_option Elab.async false
set_option pp.maxSteps 400
set_option linter.all false
set_option maxRecDepth 100000
set_option maxHeartbeats 2000000
namespace R60
open PySem PySem.Spec PyProof.Rows L2
/-! ### what the top has left: looks of our own -/
def errB (K : PySem.W.Frag) (x t1 t2 : Str) (bm : List Value) (nw : String) : Bool :=
  PySem.W.excInitIn K (He.ga K x) bm nw && (PySem.W.excOver K (He.ga K x) bm && (He.eqO (PySem.W.findIn K (.ref (He.ga K x)) "__setattr__") (some (some (.builtin "object.__setattr__"))) &&
  (He.eqO (PySem.W.findIn K (.ref (He.ga K x)) "__getattribute__") (some (some (.builtin "BaseException.__getattribute__"))) && (He.eqO (PySem.W.findIn K (.ref (He.ga K x)) "__getattr__") (some none) &&
  (He.eqO (PySem.W.findIn K (.ref (He.ga K x)) "called") (some none) && (He.eqO (PySem.W.findIn K (.ref (He.ga K x)) "__init__") (some (some (.ref (He.ma K (He.ga K x) "__init__")))) &&
  (decide (PySem.W.typeIn K (.ref (He.ma K (He.ga K x) "__init__")) = some (.type "function")) && (PySem.W.keepIn K (.ref (He.ga K x)) && (decide (PySem.W.subIn K (.ref (He.ga K x)) (.type "BaseException") = some true) &&
  (decide (PySem.W.typeIn K (.ref (He.ga K x)) = some (.type "type")) && (PySem.W.hasDictIn K (He.ga K x) &&
  (decide (PySem.W.exmOne K (.ref (He.ga K x)) (.ref (He.ga K t1)) = some true) || (decide (PySem.W.exmOne K (.ref (He.ga K x)) (.ref (He.ga K t1)) = some false) && decide (PySem.W.exmOne K (.ref (He.ga K x)) (.ref (He.ga K t2)) = some true))))))))))))))
/-- a value of the top is this (ints, texts, tuples) -/
def dB (K : PySem.W.Frag) : Nat → R60.D → Value → Bool
  | _, .int i, .int j _ => decide (i = j)
  | _, .str x, .str y _ => decide (x = y)
  | n + 1, .tup ds, .ref a => match K.lookup a with
    | some ⟨.type c, _, .seq its _, _⟩ => decide (c = "tuple") && (decide (its.size ≤ sizeLine) && go K n ds its.toList)
    | _ => false
  | _, _, _ => false
where go (K : PySem.W.Frag) (n : Nat) : List R60.D → List Value → Bool
  | [], [] => true
  | d :: ds, u :: us => dB K n d u && go K n ds us
  | _, _ => false
/-- the value of a table at a key is this -/
def tabB (K : PySem.W.Frag) (a : Addr) (k : Str) (d : R60.D) : Bool := match PySem.W.nsIn K a k with
  | some (some (.ref t)) => dB K 3 d (.ref t)
  | _ => false
/-- the keyword default x of the def at f, if it is an object -/
def kwAt (f : Str × Option Str) (x : Str) (K : PySem.W.Frag) : Addr := match K.lookup (He.fAd K f) with
  | some ⟨_, _, .func fd, _⟩ => (match fd.kwdefaults with
    | .ref T => (match PySem.W.nsIn K T x with
      | some (some (.ref a)) => a
      | _ => 0)
    | _ => 0)
  | _ => 0
def dd (at_ : Str × Option Str) (x qual : Str) (st : Stmt) : He.DefD := ⟨at_, x, qual, defArgs st, defBody st, defScope st, [], []⟩
/-! ### a Hook that looks at a list of addresses of one's own -/
def forceF {β : Type} : PySem.W.Frag → (PySem.W.Frag → β) → β
  | [], k => k []
  | (a, o) :: r, k => HandSHeadRun.frNat a fun a => forceF r fun r => k ((a, o) :: r)
theorem forceF_eq {β : Type} : ∀ (l : PySem.W.Frag) (k : PySem.W.Frag → β), forceF l k = k l
  | [], k => rfl
  | (a, o) :: r, k => by
    unfold forceF
    rw [HandSHeadRun.frNat_eq, forceF_eq r]
def fnR (g : Addr → Option Obj) (f : Addr) : List Addr := f :: (match g f with
  | some ⟨_, _, .func fd, _⟩ => He.refV fd.code ++ (He.refV fd.defaults ++ He.refV fd.kwdefaults)
  | _ => [])
def clR (g : Addr → Option Obj) (C : Addr) : List Addr := C :: (match g C with
  | some ⟨_, _, .cls cd, _⟩ => [cd.ns]
  | _ => [])
def itR (g : Addr → Option Obj) (a : Addr) : List Addr := match g a with
  | some ⟨_, _, .seq its _, _⟩ => its.toList.flatMap He.refV
  | some ⟨_, _, .dict es _, _⟩ => es.toList.flatMap fun e => He.refV e.val
  | _ => []
def deep (g : Addr → Option Obj) : Nat → List Addr → List Addr
  | 0, l => l
  | n + 1, l => l ++ deep g n (l.flatMap (itR g))
def obsY (as : (Addr → Option Obj) → List Addr) (fa : List He.Fa) (fn : List He.DefD) (ts : List He.Tab) (tf : List He.Defn) (ex : PySem.W.Frag → Bool) (g : Addr → Option Obj) : He.AlX := forceF (He.frT g (as g)) fun K => (He.obsT fa fn ts K, ex K && He.tabsB g tf K)
theorem saysY_of {as : (Addr → Option Obj) → List Addr} {fa : List He.Fa} {fn : List He.DefD} {ts : List He.Tab} {tf : List He.Defn} {ex : PySem.W.Frag → Bool} {w : World} {h : Heap} (e : obsY as fa fn ts tf ex h.get? = He.valX fn ts w) : He.SaysX fa fn ts tf ex w h (He.frT h.get? (as h.get?)) := by
  unfold obsY at e
  rw [forceF_eq] at e
  have e1 : He.obsT fa fn ts (He.frT h.get? (as h.get?)) = He.valT fn ts w := congrArg (fun z : He.AlX => z.1) e
  have e2 : (ex (He.frT h.get? (as h.get?)) && He.tabsB h.get? tf (He.frT h.get? (as h.get?))) = true := congrArg (fun z : He.AlX => z.2) e
  obtain ⟨h1, h2⟩ := He.ba e2
  have key : ∀ p ∈ tf, PySem.W.codeHdIn (He.frT h.get? (as h.get?)) (He.cT (He.frT h.get? (as h.get?)) p).1 (He.cT (He.frT h.get? (as h.get?)) p).2 = true ∧ ∃ o, h.get? (He.cT (He.frT h.get? (as h.get?)) p).2 = some o ∧ He.emptyTab o = true := fun p hp => by
    obtain ⟨h3, h4⟩ := He.ba (List.all_eq_true.mp h2 p hp)
    refine ⟨h3, ?_⟩
    cases q : h.get? (He.cT (He.frT h.get? (as h.get?)) p).2 with
    | none => rw [q] at h4; cases h4
    | some o => rw [q] at h4; exact ⟨o, rfl, h4⟩
  exact ⟨e1, h1, fun p hp => (key p hp).1, fun p hp => by
    obtain ⟨_, o, q, z⟩ := key p hp
    exact He.frT_none q z, fun p hp => by
    obtain ⟨_, o, q, z⟩ := key p hp
    rw [q, He.emptyTab_eq z]⟩
def hookY (as : (Addr → Option Obj) → List Addr) (fa : List He.Fa) (fn : List He.DefD) (ts : List He.Tab) (tf : List He.Defn) (ex : PySem.W.Frag → Bool) : PySem.W.Hook where
  α := He.AlX
  obs := fun s => obsY as fa fn ts tf ex s.heap.get?
  val := fun w => He.valX fn ts w
  says := fun w h => ∃ K : PySem.W.Frag, K.In h ∧ He.SaysX fa fn ts tf ex w h K
  of := fun _ _ e => ⟨_, He.frT_in, saysY_of e⟩
  keeps := fun _ _ _ ⟨K, hK, c⟩ k => ⟨K, PySem.W.Frag.In.keeps hK k, ⟨c.t, c.more, c.hd, c.out, fun p hp => k _ _ (c.empty p hp)⟩⟩
theorem obsY_eq {as : (Addr → Option Obj) → List Addr} {fa : List He.Fa} {fn : List He.DefD} {ts : List He.Tab} {tf : List He.Defn} {ex : PySem.W.Frag → Bool} {g : Addr → Option Obj} {s : Shared} (h : ∀ a, g a = s.heap.get? a) : obsY as fa fn ts tf ex g = (hookY as fa fn ts tf ex).obs s := by
  have e : g = s.heap.get? := funext h
  rw [e] <;> rfl
end R60

set_option Elab.async false
set_option pp.maxSteps 400
set_option linter.all false
set_option maxRecDepth 100000
set_option maxHeartbeats 0
namespace R60
open PySem PySem.Spec PyProof.Rows L2

abbrev s_eBadEvent : Stmt := inClass (top 4) 0
abbrev s_eBadBeat : Stmt := inClass (top 5) 0
abbrev s_eBadPace : Stmt := inClass (top 6) 0
abbrev s_eBadTick : Stmt := inClass (top 7) 0
abbrev s_eBadChannel : Stmt := inClass (top 10) 0
abbrev s_eBadName : Stmt := inClass (top 11) 0
abbrev s_eTaken : Stmt := inClass (top 12) 0
abbrev s_eFull : Stmt := inClass (top 13) 0
abbrev s_eNothingLeft : Stmt := inClass (top 15) 0
abbrev s_eNoTape : Stmt := inClass (top 18) 0
abbrev s_eNoTrack : Stmt := inClass (top 19) 0
abbrev s_eNoEvent : Stmt := inClass (top 20) 0
def hNames0 : List (Str) := ["_wall", "TapeError", "MissingError", "BadEvent", "BadBeat", "BadPace", "BadTick", "BadKey", "BadGrid", "BadChannel", "BadName", "Taken", "Full", "BadDeed", "NothingLeft", "BadTrack", "NotWhole", "NoTape", "NoTrack", "NoEvent", "NoPace", "MOST_TICK", "MOST_EVENTS", "MOST_SIGNS_events", "SIGNS"]
def hNames1 : List (Str) := ["CHANNEL", "SEVEN", "FORMS", "is_between", "is_text", "is_event", "need_track", "need_tick", "need_room", "need_room_events", "later", "keyed_event", "keyed", "put_in", "USUAL", "MOST_BEAT", "MOST_PACE", "MOST_PACES", "need_beat", "need_pace", "Map", "MOST_STEP", "WHOLE", "Grid", "evened"]
def hNames2 : List (Str) := ["SOFT", "paired", "notes", "lone", "hung", "cured", "MOST_TRACKS", "PLAIN_BEAT", "Tape", "Stand", "stand_behind", "is_of", "apart", "cut", "MOST_TAPES", "MOST_SIGNS_deeds", "LETTERS", "SIZES", "need_new", "need_room_deeds", "tape_of", "track_of", "with_track", "do_new", "do_add"]
def hNames3 : List (Str) := ["do_put", "do_take", "do_pace", "do_unpace", "do_later", "do_keyed", "do_even", "do_cure", "do_merge", "do_part", "at_new_beat", "do_beat", "do_cut", "DEEDS", "after", "Deck", "_law_same", "_law_tried", "_law_begin", "_law_pick", "_law_names", "_law_book_copy", "_law_one", "_law_beat", "_law_tick"]
def hNames4 : List (Str) := ["_law_channel", "_law_key", "_law_word", "_law_thing", "_law_some_event", "_law_pace", "_law_slim_deed", "_law_slim_sizes", "_law_name_word", "_law_within", "_law_event_good", "_law_slim_track_word", "_law_slim_word", "_law_put_in", "_law_lane", "_law_slim_done", "_law_pairs", "_law_deck_so", "_law_swung"]
def hNames : List (Str) := hNames0 ++ (hNames1 ++ (hNames2 ++ (hNames3 ++ (hNames4))))
def hFa0 : List (He.Fa) := [.free "len", .free "all", .free "zip", .free "list", .free "dict", .free "sorted", .free "isinstance", .free "int", .free "str", .free "bool", .free "tuple", .free "range", .free "enumerate", .glo "TapeError", .glo "MissingError", .glo "BadEvent", .glo "BadBeat", .glo "BadPace", .glo "BadTick", .glo "BadChannel", .glo "BadName", .glo "Taken", .glo "Full", .glo "NothingLeft", .glo "NoTape"]
def hFa1 : List (He.Fa) := [.glo "NoTrack", .glo "NoEvent", .int "MOST_TICK" 999999, .int "MOST_EVENTS" 200, .int "MOST_SIGNS_events" 12, .int "MOST_BEAT" 960, .int "MOST_PACE" 16777215, .int "MOST_PACES" 20, .int "MOST_TRACKS" 6, .int "MOST_TAPES" 6, .int "MOST_SIGNS_deeds" 8, .str "SIGNS" "abcdefghijklmnopqrstuvwxyz0123456789 ", .str "LETTERS" "abcdefghijklmnopqrstuvwxyz", .glo "is_between", .glo "is_text", .glo "is_event", .glo "need_track", .glo "need_tick", .glo "later", .glo "put_in", .glo "need_beat", .glo "need_pace", .glo "is_of", .glo "apart", .glo "need_new"]
def hFa2 : List (He.Fa) := [.glo "tape_of", .glo "track_of", .glo "with_track", .glo "do_new", .glo "do_add", .glo "do_put", .glo "do_take", .glo "do_pace", .glo "do_later", .glo "do_part", .glo "after", .glo "need_room_events", .glo "need_room_deeds", .glo "_law_same", .glo "_law_tried", .glo "_law_begin", .glo "_law_pick", .glo "_law_names", .glo "_law_book_copy", .glo "_law_one", .glo "_law_beat", .glo "_law_tick", .glo "_law_channel", .glo "_law_key", .glo "_law_word"]
def hFa3 : List (He.Fa) := [.glo "_law_thing", .glo "_law_some_event", .glo "_law_pace", .glo "_law_slim_deed", .glo "_law_slim_sizes", .glo "_law_name_word", .glo "_law_within", .glo "_law_event_good", .glo "_law_slim_track_word", .glo "_law_slim_word", .glo "_law_put_in", .glo "_law_lane", .glo "_law_slim_done", .glo "_law_pairs", .glo "_law_deck_so", .glo "_law_swung", .glo "law", .glo "Map", .cls "Map", .mkr "Map", .glo "Tape", .cls "Tape", .mkr "Tape", .glo "Deck", .cls "Deck"]
def hFa4 : List (He.Fa) := [.mkr "Deck", .noat "Map" "ticks", .noat "Map" "known", .noat "Tape" "own", .noat "Tape" "rows", .noat "Deck" "book", .noat "Deck" "elder", .noat "Deck" "past", .noat "Deck" "ahead", .noat "Deck" "under", .meth "Map" "put", .meth "Map" "beat", .meth "Map" "paces", .meth "Map" "twin", .meth "Tape" "beat", .meth "Tape" "tracks", .meth "Tape" "paces", .meth "Tape" "paced", .meth "Deck" "do", .meth "Deck" "do_all", .meth "Deck" "busy", .meth "Deck" "undo", .meth "Deck" "redo", .meth "Deck" "deeds", .meth "Deck" "names"]
def hFa5 : List (He.Fa) := [.meth "Deck" "tape", .meth "Deck" "__len__", .glo "SIZES", .glo "DEEDS", .glo "FORMS"]
def hFa : List (He.Fa) := hFa0 ++ (hFa1 ++ (hFa2 ++ (hFa3 ++ (hFa4 ++ (hFa5)))))
def hFn0 : List (He.DefD) := [dd ("is_between", none) "is_between" "is_between" s_is_between, dd ("is_text", none) "is_text" "is_text" s_is_text, dd ("is_event", none) "is_event" "is_event" s_is_event, dd ("need_track", none) "need_track" "need_track" s_need_track, dd ("need_tick", none) "need_tick" "need_tick" s_need_tick, dd ("later", none) "later" "later" s_later, dd ("put_in", none) "put_in" "put_in" s_put_in, dd ("need_beat", none) "need_beat" "need_beat" s_need_beat, dd ("need_pace", none) "need_pace" "need_pace" s_need_pace, dd ("is_of", none) "is_of" "is_of" s_is_of]
def hFn1 : List (He.DefD) := [dd ("apart", none) "apart" "apart" s_apart, dd ("need_new", none) "need_new" "need_new" s_need_new, dd ("tape_of", none) "tape_of" "tape_of" s_tape_of, dd ("track_of", none) "track_of" "track_of" s_track_of, dd ("with_track", none) "with_track" "with_track" s_with_track, dd ("do_new", none) "do_new" "do_new" s_do_new, dd ("do_add", none) "do_add" "do_add" s_do_add, dd ("do_put", none) "do_put" "do_put" s_do_put, dd ("do_take", none) "do_take" "do_take" s_do_take, dd ("do_pace", none) "do_pace" "do_pace" s_do_pace]
def hFn2 : List (He.DefD) := [dd ("do_later", none) "do_later" "do_later" s_do_later, dd ("do_part", none) "do_part" "do_part" s_do_part, dd ("after", none) "after" "after" s_after, dd ("need_room_events", none) "need_room" "need_room" s_need_room_e, dd ("need_room_deeds", none) "need_room" "need_room" s_need_room_d, dd ("_law_same", none) "_law_same" "_law_same" s_Lsame, dd ("_law_tried", none) "_law_tried" "_law_tried" s_Ltried, dd ("_law_begin", none) "_law_begin" "_law_begin" s_Lbegin, dd ("_law_pick", none) "_law_pick" "_law_pick" s_Lpick, dd ("_law_names", none) "_law_names" "_law_names" s_Lnames]
def hFn3 : List (He.DefD) := [dd ("_law_book_copy", none) "_law_book_copy" "_law_book_copy" s_Lbook_copy, dd ("_law_one", none) "_law_one" "_law_one" s_Lone, dd ("_law_beat", none) "_law_beat" "_law_beat" s_Lbeat, dd ("_law_tick", none) "_law_tick" "_law_tick" s_Ltick, dd ("_law_channel", none) "_law_channel" "_law_channel" s_Lchannel, dd ("_law_key", none) "_law_key" "_law_key" s_Lkey, dd ("_law_word", none) "_law_word" "_law_word" s_Lword, dd ("_law_thing", none) "_law_thing" "_law_thing" s_Lthing, dd ("_law_some_event", none) "_law_some_event" "_law_some_event" s_Lsome_event, dd ("_law_pace", none) "_law_pace" "_law_pace" s_Lpace]
def hFn4 : List (He.DefD) := [dd ("_law_slim_deed", none) "_law_slim_deed" "_law_slim_deed" s_Lslim_deed, dd ("_law_slim_sizes", none) "_law_slim_sizes" "_law_slim_sizes" s_Lslim_sizes, dd ("_law_name_word", none) "_law_name_word" "_law_name_word" s_Lname_word, dd ("_law_within", none) "_law_within" "_law_within" s_Lwithin, dd ("_law_event_good", none) "_law_event_good" "_law_event_good" s_Levent_good, dd ("_law_slim_track_word", none) "_law_slim_track_word" "_law_slim_track_word" s_Lslim_track_word, dd ("_law_slim_word", none) "_law_slim_word" "_law_slim_word" s_Lslim_word, dd ("_law_put_in", none) "_law_put_in" "_law_put_in" s_Lput_in, dd ("_law_lane", none) "_law_lane" "_law_lane" s_Llane, dd ("_law_slim_done", none) "_law_slim_done" "_law_slim_done" s_Lslim_done]
def hFn5 : List (He.DefD) := [dd ("_law_pairs", none) "_law_pairs" "_law_pairs" s_Lpairs, dd ("_law_deck_so", none) "_law_deck_so" "_law_deck_so" s_Ldeck_so, dd ("_law_swung", none) "_law_swung" "_law_swung" s_Lswung, dd ("law", none) "law" "law" s_law, dd ("Map", some "put") "put" "Map.put" s_Map_put, dd ("Map", some "beat") "beat" "Map.beat" s_Map_beat, dd ("Map", some "paces") "paces" "Map.paces" s_Map_paces, dd ("Map", some "twin") "twin" "Map.twin" s_Map_twin, dd ("Tape", some "beat") "beat" "Tape.beat" s_Tape_beat, dd ("Tape", some "tracks") "tracks" "Tape.tracks" s_Tape_tracks]
def hFn6 : List (He.DefD) := [dd ("Tape", some "paces") "paces" "Tape.paces" s_Tape_paces, dd ("Tape", some "paced") "paced" "Tape.paced" s_Tape_paced, dd ("Deck", some "do") "do" "Deck.do" s_Deck_do, dd ("Deck", some "do_all") "do_all" "Deck.do_all" s_Deck_do_all, dd ("Deck", some "busy") "busy" "Deck.busy" s_Deck_busy, dd ("Deck", some "undo") "undo" "Deck.undo" s_Deck_undo, dd ("Deck", some "redo") "redo" "Deck.redo" s_Deck_redo, dd ("Deck", some "deeds") "deeds" "Deck.deeds" s_Deck_deeds, dd ("Deck", some "names") "names" "Deck.names" s_Deck_names, dd ("Deck", some "tape") "tape" "Deck.tape" s_Deck_tape]
def hFn7 : List (He.DefD) := [dd ("Deck", some "__len__") "__len__" "Deck.__len__" s_Deck_len, dd ("Deck", some "__init__") "__init__" "Deck.__init__" s_Deck_init, ⟨("Map", some "__init__"), "__init__", "Map.__init__", defArgs s_Map_init, defBody s_Map_init, defScope s_Map_init, [.adr (He.dflAt ("Map", some "__init__") 0)], []⟩, ⟨("Tape", some "__init__"), "__init__", "Tape.__init__", defArgs s_Tape_init, defBody s_Tape_init, defScope s_Tape_init, [.int 96, .adr (He.dflAt ("Tape", some "__init__") 1)], [("paces", .adr (kwAt ("Tape", some "__init__") "paces"))]⟩, dd ("BadEvent", some "__init__") "__init__" "BadEvent.__init__" s_eBadEvent, dd ("BadBeat", some "__init__") "__init__" "BadBeat.__init__" s_eBadBeat, dd ("BadPace", some "__init__") "__init__" "BadPace.__init__" s_eBadPace, dd ("BadTick", some "__init__") "__init__" "BadTick.__init__" s_eBadTick, dd ("BadChannel", some "__init__") "__init__" "BadChannel.__init__" s_eBadChannel, dd ("BadName", some "__init__") "__init__" "BadName.__init__" s_eBadName]
def hFn8 : List (He.DefD) := [dd ("Taken", some "__init__") "__init__" "Taken.__init__" s_eTaken, dd ("Full", some "__init__") "__init__" "Full.__init__" s_eFull, dd ("NothingLeft", some "__init__") "__init__" "NothingLeft.__init__" s_eNothingLeft, dd ("NoTape", some "__init__") "__init__" "NoTape.__init__" s_eNoTape, dd ("NoTrack", some "__init__") "__init__" "NoTrack.__init__" s_eNoTrack, dd ("NoEvent", some "__init__") "__init__" "NoEvent.__init__" s_eNoEvent]
def hFn : List (He.DefD) := hFn0 ++ (hFn1 ++ (hFn2 ++ (hFn3 ++ (hFn4 ++ (hFn5 ++ (hFn6 ++ (hFn7 ++ (hFn8))))))))
def hSz : List (Str × He.Dv) := [("new", .int 3), ("drop", .int 2), ("add", .int 2), ("put", .int 4), ("take", .int 4), ("pace", .int 4), ("later", .int 4), ("part", .int 4)]
def hDd : List (Str × He.Dv) := [("new", .glo "do_new"), ("add", .glo "do_add"), ("put", .glo "do_put"), ("take", .glo "do_take"), ("pace", .glo "do_pace"), ("later", .glo "do_later"), ("part", .glo "do_part")]
def hF_on : R60.D := .tup [.tup [.int 0, .int 15], .tup [.int 0, .int 127], .tup [.int 1, .int 127]]
def hF_off : R60.D := .tup [.tup [.int 0, .int 15], .tup [.int 0, .int 127], .tup [.int 0, .int 127]]
def hF_knob : R60.D := .tup [.tup [.int 0, .int 15], .tup [.int 0, .int 127], .tup [.int 0, .int 127]]
def hF_voice : R60.D := .tup [.tup [.int 0, .int 15], .tup [.int 0, .int 127]]
def hTs : List He.Tab := [(fun K => He.ga K "SIZES", ["new", "drop", "add", "put", "take", "pace", "unpace", "later", "keyed", "even", "cure", "merge", "part", "beat", "cut"]), (fun K => He.ga K "DEEDS", ["new", "add", "put", "take", "pace", "unpace", "later", "keyed", "even", "cure", "merge", "part", "beat"]), (fun K => He.ga K "FORMS", ["on", "off", "knob", "voice"])]
def hTf : List He.Defn := [("_law_swung", none), ("law", none)]
def bmV : List Value := [.type "ValueError", .type "Exception", .type "BaseException", .type "object"]
def bmL : List Value := [.type "LookupError", .type "Exception", .type "BaseException", .type "object"]
def hExs (K : PySem.W.Frag) : List Bool := [errB K "BadEvent" "TapeError" "MissingError" bmV "ValueError.__new__", errB K "BadBeat" "TapeError" "MissingError" bmV "ValueError.__new__", errB K "BadPace" "TapeError" "MissingError" bmV "ValueError.__new__", errB K "BadTick" "TapeError" "MissingError" bmV "ValueError.__new__", errB K "BadChannel" "TapeError" "MissingError" bmV "ValueError.__new__", errB K "BadName" "TapeError" "MissingError" bmV "ValueError.__new__", errB K "Taken" "TapeError" "MissingError" bmV "ValueError.__new__", errB K "Full" "TapeError" "MissingError" bmV "ValueError.__new__", errB K "NothingLeft" "TapeError" "MissingError" bmV "ValueError.__new__", errB K "NoTape" "TapeError" "MissingError" bmL "LookupError.__new__", errB K "NoTrack" "TapeError" "MissingError" bmL "LookupError.__new__", errB K "NoEvent" "TapeError" "MissingError" bmL "LookupError.__new__", dB K 3 (.tup [.tup []]) (.ref (He.dflAt ("Tape", some "__init__") 1 K)), dB K 3 (.tup []) (.ref (kwAt ("Tape", some "__init__") "paces" K)), He.valsB K (He.ga K "SIZES") hSz, He.valsB K (He.ga K "DEEDS") hDd, R60.tabB K (He.ga K "FORMS") "on" hF_on, R60.tabB K (He.ga K "FORMS") "off" hF_off, R60.tabB K (He.ga K "FORMS") "knob" hF_knob, R60.tabB K (He.ga K "FORMS") "voice" hF_voice, !decide ((He.cT K ("_law_swung", none)).2 = (He.cT K ("law", none)).2)]
def hEx (K : PySem.W.Frag) : Bool := (hExs K).all id
def hFns0 : List (Str) := ["is_between", "is_text", "is_event", "need_track", "need_tick", "later", "put_in", "need_beat", "need_pace", "is_of", "apart", "need_new", "tape_of", "track_of", "with_track", "do_new", "do_add", "do_put", "do_take", "do_pace", "do_later", "do_part", "after", "need_room_events", "need_room_deeds"]
def hFns1 : List (Str) := ["_law_same", "_law_tried", "_law_begin", "_law_pick", "_law_names", "_law_book_copy", "_law_one", "_law_beat", "_law_tick", "_law_channel", "_law_key", "_law_word", "_law_thing", "_law_some_event", "_law_pace", "_law_slim_deed", "_law_slim_sizes", "_law_name_word", "_law_within", "_law_event_good", "_law_slim_track_word", "_law_slim_word", "_law_put_in", "_law_lane", "_law_slim_done"]
def hFns2 : List (Str) := ["_law_pairs", "_law_deck_so", "_law_swung", "law"]
def hFns : List (Str) := hFns0 ++ (hFns1 ++ (hFns2))
def hCls0 : List (Str) := ["TapeError", "MissingError", "BadEvent", "BadBeat", "BadPace", "BadTick", "BadChannel", "BadName", "Taken", "Full", "NothingLeft", "NoTape", "NoTrack", "NoEvent", "Map", "Tape", "Deck"]
def hCls : List (Str) := hCls0
def hPrs0 : List (Str × Str) := [("Map", "put"), ("Map", "beat"), ("Map", "paces"), ("Map", "twin"), ("Tape", "beat"), ("Tape", "tracks"), ("Tape", "paces"), ("Tape", "paced"), ("Deck", "do"), ("Deck", "do_all"), ("Deck", "busy"), ("Deck", "undo"), ("Deck", "redo"), ("Deck", "deeds"), ("Deck", "names"), ("Deck", "tape"), ("Deck", "__len__"), ("Deck", "__init__"), ("BadEvent", "__init__"), ("BadBeat", "__init__"), ("BadPace", "__init__"), ("BadTick", "__init__"), ("BadChannel", "__init__"), ("BadName", "__init__"), ("Taken", "__init__")]
def hPrs1 : List (Str × Str) := [("Full", "__init__"), ("NothingLeft", "__init__"), ("NoTape", "__init__"), ("NoTrack", "__init__"), ("NoEvent", "__init__")]
def hPrs : List (Str × Str) := hPrs0 ++ (hPrs1)
def hAs (g : Addr → Option Obj) : List Addr := forceF (He.frG g [mainGlobals]) fun G => forceF (He.frG g (hCls.flatMap fun x => clR g (He.ga G x))) fun KC =>
  mainGlobals :: (hFns.flatMap (fun x => fnR g (He.ga G x)) ++ (hCls.flatMap (fun x => clR g (He.ga G x)) ++ (hPrs.flatMap (fun p => fnR g (He.ma KC (He.ga G p.1) p.2)) ++ ((["Map", "Tape"] : List Str).flatMap (fun x => deep g 2 (fnR g (He.ma KC (He.ga G x) "__init__"))) ++ deep g 2 ((["SIZES", "DEEDS", "FORMS"] : List Str).map (He.ga G))))))
abbrev RR : PySem.W.OpenRow := PySem.W.OpenLaw.row PySem.Challenge.rw_reedtapes_k60_whole_decks_back_and_again
abbrev hHk : PySem.W.Hook := hookY hAs hFa hFn hTs hTf hEx
def hOb (s : PySem.W.SharedT) : He.AlX := obsY hAs hFa hFn hTs hTf hEx (HandSHeadRun.getT s)
theorem hOb_eq (s : PySem.W.SharedT) : hOb s = hHk.obs s.abs := obsY_eq (HandSHeadRun.getT_eq s)
end R60

set_option Elab.async false
set_option pp.maxSteps 400
set_option linter.all false
set_option maxRecDepth 100000
set_option maxHeartbeats 0
namespace R60
open PySem PySem.Spec PyProof.Rows L2
/-! the top's run in the kernel: by both answers of the one row that it asks; the looks and the Hook apart, for the kernel's memory -/
noncomputable abbrev hEnd (w : World) (os : OsState) := HandSHeadRun.endF (HandSHeadRun.stepQ (HandSHeadRun.denQ HandSHeadRun.tabQ) RR.prog w) 30000 RR.prog w os
noncomputable abbrev hSeen (s : Shared) := HandSHeadRun.seenQ (PySem.W.view RR.prog [131]) hNames (importedModules RR.prog.main.body) (fun s => PySem.W.xlAt (PySem.W.view RR.prog [131]) [] s && PySem.W.recOk RR.toRowW.records s) s
theorem hAF (w : World) (os : OsState) : (hEnd (w.withFollow "special-get-raises" false) os).map (fun s => (HandSHeadRun.looksF RR.prog (PySem.W.boot_heap (w.withFollow "special-get-raises" false).params) s.abs, hSeen s.abs)) = some (true, PySem.W.openGood (PySem.W.view RR.prog [131]) hNames) := by
  kernel_rfl
theorem hAT (w : World) (os : OsState) : (hEnd (w.withFollow "special-get-raises" true) os).map (fun s => (HandSHeadRun.looksF RR.prog (PySem.W.boot_heap (w.withFollow "special-get-raises" true).params) s.abs, hSeen s.abs)) = some (true, PySem.W.openGood (PySem.W.view RR.prog [131]) hNames) := by
  kernel_rfl
theorem hCF (w : World) (os : OsState) : (hEnd (w.withFollow "special-get-raises" false) os).map hOb = some (He.valX hFn hTs (w.withFollow "special-get-raises" false)) := by
  kernel_rfl
theorem hCT (w : World) (os : OsState) : (hEnd (w.withFollow "special-get-raises" true) os).map hOb = some (He.valX hFn hTs (w.withFollow "special-get-raises" true)) := by
  kernel_rfl
theorem hJoin {w : World} (a : ∀ os : OsState, (hEnd w os).map (fun s => (HandSHeadRun.looksF RR.prog (PySem.W.boot_heap w.params) s.abs, hSeen s.abs)) = some (true, PySem.W.openGood (PySem.W.view RR.prog [131]) hNames)) (c : ∀ os : OsState, (hEnd w os).map hOb = some (He.valX hFn hTs w)) : HandSHeadRun.RunEq RR (PySem.W.view RR.prog [131]) hHk hOb 30000 hNames w := fun os => by
  obtain ⟨s, e1, e2⟩ := Option.map_eq_some_iff.mp (a os)
  obtain ⟨s', e3, e4⟩ := Option.map_eq_some_iff.mp (c os)
  have e5 : s = s' := Option.some.inj (e1.symm.trans e3)
  subst e5
  obtain ⟨l1, l2⟩ := Prod.mk.inj e2
  show (hEnd w os).map (fun s => (HandSHeadRun.looksF RR.prog (PySem.W.boot_heap w.params) s.abs, hSeen s.abs, hOb s)) = some (true, PySem.W.openGood (PySem.W.view RR.prog [131]) hNames, He.valX hFn hTs w)
  rw [e1]
  show some (HandSHeadRun.looksF RR.prog (PySem.W.boot_heap w.params) s.abs, hSeen s.abs, hOb s) = _
  rw [l1, l2, e4]
theorem hRun (w : World) : HandSHeadRun.RunEq RR (PySem.W.view RR.prog [131]) hHk hOb 30000 hNames w := PySem.W.byRow2 "special-get-raises" (P := fun w => HandSHeadRun.RunEq RR (PySem.W.view RR.prog [131]) hHk hOb 30000 hNames w) (fun w => hJoin (hAF w) (hCF w)) (fun w => hJoin (hAT w) (hCT w)) w
end R60

set_option Elab.async false
set_option linter.all false
set_option maxRecDepth 100000
set_option maxHeartbeats 4000000
namespace R60
open PySem PySem.Spec PyProof.Rows L2
/-! ### the plain things -/
inductive Kd where
  | on | off | knob | voice | mark
  deriving DecidableEq
def Kd.s : Kd → Str
  | .on => "on" | .off => "off" | .knob => "knob" | .voice => "voice" | .mark => "mark"
inductive At where
  | i (n : Int) | s (z : Str)
def At.d : At → D
  | .i n => .int n
  | .s z => .str z
structure Ev where
  t : Int
  k : Kd
  xs : List At
def Ev.d (e : Ev) : D := .tup (.int e.t :: .str e.k.s :: e.xs.map At.d)
abbrev Tr := List Ev
def trD (t : Tr) : D := .lst (t.map Ev.d)
def trsD (ts : List Tr) : D := .lst (ts.map trD)
def signs : Str := "abcdefghijklmnopqrstuvwxyz0123456789 "
def letters : Str := "abcdefghijklmnopqrstuvwxyz"
def inR (lo hi : Int) : At → Bool
  | .i n => decide (lo ≤ n) && decide (n ≤ hi)
  | .s _ => false
def txtOk : At → Bool
  | .s z => decide ((z.length : Int) ≤ 12) && z.cps.toList.all fun c => decide (c ∈ signs.cps.toList)
  | .i _ => false
def Ev.ok (e : Ev) : Bool := (decide (0 ≤ e.t) && decide (e.t ≤ 999999)) && match e.k, e.xs with
  | .mark, [a] => txtOk a
  | .on, [a, b, c] => inR 0 15 a && inR 0 127 b && inR 1 127 c
  | .off, [a, b, c] => inR 0 15 a && inR 0 127 b && inR 0 127 c
  | .knob, [a, b, c] => inR 0 15 a && inR 0 127 b && inR 0 127 c
  | .voice, [a, b] => inR 0 15 a && inR 0 127 b
  | _, _ => false
/-- small enough to be looked at -/
structure Ev.fit (e : Ev) : Prop where
  n : e.xs.length ≤ 10
  z : ∀ a ∈ e.xs, ∀ z, a = .s z → z.length ≤ 1000
/-! ### where the text stands -/
structure Txt (w : World) (K : PySem.W.Frag) (mg : Str → Option Value) (MC TC DC : Addr) : Prop where
  n_len : mg "len" = none
  n_all : mg "all" = none
  n_zip : mg "zip" = none
  n_list : mg "list" = none
  n_dict : mg "dict" = none
  n_sorted : mg "sorted" = none
  n_isinstance : mg "isinstance" = none
  n_int : mg "int" = none
  n_str : mg "str" = none
  n_bool : mg "bool" = none
  n_tuple : mg "tuple" = none
  n_range : mg "range" = none
  n_enumerate : mg "enumerate" = none
  e_BadEvent : ErrN K mg "BadEvent" "badevent"
  e_BadBeat : ErrN K mg "BadBeat" "badbeat"
  e_BadPace : ErrN K mg "BadPace" "badpace"
  e_BadTick : ErrN K mg "BadTick" "badtick"
  e_BadChannel : ErrN K mg "BadChannel" "badchannel"
  e_BadName : ErrN K mg "BadName" "badname"
  e_Taken : ErrN K mg "Taken" "taken"
  e_Full : ErrN K mg "Full" "full"
  e_NothingLeft : ErrN K mg "NothingLeft" "nothingleft"
  e_NoTape : ErrN K mg "NoTape" "notape"
  e_NoTrack : ErrN K mg "NoTrack" "notrack"
  e_NoEvent : ErrN K mg "NoEvent" "noevent"
  c_MOST_TICK : GloV mg "MOST_TICK" (.int 999999)
  c_MOST_EVENTS : GloV mg "MOST_EVENTS" (.int 200)
  c_MOST_SIGNS_events : GloV mg "MOST_SIGNS_events" (.int 12)
  c_MOST_BEAT : GloV mg "MOST_BEAT" (.int 960)
  c_MOST_PACE : GloV mg "MOST_PACE" (.int 16777215)
  c_MOST_PACES : GloV mg "MOST_PACES" (.int 20)
  c_MOST_TRACKS : GloV mg "MOST_TRACKS" (.int 6)
  c_MOST_TAPES : GloV mg "MOST_TAPES" (.int 6)
  c_MOST_SIGNS_deeds : GloV mg "MOST_SIGNS_deeds" (.int 8)
  c_SIGNS : GloV mg "SIGNS" (.str signs)
  c_LETTERS : GloV mg "LETTERS" (.str letters)
  d_is_between : DefX K mg "is_between" "is_between" "is_between" s_is_between
  d_is_text : DefX K mg "is_text" "is_text" "is_text" s_is_text
  d_is_event : DefX K mg "is_event" "is_event" "is_event" s_is_event
  d_need_track : DefX K mg "need_track" "need_track" "need_track" s_need_track
  d_need_tick : DefX K mg "need_tick" "need_tick" "need_tick" s_need_tick
  d_later : DefX K mg "later" "later" "later" s_later
  d_put_in : DefX K mg "put_in" "put_in" "put_in" s_put_in
  d_need_beat : DefX K mg "need_beat" "need_beat" "need_beat" s_need_beat
  d_need_pace : DefX K mg "need_pace" "need_pace" "need_pace" s_need_pace
  d_is_of : DefX K mg "is_of" "is_of" "is_of" s_is_of
  d_apart : DefX K mg "apart" "apart" "apart" s_apart
  d_need_new : DefX K mg "need_new" "need_new" "need_new" s_need_new
  d_tape_of : DefX K mg "tape_of" "tape_of" "tape_of" s_tape_of
  d_track_of : DefX K mg "track_of" "track_of" "track_of" s_track_of
  d_with_track : DefX K mg "with_track" "with_track" "with_track" s_with_track
  d_do_new : DefX K mg "do_new" "do_new" "do_new" s_do_new
  d_do_add : DefX K mg "do_add" "do_add" "do_add" s_do_add
  d_do_put : DefX K mg "do_put" "do_put" "do_put" s_do_put
  d_do_take : DefX K mg "do_take" "do_take" "do_take" s_do_take
  d_do_pace : DefX K mg "do_pace" "do_pace" "do_pace" s_do_pace
  d_do_later : DefX K mg "do_later" "do_later" "do_later" s_do_later
  d_do_part : DefX K mg "do_part" "do_part" "do_part" s_do_part
  d_after : DefX K mg "after" "after" "after" s_after
  d_need_room_e : DefX K mg "need_room_events" "need_room" "need_room" s_need_room_e
  d_need_room_d : DefX K mg "need_room_deeds" "need_room" "need_room" s_need_room_d
  d_Lsame : DefX K mg "_law_same" "_law_same" "_law_same" s_Lsame
  d_Ltried : DefX K mg "_law_tried" "_law_tried" "_law_tried" s_Ltried
  d_Lbegin : DefX K mg "_law_begin" "_law_begin" "_law_begin" s_Lbegin
  d_Lpick : DefX K mg "_law_pick" "_law_pick" "_law_pick" s_Lpick
  d_Lnames : DefX K mg "_law_names" "_law_names" "_law_names" s_Lnames
  d_Lbook_copy : DefX K mg "_law_book_copy" "_law_book_copy" "_law_book_copy" s_Lbook_copy
  d_Lone : DefX K mg "_law_one" "_law_one" "_law_one" s_Lone
  d_Lbeat : DefX K mg "_law_beat" "_law_beat" "_law_beat" s_Lbeat
  d_Ltick : DefX K mg "_law_tick" "_law_tick" "_law_tick" s_Ltick
  d_Lchannel : DefX K mg "_law_channel" "_law_channel" "_law_channel" s_Lchannel
  d_Lkey : DefX K mg "_law_key" "_law_key" "_law_key" s_Lkey
  d_Lword : DefX K mg "_law_word" "_law_word" "_law_word" s_Lword
  d_Lthing : DefX K mg "_law_thing" "_law_thing" "_law_thing" s_Lthing
  d_Lsome_event : DefX K mg "_law_some_event" "_law_some_event" "_law_some_event" s_Lsome_event
  d_Lpace : DefX K mg "_law_pace" "_law_pace" "_law_pace" s_Lpace
  d_Lslim_deed : DefX K mg "_law_slim_deed" "_law_slim_deed" "_law_slim_deed" s_Lslim_deed
  d_Lslim_sizes : DefX K mg "_law_slim_sizes" "_law_slim_sizes" "_law_slim_sizes" s_Lslim_sizes
  d_Lname_word : DefX K mg "_law_name_word" "_law_name_word" "_law_name_word" s_Lname_word
  d_Lwithin : DefX K mg "_law_within" "_law_within" "_law_within" s_Lwithin
  d_Levent_good : DefX K mg "_law_event_good" "_law_event_good" "_law_event_good" s_Levent_good
  d_Lslim_track_word : DefX K mg "_law_slim_track_word" "_law_slim_track_word" "_law_slim_track_word" s_Lslim_track_word
  d_Lslim_word : DefX K mg "_law_slim_word" "_law_slim_word" "_law_slim_word" s_Lslim_word
  d_Lput_in : DefX K mg "_law_put_in" "_law_put_in" "_law_put_in" s_Lput_in
  d_Llane : DefX K mg "_law_lane" "_law_lane" "_law_lane" s_Llane
  d_Lslim_done : DefX K mg "_law_slim_done" "_law_slim_done" "_law_slim_done" s_Lslim_done
  d_Lpairs : DefX K mg "_law_pairs" "_law_pairs" "_law_pairs" s_Lpairs
  d_Ldeck_so : DefX K mg "_law_deck_so" "_law_deck_so" "_law_deck_so" s_Ldeck_so
  m_Map_put : DefM K MC "put" "Map.put" s_Map_put
  m_Map_beat : DefM K MC "beat" "Map.beat" s_Map_beat
  m_Map_paces : DefM K MC "paces" "Map.paces" s_Map_paces
  m_Map_twin : DefM K MC "twin" "Map.twin" s_Map_twin
  m_Tape_beat : DefM K TC "beat" "Tape.beat" s_Tape_beat
  m_Tape_tracks : DefM K TC "tracks" "Tape.tracks" s_Tape_tracks
  m_Tape_paces : DefM K TC "paces" "Tape.paces" s_Tape_paces
  m_Tape_paced : DefM K TC "paced" "Tape.paced" s_Tape_paced
  m_Deck_do : DefM K DC "do" "Deck.do" s_Deck_do
  m_Deck_do_all : DefM K DC "do_all" "Deck.do_all" s_Deck_do_all
  m_Deck_busy : DefM K DC "busy" "Deck.busy" s_Deck_busy
  m_Deck_undo : DefM K DC "undo" "Deck.undo" s_Deck_undo
  m_Deck_redo : DefM K DC "redo" "Deck.redo" s_Deck_redo
  m_Deck_deeds : DefM K DC "deeds" "Deck.deeds" s_Deck_deeds
  m_Deck_names : DefM K DC "names" "Deck.names" s_Deck_names
  m_Deck_tape : DefM K DC "tape" "Deck.tape" s_Deck_tape
  cl_Map : Cls K MC
  na_Map_ticks : NoAttr K MC "ticks"
  na_Map_known : NoAttr K MC "known"
  cl_Tape : Cls K TC
  na_Tape_own : NoAttr K TC "own"
  na_Tape_rows : NoAttr K TC "rows"
  cl_Deck : Cls K DC
  na_Deck_book : NoAttr K DC "book"
  na_Deck_elder : NoAttr K DC "elder"
  na_Deck_past : NoAttr K DC "past"
  na_Deck_ahead : NoAttr K DC "ahead"
  na_Deck_under : NoAttr K DC "under"
  i_Map : ∃ (f : Addr) (fd : FuncData) (e0 : Addr), mg "Map" = some (.ref MC) ∧ Mk K MC f ∧ FunD K "__init__" "Map.__init__" (defArgs s_Map_init) (defBody s_Map_init) (defScope s_Map_init) [.ref e0] [] f fd
  i_Tape : ∃ (f : Addr) (fd : FuncData) (tr0 e0 e1 : Addr), mg "Tape" = some (.ref TC) ∧ Mk K TC f ∧ FunD K "__init__" "Tape.__init__" (defArgs s_Tape_init) (defBody s_Tape_init) (defScope s_Tape_init) [.int 96, .ref tr0] [("paces", .ref e1)] f fd ∧ (∀ F, SqT K F tr0 [.ref e0]) ∧ (∀ F, SqT K F e0 []) ∧ (∀ F, SqT K F e1 [])
  m_Deck_len : DefM K DC "__len__" "Deck.__len__" s_Deck_len
  x_TapeError : ∃ t : Addr, mg "TapeError" = some (.ref t)
  x_MissingError : ∃ t : Addr, mg "MissingError" = some (.ref t)
  i_Deck : ∃ (f : Addr) (fd : FuncData), mg "Deck" = some (.ref DC) ∧ Mk K DC f ∧ Fun K "__init__" "Deck.__init__" s_Deck_init f fd
  k_SIZES : ∃ a : Addr, mg "SIZES" = some (.ref a) ∧ (a == sysModules) = false ∧ KDct K w a "new" (.int 3) ∧ KDct K w a "drop" (.int 2) ∧ KDct K w a "add" (.int 2) ∧ KDct K w a "put" (.int 4) ∧ KDct K w a "take" (.int 4) ∧ KDct K w a "pace" (.int 4) ∧ KDct K w a "later" (.int 4) ∧ KDct K w a "part" (.int 4)
  k_DEEDS : ∃ a : Addr, mg "DEEDS" = some (.ref a) ∧ (∃ f : Addr, KDct K w a "new" (.ref f) ∧ mg "do_new" = some (.ref f)) ∧ (∃ f : Addr, KDct K w a "add" (.ref f) ∧ mg "do_add" = some (.ref f)) ∧ (∃ f : Addr, KDct K w a "put" (.ref f) ∧ mg "do_put" = some (.ref f)) ∧ (∃ f : Addr, KDct K w a "take" (.ref f) ∧ mg "do_take" = some (.ref f)) ∧ (∃ f : Addr, KDct K w a "pace" (.ref f) ∧ mg "do_pace" = some (.ref f)) ∧ (∃ f : Addr, KDct K w a "later" (.ref f) ∧ mg "do_later" = some (.ref f)) ∧ (∃ f : Addr, KDct K w a "part" (.ref f) ∧ mg "do_part" = some (.ref f))
  k_FORMS : ∃ a : Addr, mg "FORMS" = some (.ref a) ∧ (a == sysModules) = false ∧ (∃ t : Addr, KDct K w a "on" (.ref t) ∧ ∀ F, DAt K F (.tup [.tup [.int 0, .int 15], .tup [.int 0, .int 127], .tup [.int 1, .int 127]]) (.ref t)) ∧ (∃ t : Addr, KDct K w a "off" (.ref t) ∧ ∀ F, DAt K F (.tup [.tup [.int 0, .int 15], .tup [.int 0, .int 127], .tup [.int 0, .int 127]]) (.ref t)) ∧ (∃ t : Addr, KDct K w a "knob" (.ref t) ∧ ∀ F, DAt K F (.tup [.tup [.int 0, .int 15], .tup [.int 0, .int 127], .tup [.int 0, .int 127]]) (.ref t)) ∧ (∃ t : Addr, KDct K w a "voice" (.ref t) ∧ ∀ F, DAt K F (.tup [.tup [.int 0, .int 15], .tup [.int 0, .int 127]]) (.ref t))
end R60

set_option Elab.async false
set_option pp.maxSteps 400
set_option linter.all false
set_option maxRecDepth 100000
set_option maxHeartbeats 4000000
namespace R60
open PySem PySem.Spec PyProof.Rows L2
section
variable {w : World} {K : PySem.W.Frag} {mg : Str → Option Value} {base : Heap} {MC TC DC : Addr}
def p_is_between (K : PySem.W.Frag) (mg : Str → Option Value) : Sp := spG (ι := At × Int × Int) (α := Unit) K mg (fun _ => m0) (fun i => [Is K i.1.d, Is K (.tup [.int i.2.1, .int i.2.2])]) (fun _ => .ok ()) (fun i _ => Is K (.bl (inR i.2.1 i.2.2 i.1)))
theorem f_is_between (T : Txt w K mg MC TC DC) : CalX PG w K mg base 1 "is_between" (p_is_between K mg) := by
  refine cal_blk T.d_is_between sc_is_between bd_is_between (fun _ => rfl) (fun _ => rfl) ?_
  rintro ⟨a, lo, hi⟩ f cdv A outer s H E hr
  refine b_asg (e_var 1 rfl) (tg_tupD rfl (tg_cons (tg_name 2 sc_is_between.nd) (tg_cons (tg_name 3 sc_is_between.nd) tg_nil))) ?_
  cases a with
  | i n => exact b_retD (v := ()) (e_and (e_isi T.n_isinstance T.n_int (e_var 0 rfl) kb_int_int) fun _ => e_one (e_lele (e_var 2 rfl) (e_var 0 rfl) (e_var 3 rfl))) rfl rfl
  | s z => exact b_retD (v := ()) (e_and (k' := false) (e_isi T.n_isinstance T.n_int (e_var 0 rfl) kb_str_int) fun h => nomatch h) rfl rfl
/-! need_tick, need_beat, need_pace, need_room -/
def needTick (t : Int) : Except Str Unit := thr (!(decide (0 ≤ t) && decide (t ≤ 999999))) "badtick"
def needBeat (t : Int) : Except Str Unit := thr (!(decide (1 ≤ t) && decide (t ≤ 960))) "badbeat"
def needPace (t : Int) : Except Str Unit := thr (!(decide (1 ≤ t) && decide (t ≤ 16777215))) "badpace"
def needRoomE (n : Nat) : Except Str Unit := thr (decide ((200 : Int) < n)) "full"
def p_need_tick (K : PySem.W.Frag) (mg : Str → Option Value) : Sp := spG (ι := Int) K mg (fun _ => m0) (fun i => [Is K (.int i)]) needTick (fun _ _ => Is K .non)
def p_need_beat (K : PySem.W.Frag) (mg : Str → Option Value) : Sp := spG (ι := Int) K mg (fun _ => m0) (fun i => [Is K (.int i)]) needBeat (fun _ _ => Is K .non)
def p_need_pace (K : PySem.W.Frag) (mg : Str → Option Value) : Sp := spG (ι := Int) K mg (fun _ => m0) (fun i => [Is K (.int i)]) needPace (fun _ _ => Is K .non)
def p_need_room_e (K : PySem.W.Frag) (mg : Str → Option Value) : Sp := spG (ι := List D) K mg (fun _ => m0) (fun i => [Is K (.lst i)]) (fun i => needRoomE i.length) (fun _ _ => Is K .non)
theorem f_need_tick (T : Txt w K mg MC TC DC) : CalX PG w K mg base 1 "need_tick" (p_need_tick K mg) := by
  refine cal_stf T.d_need_tick sc_need_tick bd_need_tick (fun _ => rfl) (fun _ => rfl) ?_
  intro t f cdv A outer s H E hr
  refine ⟨_, f_one (s_ifraise (t_notB (t_lele e_int (e_var 0 rfl) (e_glob T.c_MOST_TICK fun _ => .int .nil))) T.e_BadTick hr rfl (takes_of rfl rfl rfl rfl))⟩
theorem f_need_beat (T : Txt w K mg MC TC DC) : CalX PG w K mg base 1 "need_beat" (p_need_beat K mg) := by
  refine cal_stf T.d_need_beat sc_need_beat bd_need_beat (fun _ => rfl) (fun _ => rfl) ?_
  intro t f cdv A outer s H E hr
  refine ⟨_, f_one (s_ifraise (t_notB (t_lele e_int (e_var 0 rfl) (e_glob T.c_MOST_BEAT fun _ => .int .nil))) T.e_BadBeat hr rfl (takes_of rfl rfl rfl rfl))⟩
theorem f_need_pace (T : Txt w K mg MC TC DC) : CalX PG w K mg base 1 "need_pace" (p_need_pace K mg) := by
  refine cal_stf T.d_need_pace sc_need_pace bd_need_pace (fun _ => rfl) (fun _ => rfl) ?_
  intro t f cdv A outer s H E hr
  refine ⟨_, f_one (s_ifraise (t_notB (t_lele e_int (e_var 0 rfl) (e_glob T.c_MOST_PACE fun _ => .int .nil))) T.e_BadPace hr rfl (takes_of rfl rfl rfl rfl))⟩
theorem f_need_room_e (T : Txt w K mg MC TC DC) : CalX PG w K mg base 1 "need_room_events" (p_need_room_e K mg) := by
  refine cal_stf T.d_need_room_e sc_need_room_e bd_need_room_e (fun _ => rfl) (fun _ => rfl) ?_
  intro t f cdv A outer s H E hr
  refine ⟨_, f_one (s_ifraise (t_gt (e_lenL T.n_len (e_var 0 rfl)) (e_glob T.c_MOST_EVENTS fun _ => .int .nil)) T.e_Full hr rfl (takes_of rfl rfl rfl rfl))⟩
/-! is_text -/
def p_is_text (K : PySem.W.Frag) (mg : Str → Option Value) : Sp := spG (ι := { a : At // ∀ z, a = .s z → z.length ≤ 1000 }) (α := Unit) K mg (fun _ => m0) (fun i => [Is K i.1.d]) (fun _ => .ok ()) (fun i _ => Is K (.bl (txtOk i.1)))
theorem e_inSign {X : Cx} {m : Mu} {Γ : Gam} {a b : Expr} {pos : Pos} {c : Nat} {z : Str} (ha : EvE X m Γ a (Is X.K (.str ⟨#[c]⟩))) (hb : EvE X m Γ b (Is X.K (.str z))) (hm : behindInMarks .In b = false := by rfl) : EvE X m Γ (.Compare a [.In] [b] pos) (Is X.K (.bl (decide (c ∈ z.cps.toList)))) :=
  e_cmp op_in_sign hm ha hb fun v u F H Q ex p1 p2 q => ⟨c, z, DAt.s p1, DAt.s p2, q _ F H (Gr.refl ex) (.bl .nil)⟩
theorem all_map {α : Type} {xs : List α} {f : α → Bool} : (xs.map f).all id = xs.all f := by rw [List.all_map] <;> rfl
theorem f_is_text (T : Txt w K mg MC TC DC) : CalX PG w K mg base 1 "is_text" (p_is_text K mg) := by
  refine cal_blk T.d_is_text sc_is_text bd_is_text (fun _ => rfl) (fun _ => rfl) ?_
  rintro ⟨a, ha⟩ f cdv A outer s H E hr
  cases a with
  | i n => exact b_retD (v := ()) (e_and (k' := false) (e_isi T.n_isinstance T.n_str (e_var 0 rfl) kb_int_str) fun h => nomatch h) rfl rfl
  | s z =>
    have hz := ha z rfl
    refine b_retD (v := ()) (e_and (e_isi T.n_isinstance T.n_str (e_var 0 rfl) kb_str_str) fun _ => e_and (e_le (e_lenS T.n_len hz (e_var 0 rfl)) (e_glob T.c_MOST_SIGNS_events fun _ => .int .nil)) fun _ => e_one
      (e_all (bs := z.cps.toList.map fun c => decide (c ∈ signs.cps.toList)) rfl T.n_all ?_)) rfl ?_
    · refine EvE.eq (e_lcAll (xs := z.cps.toList) (fun c => [some (Is K (.str z)), some (Is K (.str ⟨#[c]⟩))]) [1] (fun c => .bl (decide (c ∈ signs.cps.toList))) rfl sc_is_text.nd (i_str (e_var 0 rfl)) (by simpa [PySem.Str.length] using Nat.le_trans hz (by decide)) (blkOk_by (own := [("sign", 1)]) (N := ["thing", "sign"]) (sc := defScope s_is_text) (by decide +kernel))
        (fun i x hx _ _ _ _ _ => tgY hx (tg_name 1 sc_is_text.nd)) (fun c hc _ _ _ _ _ => e_inSign (e_var 1 rfl) (e_glob T.c_SIGNS fun _ => .str .nil))) ?_
      rw [List.map_map] <;> rfl
    · rw [all_map] <;> rfl
end
end R60

set_option Elab.async false
set_option pp.maxSteps 400
set_option linter.all false
set_option maxRecDepth 100000
set_option maxHeartbeats 4000000
namespace R60
open PySem PySem.Spec PyProof.Rows L2
section
variable {w : World} {K : PySem.W.Frag} {mg : Str → Option Value} {base : Heap} {MC TC DC : Addr}
/-! later -/
def shift (by_ : Int) (e : Ev) : Ev := { e with t := e.t + by_ }
def laterO (t : Tr) (b : Int) : Except Str Tr := match errs (fun _ (e : Ev) => needTick (e.t + b)) 0 t with
  | .error z => .error z
  | .ok () => .ok (t.map (shift b))
def p_later (K : PySem.W.Frag) (mg : Str → Option Value) : Sp := spG (ι := { t : Tr × Int // t.1.length ≤ 1000 ∧ ∀ e ∈ t.1, e.xs.length ≤ 10 }) K mg (fun _ => m0) (fun i => [Is K (trD i.1.1), Is K (.int i.1.2)]) (fun i => laterO i.1.1 i.1.2) (fun _ t => Is K (trD t))
theorem f_later (T : Txt w K mg MC TC DC) : CalX PG w K mg base 2 "later" (p_later K mg) := by
  refine cal_blk T.d_later sc_later bd_later (fun _ => rfl) (fun _ => rfl) ?_
  rintro ⟨⟨t, b⟩, hl, hx⟩ f cdv A outer s H E hr
  refine b_stf (s_forL t (fun _ (e : Ev) => [some (Is K (trD t)), some (Is K (.int b)), some (Is K e.d)]) [2] (fun _ (e : Ev) => needTick (e.t + b)) (passes_of rfl) rfl (i_list (e_ls (e_var 0 rfl))) (fun i e he => tgY he (tg_name 2 sc_later.nd))
    (fun i e he => f_one (s_exprX (e_callX (e.t + b) (f_need_tick T) hr (by decide) passE Sub.zero (a_cons (e_add (e_ixT (e_var 2 rfl) e_int at_0) (e_var 1 rfl)) a_nil)))) (fun i e => rfl)) (fun z hz => ?_) (fun _ hok => ?_)
  · show laterO t b = _
    unfold laterO
    rw [hz]
  · refine b_retD (v := t.map (shift b)) (e_lcAll (xs := t) (fun (e : Ev) => [some (Is K (trD t)), some (Is K (.int b)), some (Is K e.d)]) [2] (fun (e : Ev) => (shift b e).d) rfl sc_later.nd (i_list (e_ls (e_var 0 rfl))) (Nat.le_trans hl (by decide))
      (blkOk_by (own := [("event", 2)]) (N := ["track", "by", "event"]) (sc := defScope s_later) (by decide +kernel))
      (fun i e he _ _ _ _ _ => tgY he (tg_name 2 sc_later.nd)) (fun e he _ _ _ _ _ => EvE.eq (e_catT (e_tupD (ad_cons (e_add (e_ixT (e_var 2 rfl) e_int at_0) (e_var 1 rfl)) ad_nil)) (e_slT (e_var 2 rfl) (evo_some e_int) evo_none) ?_) ?_)) ?_ ?_
    · have := hx e he
      rw [cut_1]
      simp
      omega
    · rw [cut_1]
      rfl
    · show laterO t b = _
      unfold laterO
      rw [hok]
    · show Is K (trD (t.map (shift b))) = _
      unfold trD
      rw [List.map_map]
      rfl
end
end R60

set_option Elab.async false
set_option pp.maxSteps 400
set_option linter.all false
set_option maxRecDepth 100000
set_option maxHeartbeats 4000000
namespace R60
open PySem PySem.Spec PyProof.Rows L2
theorem kd_mark (k : Kd) : decide (k.s = ("mark" : Str)) = decide (k = .mark) := by cases k <;> decide
theorem kd_inj (k k' : Kd) : decide (k.s = k'.s) = decide (k = k') := by cases k <;> cases k' <;> decide
theorem ok_two {e : Ev} (h : e.ok = true) : (e.k = .mark ∧ ∃ z, e.xs = [.s z] ∧ (z.length : Int) ≤ 12) ∨ (e.k ≠ .mark ∧ ∃ c r, e.xs = .i c :: r ∧ (0 ≤ c ∧ c ≤ 15) ∧ r.length ≤ 2 ∧ ∀ a ∈ r, ∃ n, a = .i n) := by
  obtain ⟨t, k, xs⟩ := e
  have inri : ∀ {lo hi : Int} {a : At}, inR lo hi a = true → ∃ n, a = .i n ∧ lo ≤ n ∧ n ≤ hi := fun {lo hi a} h => by
    cases a with
    | i n =>
      unfold inR at h
      simp at h
      exact ⟨n, rfl, h.1, h.2⟩
    | s z => cases h
  have three : ∀ {a b c : At} {x : Int}, (inR 0 15 a && inR 0 127 b && inR x 127 c) = true → ∃ n r, [a, b, c] = .i n :: r ∧ (0 ≤ n ∧ n ≤ 15) ∧ r.length ≤ 2 ∧ ∀ a ∈ r, ∃ n, a = .i n := fun {a b c x} h => by
    rw [Bool.and_eq_true, Bool.and_eq_true] at h
    obtain ⟨n, rfl, h1, h2⟩ := inri h.1.1
    obtain ⟨n2, rfl, _⟩ := inri h.1.2
    obtain ⟨n3, rfl, _⟩ := inri h.2
    refine ⟨n, _, rfl, ⟨h1, h2⟩, by simp, fun a ha => ?_⟩
    rcases List.mem_cons.mp ha with rfl | ha
    · exact ⟨_, rfl⟩
    · exact ⟨n3, by simpa using ha⟩
  unfold Ev.ok at h
  rw [Bool.and_eq_true] at h
  obtain ⟨_, h⟩ := h
  match k, xs, h with
  | .mark, [.s z], h => exact .inl ⟨rfl, z, rfl, by
      unfold txtOk at h
      rw [Bool.and_eq_true] at h
      simpa using h.1⟩
  | .mark, .i _ :: _ :: _, h => exact nomatch h
  | .mark, [.i _], h => exact nomatch h
  | .mark, .s _ :: _ :: _, h => exact nomatch h
  | .mark, [], h => exact nomatch h
  | .on, [a, b, c], h => exact .inr ⟨(by intro q; cases q), three h⟩
  | .off, [a, b, c], h => exact .inr ⟨(by intro q; cases q), three h⟩
  | .knob, [a, b, c], h => exact .inr ⟨(by intro q; cases q), three h⟩
  | .voice, [a, b], h =>
    simp only [Bool.and_eq_true] at h
    obtain ⟨n, rfl, h1, h2⟩ := inri h.1
    obtain ⟨n2, rfl, _⟩ := inri h.2
    exact .inr ⟨(by intro q; cases q), n, _, rfl, ⟨h1, h2⟩, by simp, fun a ha => ⟨n2, by simpa using ha⟩⟩
theorem ok_fit {e : Ev} (h : e.ok = true) : e.fit := by
  rcases ok_two h with ⟨_, z, e1, hz⟩ | ⟨_, c, r, e1, _, hr, ha⟩
  · refine ⟨by rw [e1]; simp, fun a hm y hy => ?_⟩
    rw [e1] at hm
    simp at hm
    subst hm
    cases hy
    omega
  · refine ⟨by rw [e1]; simp; omega, fun a hm y hy => ?_⟩
    rw [e1] at hm
    rcases List.mem_cons.mp hm with rfl | hm
    · cases hy
    · obtain ⟨n, rfl⟩ := ha a hm
      cases hy
section
variable {w : World} {K : PySem.W.Frag} {mg : Str → Option Value} {base : Heap} {MC TC DC : Addr}
/-! is_of, apart -/
def isOf (ch : Int) (e : Ev) : Bool := !decide (e.k = .mark) && match e.xs with
  | .i c :: _ => decide (c = ch)
  | _ => false
def p_is_of (K : PySem.W.Frag) (mg : Str → Option Value) : Sp := spG (ι := { p : Ev × Int // p.1.ok = true }) (α := Unit) K mg (fun _ => m0) (fun i => [Is K i.1.1.d, Is K (.int i.1.2)]) (fun _ => .ok ()) (fun i _ => Is K (.bl (isOf i.1.2 i.1.1)))
theorem f_is_of (T : Txt w K mg MC TC DC) : CalX PG w K mg base 1 "is_of" (p_is_of K mg) := by
  refine cal_blk T.d_is_of sc_is_of bd_is_of (fun _ => rfl) (fun _ => rfl) ?_
  rintro ⟨⟨e, ch⟩, hok⟩ f cdv A outer s H E hr
  rcases ok_two hok with ⟨hk, z, hx, _⟩ | ⟨hk, c, r, hx, _⟩
  · refine b_retD (v := ()) (e_and (k' := false) (e_nes (e_ixT (e_var 0 rfl) e_int at_1) e_str) fun h => ?_) rfl ?_
    · rw [kd_mark, hk] at h
      exact absurd h (by decide)
    · have hk : e.k = .mark := hk
      show Is K (.bl (isOf ch e)) = _
      unfold isOf
      rw [kd_mark, hk]
      rfl
  · have hd : e.d = .tup (.int e.t :: .str e.k.s :: .int c :: r.map At.d) := by
      unfold Ev.d
      rw [hx] <;> rfl
    refine b_retD (v := ()) (e_and (e_nes (e_ixT (e_var 0 rfl) e_int at_1) e_str) fun h => e_one (e_eqi (e_ixT (ds := (.int e.t :: .str e.k.s :: .int c :: r.map At.d)) (EvE.eq (e_var 0 rfl) hd) e_int at_2) (e_var 1 rfl))) rfl ?_
    show Is K (.bl (isOf ch e)) = _
    unfold isOf
    rw [kd_mark, hx] <;> rfl
def p_apart (K : PySem.W.Frag) (mg : Str → Option Value) : Sp := spG (ι := { p : Tr × Int // p.1.length ≤ 1000 ∧ ∀ e ∈ p.1, e.ok = true }) (α := Unit) K mg (fun _ => m0) (fun i => [Is K (trD i.1.1), Is K (.int i.1.2)]) (fun _ => .ok ())
  (fun i _ => Is K (.tup [trD (i.1.1.filter (isOf i.1.2)), trD (i.1.1.filter fun e => !isOf i.1.2 e)]))
theorem f_apart (T : Txt w K mg MC TC DC) : CalX PG w K mg base 2 "apart" (p_apart K mg) := by
  refine cal_blk T.d_apart sc_apart bd_apart (fun _ => rfl) (fun _ => rfl) ?_
  rintro ⟨⟨t, ch⟩, hl, hok⟩ f cdv A outer s H E hr
  refine b_setLcIf 2 (xs := t) (fun e => [some (Is K (trD t)), some (Is K (.int ch)), none, some (Is K e.d)]) [3] (isOf ch) Ev.d rfl sc_apart.nd (i_list (e_ls (e_var 0 rfl))) (Nat.le_trans hl (by decide)) (blkOk_by (own := [("event", 3)]) (N := ["track", "channel", "mine", "event"]) (sc := defScope s_apart) (by decide +kernel))
    (fun i e he _ _ _ _ _ => tgY he (tg_name 3 sc_apart.nd)) (fun e he _ _ _ _ _ => t_bl (e_call ⟨(e, ch), hok e he⟩ (f_is_of T) (by exact hr) (by decide) Sub.zero rfl (a_cons (e_var 3 rfl) (a_cons (e_var 1 rfl) a_nil)))) (fun e he _ _ _ _ _ _ => e_var 3 rfl) ?_
  refine b_retD (v := ()) (e_tupD (ad_cons (e_var 2 rfl) (ad_cons (e_lcIf (xs := t) (fun e => [some (Is K (trD t)), some (Is K (.int ch)), some (Is K (.lst ((t.filter (isOf ch)).map Ev.d))), some (Is K e.d)]) [3] (fun e => !isOf ch e) Ev.d rfl sc_apart.nd (i_list (e_ls (e_var 0 rfl))) (Nat.le_trans hl (by decide))
    (blkOk_by (own := [("event", 3)]) (N := ["track", "channel", "mine", "event"]) (sc := defScope s_apart) (by decide +kernel)) (fun i e he _ _ _ _ _ => tgY he (tg_name 3 sc_apart.nd)) (fun e he _ _ _ _ _ => t_notB (t_bl (e_call ⟨(e, ch), hok e he⟩ (f_is_of T) (by exact hr) (by decide) Sub.zero rfl (a_cons (e_var 3 rfl) (a_cons (e_var 1 rfl) a_nil)))))
    (fun e he _ _ _ _ _ _ => e_var 3 rfl)) ad_nil))) rfl rfl
/-! put_in -/
def p_is_event (K : PySem.W.Frag) (mg : Str → Option Value) : Sp := spG (ι := { e : Ev // e.fit }) (α := Unit) K mg (fun _ => m0) (fun i => [Is K i.1.d]) (fun _ => .ok ()) (fun i _ => Is K (.bl i.1.ok))
def put1 (t : Tr) (e : Ev) : Tr := t.take (t.filter fun x => decide (x.t ≤ e.t)).length ++ [e] ++ t.drop (t.filter fun x => decide (x.t ≤ e.t)).length
def putIn (t : Tr) (e : Ev) : Except Str Tr := bif !e.ok then .error "badevent" else bif decide ((200 : Int) < ((t.length + 1 : Nat) : Int)) then .error "full" else .ok (put1 t e)
theorem put1_len (t : Tr) (e : Ev) : (put1 t e).length = t.length + 1 := by
  unfold put1
  have := List.length_filter_le (fun x : Ev => decide (x.t ≤ e.t)) t
  simp
  omega
theorem thr_ok {b : Bool} {z : Str} {u : Unit} (h : thr b z = .ok u) : b = false := by
  cases b with
  | true => cases h
  | false => rfl
theorem thr_err {b : Bool} {z y : Str} (h : thr b z = .error y) : b = true ∧ y = z := by
  cases b with
  | true => exact ⟨rfl, by cases h; rfl⟩
  | false => cases h
def p_put_in (K : PySem.W.Frag) (mg : Str → Option Value) : Sp := spG (ι := { p : Tr × Ev // p.1.length ≤ 1000 ∧ p.2.fit }) K mg (fun _ => m0) (fun i => [Is K (trD i.1.1), Is K i.1.2.d]) (fun i => putIn i.1.1 i.1.2) (fun _ t => Is K (trD t))
theorem f_put_in (T : Txt w K mg MC TC DC) (hE : CalX PG w K mg base 3 "is_event" (p_is_event K mg)) : CalX PG w K mg base 4 "put_in" (p_put_in K mg) := by
  refine cal_blk T.d_put_in sc_put_in bd_put_in (fun _ => rfl) (fun _ => rfl) ?_
  rintro ⟨⟨t, e⟩, hl, hf⟩ f cdv A outer s H E hr
  replace hl : t.length ≤ 1000 := hl
  refine b_if (t_notB (t_bl (e_call ⟨e, hf⟩ hE hr (by decide) Sub.zero rfl (a_cons (e_var 1 rfl) a_nil)))) (fun h => b_raise T.e_BadEvent ?_ hr rfl (takes_of rfl rfl rfl rfl)) fun h => ?_
  · show putIn t e = _
    unfold putIn
    rw [h]
    rfl
  · have hle := List.length_filter_le (fun x : Ev => decide (x.t ≤ e.t)) t
    refine b_set 2 (e_lenL (ds := ((t.filter fun x => decide (x.t ≤ e.t)).map Ev.d)) T.n_len (e_lcIf (xs := t) (fun x => [some (Is K (trD t)), some (Is K e.d), none, none, some (Is K x.d)]) [4] (fun x => decide (x.t ≤ e.t)) Ev.d rfl sc_put_in.nd (i_list (e_ls (e_var 0 rfl))) (Nat.le_trans hl (by decide))
      (blkOk_by (own := [("one", 4)]) (N := ["track", "event", "place", "found", "one"]) (sc := defScope s_put_in) (by decide +kernel)) (fun i e he _ _ _ _ _ => tgY he (tg_name 4 sc_put_in.nd)) (fun x hx _ _ _ _ _ => t_le (e_ixT (e_var 4 rfl) e_int at_0) (e_ixT (e_var 1 rfl) e_int at_0)) (fun e he _ _ _ _ _ _ => e_var 4 rfl))) ?_ sc_put_in.nd
    rw [List.length_map]
    refine b_set 3 (P := Is K (trD (put1 t e))) (EvE.eq (e_cat (e_cat (e_slL (e_var 0 rfl) evo_none (evo_some (e_var 2 rfl))) (e_lstD (ad_cons (e_var 1 rfl) ad_nil)) ?_) (e_slL (e_var 0 rfl) (evo_some (e_var 2 rfl)) evo_none) ?_) ?_) ?_ sc_put_in.nd
    · rw [cut_to]
      simp
      omega
    · rw [cut_to, cut_from]
      simp
      omega
    · rw [cut_to, cut_from]
      show D.lst _ = D.lst _
      unfold put1
      simp
    · refine b_stf (s_exprX (e_callX ((put1 t e).map Ev.d) (f_need_room_e T) hr (by decide) passE Sub.zero (a_cons (e_var 3 rfl) a_nil))) (fun z hz => ?_) fun u hu => b_ret (v := put1 t e) (e_var 3 rfl) ?_
      · have := thr_err hz
        show putIn t e = _
        unfold putIn
        rw [h]
        rw [List.length_map, put1_len] at this
        rw [this.1, this.2]
        rfl
      · have := thr_ok hu
        show putIn t e = _
        unfold putIn
        rw [h]
        rw [List.length_map, put1_len] at this
        rw [this]
        rfl
end
end R60

set_option Elab.async false
set_option pp.maxSteps 400
set_option linter.all false
set_option maxRecDepth 100000
set_option maxHeartbeats 4000000
namespace R60
open PySem PySem.Spec PyProof.Rows L2
/-- only lists and tuples -/
def dataF (F : Hp) : Hp := fun b => match F b with
  | some (.lst xs) => some (.lst xs)
  | some (.tup xs) => some (.tup xs)
  | some (.frz o u) => some (.frz o u)
  | _ => none
theorem dataF_ex {F : Hp} : Ex (dataF F) F := fun b o h => by
  unfold dataF at h
  cases hb : F b with
  | none => rw [hb] at h; cases h
  | some u =>
    rw [hb] at h
    cases u <;> first | exact h | cases h
theorem das_data {K : PySem.W.Frag} {F : Hp} {ds : List D} {vs : List V} (h : DAs K F ds vs) : DAs K (dataF F) ds vs := by
  induction h with
  | nil => exact .nil
  | non _ ih => exact .non ih
  | bl _ ih => exact .bl ih
  | int _ ih => exact .int ih
  | str _ ih => exact .str ih
  | lst h _ _ i1 i2 => exact .lst (by unfold dataF; rw [h]) i1 i2
  | tup h _ _ i1 i2 =>
    refine .tup ?_ i1 i2
    rcases h with (h | ⟨o, h⟩) | h
    · exact .inl (.inl (by unfold dataF; rw [h]))
    · exact .inl (.inr ⟨o, by unfold dataF; rw [h]⟩)
    · exact .inr h
/-- lists of pairs of ticks and paces that a map takes -/
structure Pcs (ps : List (Int × Int)) : Prop where
  n : ps.length ≤ 20
  d : (ps.map (·.1)).Nodup
  t : ∀ q ∈ ps, 0 ≤ q.1 ∧ q.1 ≤ 999999
  p : ∀ q ∈ ps, 1 ≤ q.2 ∧ q.2 ≤ 16777215
section
variable {w : World} {K : PySem.W.Frag} {mg : Str → Option Value} {base : Heap} {MC TC DC : Addr}
def MapT (K : PySem.W.Frag) (MC : Addr) (b : Int) (ps : List (Int × Int)) : Ty := InsT MC [("ticks", Is K (.int b)), ("known", KnT K ps)]
/-- .. the map and its dict new behind H0 -/
def MapN (K : PySem.W.Frag) (MC : Addr) (b : Int) (ps : List (Int × Int)) (H0 : Hp) : Ty := ⟨fun v F => (MapT K MC b ps).p v F ∧ ∃ x dx k, v = .ref x ∧ F x = some (.ins MC dx [("ticks", .int b), ("known", .ref k)]) ∧ F k = some (.dK (ps.map pI)) ∧ H0 x = none ∧ H0 k = none,
  fun v F F' e ⟨h1, x, dx, k, a1, a2, a3, a4⟩ => ⟨(MapT K MC b ps).mono v F F' e h1, x, dx, k, a1, e _ _ a2, e _ _ a3, a4⟩⟩
/-- the paces as they are handed in: a list, or the empty tuple -/
def pcD : Option (List (Int × Int)) → D
  | none => .tup []
  | some ps => pairsD ps
theorem Holds.set' {Γ : Gam} {σ : L2.St} {F : Hp} (h : Holds Γ σ F) (i : Nat) {T : Ty} {v : V} (hs : σ[i]? = some (some v)) (p : T.p v F) : Holds (Γ.set i (some T)) σ F := fun j S q => by
  by_cases e : i = j
  · subst e
    by_cases l : i < Γ.length
    · rw [List.getElem?_set_self l] at q
      cases q
      exact ⟨v, hs, p⟩
    · rw [List.getElem?_eq_none (by simpa using l)] at q
      cases q
  · rw [List.getElem?_set_ne e] at q
    exact h j S q
theorem Gr.at0 {U : Addr → Prop} {F H0 : Hp} {x dx C : Addr} (ex : Ex F H0) (hx : H0 x = none) (hd : H0 dx = none) (ne : dx ≠ x) : Gr U F H0 F (upd (upd H0 dx (.own x)) x (.ins C dx [])) := by
  have g1 : Gr U F H0 F (upd H0 dx (.own x)) := Gr.scratch ex hd
  exact g1.trans (Gr.scratch g1.fh (by rw [upd_ne (Ne.symm ne)]; exact hx))
def stAt (s : Stmt) (i : Nat) : Stmt := (defBody s).getD i (.Pass ⟨0, 0, 0, 0⟩)
def valOf : Stmt → Expr
  | .Assign _ v _ => v
  | _ => .Constant .none 0 ⟨0, 0, 0, 0⟩
theorem f_Map_init (T : Txt w K mg MC TC DC) : MakX PG w K mg base 2 "Map" MC (spI (ι := { p : Int × Option (List (Int × Int)) // Pcs (p.2.getD []) }) K mg MC (fun i => [Is K (.int i.1.1), Is K (pcD i.1.2)]) (fun i => needBeat i.1.1) (fun i _ H0 => MapN K MC i.1.1 (i.1.2.getD []) H0)) [] := by
  obtain ⟨f, fd, e0, hm, hk, hF⟩ := T.i_Map
  obtain ⟨ds, r, hb⟩ := hF.binds1 (ps := ["self", "beat", "paces"]) 3 1 (by simp) rfl fun T kV doc pm an cdv ct us its h1 h2 => by
    match us, h1, its, h2 with
    | [a, b, c], _, [d], _ => exact ⟨_, rfl, rfl⟩
  have hds : ds = [] := by cases r; rfl
  subst hds
  refine ⟨f, fd, _, [], hm, hk, hb, .nil, hF.ok sc_Map_init (fun vs H Q E h => ?_) ?_⟩
  · obtain ⟨i, F, H0, x, dx, us, rfl, _, _, _, _, _, hA, _⟩ := h
    rw [List.length_cons, hA.len] <;> rfl
  · intro cdv A outer s H vs Q E hr h
    obtain ⟨⟨⟨b, po⟩, hp⟩, F, H0, x, dx, us, rfl, hx0, hd0, ne, rfl, ex, hA, c⟩ := h
    obtain ⟨u1, u2, rfl, t1, t2⟩ := two_of hA
    have t1 : DAt K (dataF F) (.int b) u1 := das_data t1
    have t2 : DAt K (dataF F) (pcD po) u2 := das_data t2
    have exF := ex
    have ex : Ex (dataF F) H0 := dataF_ex.trans exF
    have notD : ∀ {k : Addr} {kvs : List (L2.Key × V)}, dataF F k ≠ some (.dK kvs) := fun {k kvs} z => by
      unfold dataF at z
      cases hk : F k with
      | none => rw [hk] at z; cases z
      | some u => rw [hk] at z; cases u <;> cases z
    refine ⟨_, semS, ?_⟩
    have g0 : Gr0 (dataF F) H0 (dataF F) (upd (upd H0 dx (.own x)) x (.ins MC dx [])) := Gr.at0 ex hx0 hd0 ne
    have fx : dataF F x = none := Same.free ex hx0
    have gd : Good m0 [some (Vl (.ref x)), some (Is K (.int b)), some (Is K (pcD po)), none, none] [some (.ref x), some u1, some u2, none, none] (dataF F) (upd (upd H0 dx (.own x)) x (.ins MC dx [])) :=
      ⟨g0.fh, trivial, HoldsA.holds (Ts := [Vl (.ref x), Is K (.int b), Is K (pcD po)]) (vs := [.ref x, u1, u2]) (k := 2) ⟨rfl, t1, t2, trivial⟩⟩
    refine go_stf (s_exprX (e_callX b (f_need_beat T) hr (by decide) passE Sub.zero (a_cons (e_var 1 rfl) a_nil))) gd ?_
    show CoF _ _ _ _ _ _ (needBeat b) _
    cases hnb : needBeat b with
    | error z =>
      intro C d F1 H1 g1 i1 e1 e2
      have c' : Cont K mg m0 F H0 _ E (needBeat b) _ := c
      rw [hnb] at c'
      exact c' C d _ H1 (gr_canon exF (g0.trans g1).same) trivial e1 e2
    | ok u =>
      intro σ1 F1 H1 g1 gd1
      have c' : Cont K mg m0 F H0 _ E (needBeat b) _ := c
      rw [hnb] at c'
      have keep : ∀ {F H F' H' : Hp} {o : HO}, Gr0 F H F' H' → H x = some o → H' x = some o := fun g h => g.hh x _ (fun z => z) h
      have away : ∀ {F H F' H' : Hp} {o : HO}, Gr0 F H F' H' → F x = none → H x = some o → F' x = none := fun g h h' => g.nw x h (by rw [h']; simp)
      have hx : upd (upd H0 dx (.own x)) x (.ins MC dx []) x = some (.ins MC dx []) := upd_same
      have hx1 := keep g1 hx
      have fx1 := away g1 fx hx
      let ps := po.getD []
      have hz : ∀ i q, ps[i]? = some q → q ∈ ps := fun i q h => List.mem_of_getElem? h
      refine go_stf (E := E) (o1 := errs (fun _ (q : Int × Int) => needTick q.1 >>= fun _ => needPace q.2) 0 ps) (Γ' := fun _ => lost [some (Vl (.ref x)), some (Is K (.int b)), some (Is K (pcD po)), none, none] [3, 4]) ?_ gd1 ?_
      · show StF _ _ _ [some (Vl (.ref x)), some (Is K (.int b)), some (Is K (pcD po)), none, none] _ _ _
        cases po with
        | none =>
          exact s_forL (α := Int × Int) [] (Y := YL [] fun q => Is K (pairD q)) (fun _ q => [some (Vl (.ref x)), some (Is K (.int b)), some (Is K (pcD none)), some (Is K (.int q.1)), some (Is K (.int q.2))]) [3, 4] _ (Γ2 := fun _ q => [some (Vl (.ref x)), some (Is K (.int b)), some (Is K (pcD none)), some (Is K (.int q.1)), some (Is K (.int q.2))])
            (passes_of rfl) rfl (i_tup (xs := ([] : List (Int × Int))) (enc := fun q => Is K (pairD q)) (e_ts (xs := ([] : List (Int × Int))) (f := pairD) (e_var 2 rfl))) (fun i q hq => by simp at hq) (fun i q hq => by simp at hq) (fun _ _ => rfl)
        | some ps =>
          exact s_forL ps (fun _ q => [some (Vl (.ref x)), some (Is K (.int b)), some (Is K (pcD (some ps))), some (Is K (.int q.1)), some (Is K (.int q.2))]) [3, 4] _ (Γ2 := fun _ q => [some (Vl (.ref x)), some (Is K (.int b)), some (Is K (pcD (some ps))), some (Is K (.int q.1)), some (Is K (.int q.2))])
            (passes_of rfl) rfl (i_list (e_ls (xs := ps) (f := pairD) (e_var 2 rfl))) (fun i q hq => tgY hq (tg_tupD rfl (tg_cons (tg_name 3 sc_Map_init.nd) (tg_cons (tg_name 4 sc_Map_init.nd) tg_nil))))
            (fun i q hq => f_cons (s_exprX (e_callX q.1 (f_need_tick T) hr (by decide) passE Sub.zero (a_cons (e_var 3 rfl) a_nil))) (fun z h => by rw [h] <;> rfl) fun u h => f_one (by
              rw [h]
              exact s_exprX (e_callX q.2 (f_need_pace T) hr (by decide) passE Sub.zero (a_cons (e_var 4 rfl) a_nil)))) (fun _ _ => rfl)
      rw [errs_ok (fun j q hj => by
        obtain ⟨t1, t2⟩ := hp.t q (hz j q hj)
        obtain ⟨p1, p2⟩ := hp.p q (hz j q hj)
        simp [needTick, needPace, thr, t1, t2, p1, p2]
        rfl)]
      intro σ2 F2 H2 g2 gd2
      have hx2 := keep g2 hx1
      have fx2 := away g2 fx1 hx1
      refine go_fld (T.cl_Map) (T.na_Map_ticks) (Tv := Is K (.int b)) (e_var 1 rfl) (e_var 0 rfl) gd2 hx2 (by decide) fun v3 F3 H3 g3 p3 => ?_
      have hx3 := keep g3 hx2
      have fx3 := away g3 fx2 hx2
      have gd3 := (gd2.nx0 g3).upd (o := .ins MC dx (putF "ticks" v3 [])) fx3
      refine go_fld (T.cl_Map) (T.na_Map_known) (Tv := KnT K ps) ?_ (e_var 0 rfl) gd3 upd_same (by show 1 < 900; decide) fun v4 F4 H4 g4 p4 => ?_
      · cases po with
        | none =>
          exact e_dc (xs := ([] : List (Int × Int))) (fun q => [some (Vl (.ref x)), some (Is K (.int b)), some (Is K (pcD none)), some (Is K (.int q.1)), some (Is K (.int q.2))]) [3, 4] (fun q => q.1) (fun q => q.2) rfl sc_Map_init.nd (i_tup (e_ts (xs := ([] : List (Int × Int))) (f := pairD) (e_var 2 rfl))) (by decide) .nil
            (blkOk_by (own := [("tick", 3), ("pace", 4)]) (N := ["self", "beat", "paces", "tick", "pace"]) (sc := defScope s_Map_init) (by decide +kernel)) (fun i q hq => by simp at hq) (fun q hq => by simp at hq) (fun q hq => by simp at hq)
        | some ps =>
          have e : ps = ps.map fun q => (q.1, q.2) := by simp
          show EvE _ _ _ _ (KnT K ps)
          rw [e]
          exact e_dc (xs := ps) (fun q => [some (Vl (.ref x)), some (Is K (.int b)), some (Is K (pcD (some ps))), some (Is K (.int q.1)), some (Is K (.int q.2))]) [3, 4] (fun q => q.1) (fun q => q.2) rfl sc_Map_init.nd (i_list (e_ls (xs := ps) (f := pairD) (e_var 2 rfl))) (Nat.le_trans hp.n (by decide)) hp.d
            (blkOk_by (own := [("tick", 3), ("pace", 4)]) (N := ["self", "beat", "paces", "tick", "pace"]) (sc := defScope s_Map_init) (by decide +kernel)) (fun i q hq _ _ _ _ _ => tgY hq (tg_tupD rfl (tg_cons (tg_name 3 sc_Map_init.nd) (tg_cons (tg_name 4 sc_Map_init.nd) tg_nil))))
            (fun q hq _ _ _ _ _ => e_var 3 rfl) (fun q hq _ _ _ _ _ => e_var 4 rfl)
      have fx4 := away g4 fx3 upd_same
      have hx4 := keep g4 upd_same
      have g0' : Gr0 (dataF F) H0 F4 (upd H4 x (.ins MC dx (putF "known" v4 (putF "ticks" v3 [])))) := by
        have a1 : Gr0 (dataF F) H0 F3 H3 := ((g0.trans g1).trans g2).trans g3
        exact gr_upd ((gr_upd a1 hx0 fx3).trans g4) hx0 fx4
      have gF := gr_fin g0' hx0 (upd_same) fx4
      have tM : (MapT K MC b ps).p (.ref x) (upd F4 x (.ins MC dx (putF "known" v4 (putF "ticks" v3 [])))) := by
        have e1 : Ex F4 (upd F4 x (.ins MC dx (putF "known" v4 (putF "ticks" v3 [])))) := fun b u q => by rw [upd_ne (ne_of_none q fx4)]; exact q
        refine ⟨x, dx, _, rfl, upd_same, ?_⟩
        exact ⟨rfl, (Is K (.int b)).mono _ _ _ (g4.ff.trans e1) p3, rfl, (KnT K ps).mono _ _ _ e1 p4, trivial⟩
      have tN : ∃ x' dx' k, V.ref x = .ref x' ∧ (upd F4 x (.ins MC dx (putF "known" v4 (putF "ticks" v3 [])))) x' = some (.ins MC dx' [("ticks", .int b), ("known", .ref k)]) ∧ (upd F4 x (.ins MC dx (putF "known" v4 (putF "ticks" v3 [])))) k = some (.dK (ps.map pI)) ∧ H0 x' = none ∧ H0 k = none := by
        obtain ⟨k, vs, rfl, hk1, hk2⟩ := p4
        rw [kn_vs hk2] at hk1
        have ek : k ≠ x := fun z => by rw [z, fx4] at hk1; cases hk1
        have p3' : v3 = .int b := DAt.i p3
        subst p3'
        refine ⟨x, dx, k, rfl, upd_same, by rw [upd_ne ek]; exact hk1, hx0, ?_⟩
        cases hH : H0 k with
        | none => rfl
        | some o =>
          cases hd : dataF F k with
          | some u =>
            have := (((g1.ff.trans g2.ff).trans g3.ff).trans g4.ff) k u hd
            rw [hk1] at this
            cases this
            exact absurd hd notD
          | none =>
            have := g0'.nw k hd (by rw [hH]; simp)
            rw [hk1] at this
            cases this
      have gd4 : Good m0 [some (MapT K MC b ps), some (Is K (.int b)), some (Is K (pcD po)), none, none] σ2 (upd F4 x (.ins MC dx (putF "known" v4 (putF "ticks" v3 [])))) (upd H4 x (.ins MC dx (putF "known" v4 (putF "ticks" v3 [])))) := by
        have e1 : Ex F4 (upd F4 x (.ins MC dx (putF "known" v4 (putF "ticks" v3 [])))) := fun b u q => by rw [upd_ne (ne_of_none q fx4)]; exact q
        refine ⟨gF.fh, trivial, ?_⟩
        have hh := ((gd3.nx0 g4).h).mono e1
        obtain ⟨v0, s0, p0⟩ := hh 0 _ rfl
        have p0 : v0 = .ref x := p0
        exact hh.set' 0 s0 (by rw [p0]; exact tM)
      refine go_if (S := Eq (decide ((20 : Int) < ps.length))) ?_ gd4 (fun F5 H5 g5 _ h5 => ?_) (fun F5 H5 g5 _ h5 => ?_)
      · have hl : (ps.length : Int) = ((ps.map fun q => ((Sum.inl q.1 : L2.Key), Is K (.int q.2))).length : Int) := by rw [List.length_map]
        rw [hl]
        exact t_gt (e_lenD T.n_len (e_fld T.cl_Map T.na_Map_known (e_var 0 rfl) rfl)) (e_glob T.c_MOST_PACES fun _ => .int .nil)
      · have : ps.length ≤ 20 := hp.n
        have h5 : decide ((20 : Int) < ps.length) = true := h5
        simp at h5
        omega
      · refine go_end (go_end ?_)
        have sm : Same H0 H5 := (gF.trans g5).same
        obtain ⟨x', dx', k, e0, a1, a2, a3, a4⟩ := tN
        cases e0
        have c1 := canon_new (F := F) a3 (g5.fh _ _ (g5.ff _ _ a1))
        have c2 := canon_new (F := F) a4 (g5.fh _ _ (g5.ff _ _ a2))
        refine (c' (.ref x) (canon F H0 H5) H5 (gr_canon exF sm) trivial ⟨rfl, ⟨x, dx', _, rfl, c1, rfl, .int .nil, rfl, ?_, trivial⟩, x, dx', k, rfl, c1, c2, a3, a4⟩).2
        exact ⟨k, _, rfl, c2, kn_self _⟩
end
end R60

set_option Elab.async false
set_option pp.maxSteps 400
set_option linter.all false
set_option maxRecDepth 100000
set_option maxHeartbeats 4000000
namespace R60
open PySem PySem.Spec PyProof.Rows L2
structure TrOk (t : Tr) : Prop where
  n : t.length ≤ 200
  ok : ∀ e ∈ t, e.ok = true
  srt : t.Pairwise fun a b => a.t ≤ b.t
def trArg : Option Tr → D
  | none => .tup []
  | some t => trD t
section
variable {w : World} {K : PySem.W.Frag} {mg : Str → Option Value} {base : Heap} {MC TC DC : Addr}
def p_need_track (K : PySem.W.Frag) (mg : Str → Option Value) : Sp := spG (ι := { t : Option Tr // TrOk (t.getD []) }) K mg (fun _ => m0) (fun i => [Is K (trArg i.1)]) (fun _ => .ok ()) (fun _ _ => Is K .non)
theorem f_need_track (T : Txt w K mg MC TC DC) (hE : CalX PG w K mg base 3 "is_event" (p_is_event K mg)) : CalX PG w K mg base 4 "need_track" (p_need_track K mg) := by
  refine cal_stf T.d_need_track sc_need_track bd_need_track (fun _ => rfl) (fun _ => rfl) ?_
  rintro ⟨po, hp⟩ f cdv A outer s H E hr
  cases po with
  | none =>
    exact ⟨_, f_one (s_forL ([] : List Ev) (Y := fun i => TuT K [Is K (.int i), Is K .non]) (fun _ e => [some (Is K (trArg none)), none, none]) [1, 2] (fun _ _ => .ok ()) (Γ2 := fun _ e => [some (Is K (trArg none)), none, none]) (passes_of rfl) rfl (i_enum0 (α := Ev) T.n_enumerate (e_var 0 rfl)) (fun i q hq => by simp at hq) (fun i q hq => by simp at hq) (fun _ _ => rfl))⟩
  | some t =>
    refine ⟨fun _ => lost [some (Is K (trD t)), none, none] [1, 2], ?_⟩
    have hl := hp.n
    have e0 : errs (fun _ (_ : Ev) => .ok ()) 0 t = .ok () := errs_ok fun _ _ _ => rfl
    show StFs _ _ _ _ _ (.ok ()) _
    rw [← e0]
    refine f_one (s_forL t (fun i e => [some (Is K (trD t)), some (Is K (.int i)), some (Is K e.d)]) [1, 2] (fun _ _ => .ok ()) (Γ2 := fun i e => [some (Is K (trD t)), some (Is K (.int i)), some (Is K e.d)]) (passes_of rfl) rfl (i_enum T.n_enumerate (e_ls (e_var 0 rfl)))
      (fun i e he => tg_tup rfl (tg_cons (tg_name 1 sc_need_track.nd) (tg_cons (tg_name 2 sc_need_track.nd) tg_nil)) fun v F p => by
        rw [yl_at he] at p
        exact p) (fun i e he => f_one (s_if (S := Eq false) ?_ (fun h => nomatch h) fun _ => f_nil)) (fun _ _ => rfl))
    have hi : i < t.length := (List.getElem?_eq_some_iff.mp he).1
    have hok := hp.ok e (List.mem_of_getElem? he)
    refine EvT.eq (EvW.toT (w_orB (t_ge (e_var 1 rfl) (e_glob T.c_MOST_EVENTS fun _ => .int .nil)) fun _ => w_orB (k' := false) (t_notB (t_bl (e_call ⟨e, ok_fit hok⟩ hE hr (by decide) Sub.zero rfl (a_cons (e_var 2 rfl) a_nil)))) fun _ => ?_)) ?_
    · by_cases h0 : 0 < i
      · have hprev : t[i - 1]? = some t[i - 1] := List.getElem?_eq_getElem (by show i - 1 < t.length; omega)
        have le : t[i - 1].t ≤ e.t := by
          have := List.pairwise_iff_getElem.mp hp.srt (i - 1) i (by show i - 1 < t.length; omega) hi (by omega)
          have e2 : t[i] = e := by
            have := List.getElem?_eq_getElem hi
            rw [this] at he
            exact Option.some.inj he
          rw [← e2]
          exact this
        refine w_or1 (EvT.eq (EvW.toT (w_andB (t_gt (e_var 1 rfl) e_int) fun _ => w_and1 (t_lt (e_ixT (e_var 2 rfl) e_int at_0) (e_ixT (ds := .int t[i - 1].t :: .str t[i - 1].k.s :: t[i - 1].xs.map At.d) (e_ixL (d := t[i - 1].d) (e_var 0 rfl) (e_sub (e_var 1 rfl) e_int) ?_) e_int at_0)))) ?_)
        · rw [show (i : Int) - 1 = ((i - 1 : Nat) : Int) from by omega]
          exact at_nat (i - 1) (by rw [List.getElem?_map, hprev] <;> rfl)
        · simp
          omega
      · have e1 : i = 0 := by omega
        subst e1
        exact w_or1 (EvT.eq (EvW.toT (w_andB (k' := false) (t_gt (e_var 1 rfl) e_int) fun h => by simp at h)) (by simp))
    · have : t.length ≤ 200 := hl
      simp [hok]
      omega
end
end R60

set_option Elab.async false
set_option pp.maxSteps 400
set_option linter.all false
set_option maxRecDepth 100000
set_option maxHeartbeats 4000000
namespace R60
open PySem PySem.Spec PyProof.Rows L2
/-- a tape, as the program has it -/
structure Tp where
  b : Int
  ps : List (Int × Int)
  ts : List Tr
structure TpOk (p : Tp) : Prop where
  b : 1 ≤ p.b ∧ p.b ≤ 960
  ps : Pcs p.ps
  n : 1 ≤ p.ts.length ∧ p.ts.length ≤ 6
  ts : ∀ t ∈ p.ts, TrOk t
def trsArg : Option (List Tr) → D
  | none => .tup [.tup []]
  | some ts => trsD ts
section
variable {w : World} {K : PySem.W.Frag} {mg : Str → Option Value} {base : Heap} {MC TC DC : Addr}
def TapeT (K : PySem.W.Frag) (MC TC : Addr) (p : Tp) : Ty := InsT TC [("own", MapT K MC p.b p.ps), ("rows", Is K (trsD p.ts))]
def mkTape (b : Int) (po : Option (List (Int × Int))) (to : Option (List Tr)) : Except Str Tp := match needBeat b with
  | .error z => .error z
  | .ok () => bif !(decide ((1 : Int) ≤ ((to.getD [[]]).length : Nat)) && decide ((((to.getD [[]]).length : Nat) : Int) ≤ 6)) then .error "full" else .ok ⟨b, po.getD [], to.getD [[]]⟩
/-- what a tape is made of -/
structure TIn (b : Int) (to : Option (List Tr)) (po : Option (List (Int × Int))) : Prop where
  ps : Pcs (po.getD [])
  ts : ∀ t ∈ to.getD [[]], TrOk t
  n : (to.getD [[]]).length ≤ 1000
abbrev ιT := { p : Int × Option (List Tr) × Option (List (Int × Int)) // TIn p.1 p.2.1 p.2.2 }
def p_Tape_init (K : PySem.W.Frag) (mg : Str → Option Value) (MC TC : Addr) : Sp := spI (ι := ιT) K mg TC (fun i => [Is K (.int i.1.1), Is K (trsArg i.1.2.1), Is K (pcD i.1.2.2)]) (fun i => mkTape i.1.1 i.1.2.2 i.1.2.1) (fun i p H0 => TapeT K MC TC p)
theorem body_Tape_init (T : Txt w K mg MC TC DC) (hE : CalX PG w K mg base 3 "is_event" (p_is_event K mg)) : BodyH PG w K mg base "Tape.__init__" s_Tape_init ["self", "beat", "tracks", "paces", "track"] 4 (p_Tape_init K mg MC TC) := by
  intro f cdv A outer s H vs Q E hr h
  obtain ⟨⟨⟨b, to, po⟩, hp⟩, F, H0, x, dx, us, rfl, hx0, hd0, ne, rfl, ex, hA, c⟩ := h
  match us, hA with
  | [u1, u2, u3], ⟨t1, t2, t3, _⟩ =>
  refine ⟨_, semS, ?_⟩
  have g0 : Gr0 F H0 F (upd (upd H0 dx (.own x)) x (.ins TC dx [])) := Gr.at0 ex hx0 hd0 ne
  have fx : F x = none := Same.free ex hx0
  have gd : Good m0 [some (Vl (.ref x)), some (Is K (.int b)), some (Is K (trsArg to)), some (Is K (pcD po)), none] [some (.ref x), some u1, some u2, some u3, none] F (upd (upd H0 dx (.own x)) x (.ins TC dx [])) :=
    ⟨g0.fh, trivial, HoldsA.holds (Ts := [Vl (.ref x), Is K (.int b), Is K (trsArg to), Is K (pcD po)]) (vs := [.ref x, u1, u2, u3]) (k := 1) ⟨rfl, t1, t2, t3, trivial⟩⟩
  have c : Cont K mg m0 F H0 (fun v H' => v = .ref x ∧ Q .non H') E (mkTape b po to) (fun p => ⟨fun v F' => v = .ref x ∧ (TapeT K MC TC p).p v F', fun v F' F'' e h => ⟨h.1, (TapeT K MC TC p).mono v F' F'' e h.2⟩⟩) := c
  have keep : ∀ {F H F' H' : Hp} {o : HO}, Gr0 F H F' H' → H x = some o → H' x = some o := fun g h => g.hh x _ (fun z => z) h
  have away : ∀ {F H F' H' : Hp} {o : HO}, Gr0 F H F' H' → F x = none → H x = some o → F' x = none := fun g h h' => g.nw x h (by rw [h']; simp)
  refine go_fldX (E := E) (ov := needBeat b) (encv := fun _ => MapT K MC b (po.getD [])) T.cl_Tape T.na_Tape_own ?_ (e_var 0 rfl) gd upd_same (by decide) ?_ ?_
  · exact e_make (ι := { p : Int × Option (List (Int × Int)) // Pcs (p.2.getD []) }) ⟨(b, po), hp.ps⟩ (f_Map_init T) hr (by decide) passE (a_cons (e_var 1 rfl) (a_cons (e_var 3 rfl) a_nil)) (Ds := []) (fun _ => trivial) rfl (fun a H0 v F h => h.1)
  · intro z hz C d F1 H1 g1 e1 e2
    unfold mkTape at c
    rw [hz] at c
    exact c C d F1 H1 (g0.trans g1) trivial e1 e2
  · intro u hnb v1 F1 H1 g1 p1
    unfold mkTape at c
    rw [hnb] at c
    · have hx1 := keep g1 upd_same
      have fx1 := away g1 fx upd_same
      have gd1 := (gd.nx0 g1).upd (o := .ins TC dx (putF "own" v1 [])) fx1
      let ts := to.getD [[]]
      have A1 : Gr0 F H0 F1 (upd H1 x (.ins TC dx (putF "own" v1 []))) := gr_upd (g0.trans g1) hx0 fx1
      refine go_stf (E := E) (o1 := thr (!(decide ((1 : Int) ≤ (ts.length : Nat)) && decide (((ts.length : Nat) : Int) ≤ 6))) "full") (Γ' := fun _ => [some (Vl (.ref x)), some (Is K (.int b)), some (Is K (trsArg to)), some (Is K (pcD po)), none]) ?_ gd1 ?_
      · refine s_ifraise (t_notB (t_lele e_int ?_ (e_glob T.c_MOST_TRACKS fun _ => .int .nil))) T.e_Full hr rfl (takes_of rfl rfl rfl rfl)
        cases to with
        | none => exact e_lenT (ds := [.tup []]) T.n_len (e_var 2 rfl)
        | some ts =>
          have e : ((ts.length : Nat) : Int) = ((ts.map trD).length : Nat) := by rw [List.length_map]
          show EvE _ _ _ _ (Is K (.int ((ts.length : Nat) : Int)))
          rw [e]
          exact e_lenL T.n_len (e_var 2 rfl)
      · have c : Cont K mg m0 F H0 (fun v H' => v = .ref x ∧ Q .non H') E (bif !(decide ((1 : Int) ≤ (ts.length : Nat)) && decide (((ts.length : Nat) : Int) ≤ 6)) then .error "full" else .ok ⟨b, po.getD [], ts⟩) (fun p => ⟨fun v F' => v = .ref x ∧ (TapeT K MC TC p).p v F', fun v F' F'' e h => ⟨h.1, (TapeT K MC TC p).mono v F' F'' e h.2⟩⟩) := c
        generalize (!(decide ((1 : Int) ≤ (ts.length : Nat)) && decide (((ts.length : Nat) : Int) ≤ 6))) = bb at c ⊢
        cases bb with
        | true => exact fun C d F2 H2 g2 i2 e1 e2 => c C d F2 H2 (A1.trans g2) trivial e1 e2
        | false =>
          intro σ2 F2 H2 g2 gd2
          have hx2 := keep g2 upd_same
          have fx2 := away g2 fx1 upd_same
          have hts := hp.ts
          refine go_stf (E := E) (o1 := .ok ()) (Γ' := fun _ => lost [some (Vl (.ref x)), some (Is K (.int b)), some (Is K (trsArg to)), some (Is K (pcD po)), none] [4]) ?_ gd2 ?_
          · show StF _ _ _ [some (Vl (.ref x)), some (Is K (.int b)), some (Is K (trsArg to)), some (Is K (pcD po)), none] _ _ _
            cases to with
            | none =>
              exact s_forL [(none : Option Tr)] (Y := YL [(none : Option Tr)] fun t => Is K (trArg t)) (fun _ t => [some (Vl (.ref x)), some (Is K (.int b)), some (Is K (trsArg none)), some (Is K (pcD po)), some (Is K (trArg t))]) [4] (fun _ _ => .ok ()) (Γ2 := fun _ t => [some (Vl (.ref x)), some (Is K (.int b)), some (Is K (trsArg none)), some (Is K (pcD po)), some (Is K (trArg t))]) (passes_of rfl) rfl
                (i_tup (e_ts (xs := [(none : Option Tr)]) (f := trArg) (e_var 2 rfl))) (fun i t ht => tgY ht (tg_name 4 sc_Tape_init.nd)) (fun i t ht => f_one (s_expr (e_call ⟨t, by
                  have : t ∈ [(none : Option Tr)] := List.mem_of_getElem? ht
                  simp at this
                  subst this
                  exact hts [] (by simp)⟩ (f_need_track T hE) hr (by decide) Sub.zero rfl (a_cons (e_var 4 rfl) a_nil)))) (fun _ _ => rfl)
            | some ts =>
              have e0 : errs (fun _ (_ : Tr) => .ok ()) 0 ts = .ok () := errs_ok fun _ _ _ => rfl
              rw [← e0]
              exact s_forL ts (fun _ t => [some (Vl (.ref x)), some (Is K (.int b)), some (Is K (trsArg (some ts))), some (Is K (pcD po)), some (Is K (trD t))]) [4] (fun _ _ => .ok ()) (Γ2 := fun _ t => [some (Vl (.ref x)), some (Is K (.int b)), some (Is K (trsArg (some ts))), some (Is K (pcD po)), some (Is K (trD t))]) (passes_of rfl) rfl
                (i_list (e_ls (xs := ts) (f := trD) (e_var 2 rfl))) (fun i t ht => tgY ht (tg_name 4 sc_Tape_init.nd)) (fun i t ht => f_one (s_expr (e_call ⟨some t, hts t (List.mem_of_getElem? ht)⟩ (f_need_track T hE) hr (by decide) Sub.zero rfl (a_cons (e_var 4 rfl) a_nil)))) (fun _ _ => rfl)
          · intro σ3 F3 H3 g3 gd3
            have hx3 := keep g3 hx2
            have fx3 := away g3 fx2 hx2
            refine go_fld T.cl_Tape T.na_Tape_rows (Tv := Is K (trsD ts)) ?_ (e_var 0 rfl) gd3 hx3 (by show 1 < 900; decide) fun v4 F4 H4 g4 p4 => ?_
            · cases to with
              | none =>
                exact e_lcAll (xs := [(none : Option Tr)]) (fun t => [some (Vl (.ref x)), some (Is K (.int b)), some (Is K (trsArg none)), some (Is K (pcD po)), some (Is K (trArg none))]) [4] (fun _ => trD []) rfl sc_Tape_init.nd (i_tup (e_ts (xs := [(none : Option Tr)]) (f := trArg) (e_var 2 rfl))) (by decide)
                  (blkOk_by (own := [("track", 4)]) (N := ["self", "beat", "tracks", "paces", "track"]) (sc := defScope s_Tape_init) (by decide +kernel)) (fun i t ht _ _ _ _ _ => by
                    have : t ∈ [(none : Option Tr)] := List.mem_of_getElem? ht
                    simp at this
                    subst this
                    exact tgY ht (tg_name 4 sc_Tape_init.nd)) (fun t ht _ _ _ _ _ => e_listT T.n_list (e_var 4 rfl))
              | some ts =>
                exact e_lcAll (xs := ts) (fun t => [some (Vl (.ref x)), some (Is K (.int b)), some (Is K (trsArg (some ts))), some (Is K (pcD po)), some (Is K (trD t))]) [4] trD rfl sc_Tape_init.nd (i_list (e_ls (xs := ts) (f := trD) (e_var 2 rfl))) (Nat.le_trans hp.n (by decide))
                  (blkOk_by (own := [("track", 4)]) (N := ["self", "beat", "tracks", "paces", "track"]) (sc := defScope s_Tape_init) (by decide +kernel)) (fun i t ht _ _ _ _ _ => tgY ht (tg_name 4 sc_Tape_init.nd)) (fun t ht _ _ _ _ _ => e_list T.n_list (e_var 4 rfl))
            · have fx4 := away g4 fx3 hx3
              have A2 : Gr0 F H0 F4 (upd H4 x (.ins TC dx (putF "rows" v4 (putF "own" v1 [])))) := gr_upd (((A1.trans g2).trans g3).trans g4) hx0 fx4
              have A3 := gr_fin A2 hx0 upd_same fx4
              have e1 : Ex F4 (upd F4 x (.ins TC dx (putF "rows" v4 (putF "own" v1 [])))) := fun b u q => by rw [upd_ne (ne_of_none q fx4)]; exact q
              refine go_end ?_
              exact (c (.ref x) _ _ A3 trivial ⟨rfl, x, dx, _, rfl, upd_same, rfl, (MapT K MC b (po.getD [])).mono _ _ _ (((g2.ff.trans g3.ff).trans g4.ff).trans e1) p1, rfl, (Is K (trsD ts)).mono _ _ _ e1 p4, trivial⟩).2
end
end R60

set_option Elab.async false
set_option pp.maxSteps 400
set_option linter.all false
set_option maxRecDepth 100000
set_option maxHeartbeats 4000000
namespace R60
open PySem PySem.Spec PyProof.Rows L2
section
variable {w : World} {K : PySem.W.Frag} {mg : Str → Option Value} {base : Heap} {MC TC DC : Addr}
theorem len_Tape {vs : List V} {H : Hp} {Q : VK} {E : XK} (h : p_Tape_init K mg MC TC vs H Q E) : vs.length = ["self", "beat", "tracks", "paces"].length := by
  obtain ⟨i, F, H0, x, dx, us, rfl, _, _, _, _, _, hA, _⟩ := h
  rw [List.length_cons, hA.len] <;> rfl
/-- Tape(b) -/
theorem f_Tape1 (T : Txt w K mg MC TC DC) (hE : CalX PG w K mg base 3 "is_event" (p_is_event K mg)) : ∃ tr0 e1, (∀ F, HoldsA [Is K (trsArg none), Is K (pcD none)] [.ref tr0, .ref e1] F) ∧ MakX PG w K mg base 5 "Tape" TC (p_Tape_init K mg MC TC) [.ref tr0, .ref e1] := by
  obtain ⟨f, fd, tr0, e0, e1, hm, hk, hF, h1, h2, h3⟩ := T.i_Tape
  obtain ⟨ds, r, hb⟩ := hF.binds (ps := ["self", "beat", "tracks", "paces"]) 2 1 (by simp) rfl (fun T D doc pm an cdv ct us its ks e1 e2 e3 => by
    match us, e1, its, e2, ks, e3 with
    | [a, b], _, [d1, d2], _, [k0], _ => exact ⟨_, rfl, _, _, _, _, _, _, rfl, rfl, rfl⟩) (by simp)
  refine ⟨tr0, e1, fun F => ⟨.tup (h1 F) (.tup (h2 F) .nil .nil) .nil, .tup (h3 F) .nil .nil, trivial⟩, f, fd, _, ds, hm, hk, hb, r, hF.ok sc_Tape_init (fun vs H Q E h => len_Tape h) fun cdv A outer s H vs Q E hr h => body_Tape_init T hE f cdv A outer s H vs Q E hr h⟩
/-- Tape(b, rows, paces=ps): the class by a call with keywords -/
def MakK (P : Program) (w : World) (K : PySem.W.Frag) (mg : Str → Option Value) (base : Heap) (k : Nat) (x : Str) (C : Addr) (sp : Sp) (n : Nat) (ks : List Str) : Prop :=
  ∃ (f : Addr) (fd : FuncData) (ps : List Str) (g : List Value → List Value → List Value), mg x = some (.ref C) ∧ Mk K C f ∧ KBn K fd ps (n + 1) ks g (fun vs zs => vs ++ zs) ∧ FnOk P w K mg base (L2.CX P w) k f fd ps sp
theorem f_TapeK (T : Txt w K mg MC TC DC) (hE : CalX PG w K mg base 3 "is_event" (p_is_event K mg)) : MakK PG w K mg base 5 "Tape" TC (p_Tape_init K mg MC TC) 2 ["paces"] := by
  obtain ⟨f, fd, tr0, e0, e1, hm, hk, hF, h1, h2, h3⟩ := T.i_Tape
  obtain ⟨its, hb⟩ := hF.kbindsD (ps := ["self", "beat", "tracks", "paces"]) 3 ["paces"] (fun {_} us _ ws => us ++ ws) (by simp) (fun r1 _ r3 => r1.append r3) (fun T kV doc pm an cdv ct us its ws e1 e2 e3 => by
    match us, e1, its, e2, ws, e3 with
    | [a, b, c], _, [d1, d2], _, [k0], _ => exact ⟨_, rfl, rfl⟩)
  exact ⟨f, fd, _, _, hm, hk, hb, hF.ok sc_Tape_init (fun vs H Q E h => len_Tape h) fun cdv A outer s H vs Q E hr h => body_Tape_init T hE f cdv A outer s H vs Q E hr h⟩
end
section
variable {X : Cx} {m : Mu} {E : XK} {Γ : Gam} {e v : Expr} {es : List Expr} {p pos kpos : Pos} {ι α : Type} {x kn : Str} {C : Addr} {k j : Nat} {f : ι → Except Str α} {encI : ι → α → Hp → Ty} {enc' : α → Ty} {Ts : ι → List Ty} {o' : Except Str α} {Ps : List Ty} {Pv : Ty}
/-- C(e, .., k=v) -/
theorem e_makeK (i : ι) (c : MakK X.prog X.w X.K X.mg X.base k x C (spI X.K X.mg C Ts f encI) Ps.length [kn]) (hr : Room j X.A) (hk : k + 1 ≤ j) (hx : Passes (L2.CX X.prog X.w) X E) (ha : EvA X m Γ (e :: es) Ps) (hv : EvE X m Γ v Pv) (hT : Ts i = Ps ++ [Pv]) (hP : ∀ a H0 v F, (encI i a H0).p v F → (enc' a).p v F) (hO : f i = o' := by rfl) (hg : Gl X x := by rfl)
    (hall : (backToKw pos (keywordEach [⟨some kn, v, kpos⟩] X.env)).all (·.1.isSome) = true := by rfl) (hks : (backToKw pos (keywordEach [⟨some kn, v, kpos⟩] X.env)).filterMap (·.1) = [kn] := by rfl) (hdb : (x == ("__debug__" : Str)) = false := by decide)
    (he : starEach (e :: es) X.env = (false, eval e X.env) :: starEach es X.env := by rfl) (hpl : ((backTo pos (starEach (e :: es) X.env)).any (·.1) || (backToKw pos (keywordEach [⟨some kn, v, kpos⟩] X.env)).any (·.1.isNone)) = false := by rfl) :
    EvX X m E Γ (.Call (.Name x p) (e :: es) [⟨some kn, v, kpos⟩] pos) o' enc' := by
  subst hO
  obtain ⟨fa, fd, ps, g, h1, h2, h3, h4⟩ := c
  exact fun σ F H gd Q q pins s I => (pe_makeK h2 h4 (hr.mono hk) hg h1 h3 hx semA (pk_cons sem pk_nil) hall hks hdb he hpl).run pins s σ H Q I (ha σ F H gd _ fun vs F1 H1 g1 i1 p1 => hv σ F1 H1 (gd.next g1 i1) _ fun u F2 H2 g2 i2 p2 => ⟨p1.len, rfl, fun y dx hy hdx ne => ⟨i, F2, H2, y, dx, vs ++ [u], rfl, hy, hdx, ne, rfl, g2.fh, by
    rw [hT]
    exact holdsA_app (p1.mono g2.ff) ⟨p2, trivial⟩, by
    cases hf : f i with
    | ok a =>
      rw [hf] at q
      intro v F3 H3 g3 i3 p3
      obtain ⟨rfl, p3⟩ := p3
      exact ⟨rfl, rfl, q (.ref y) F3 H3 ((g1.trans g2).trans g3.weak) (m.st _ _ _ _ g3 i2) (hP _ _ _ _ p3)⟩
    | error z =>
      rw [hf] at q
      exact fun C d F3 H3 g3 i3 e1 e2 => q C d F3 H3 ((g1.trans g2).trans g3.weak) (m.st _ _ _ _ g3 i2) e1 e2⟩⟩)
end
end R60

set_option Elab.async false
set_option pp.maxSteps 400
set_option linter.all false
set_option maxRecDepth 100000
set_option maxHeartbeats 4000000
namespace R60
open PySem PySem.Spec PyProof.Rows L2
section
variable {w : World} {K : PySem.W.Frag} {mg : Str → Option Value} {base : Heap} {MC TC DC : Addr}
def p_Map_beat (K : PySem.W.Frag) (mg : Str → Option Value) (MC : Addr) : Sp := spG (ι := Int × List (Int × Int)) (α := Unit) K mg (fun _ => m0) (fun i => [MapT K MC i.1 i.2]) (fun _ => .ok ()) (fun i _ => Is K (.int i.1))
theorem f_Map_beat (T : Txt w K mg MC TC DC) : MetX PG w K mg base 1 MC "beat" (p_Map_beat K mg MC) := by
  refine met_blk T.m_Map_beat sc_Map_beat bd_Map_beat (fun _ => rfl) (fun _ => rfl) ?_
  rintro ⟨b, ps⟩ f cdv A outer s H E hr
  exact b_retD (v := ()) (e_fld T.cl_Map T.na_Map_ticks (e_var 0 rfl) rfl) rfl rfl
def p_Map_paces (K : PySem.W.Frag) (mg : Str → Option Value) (MC : Addr) : Sp := spG (ι := Int × List (Int × Int)) (α := Unit) K mg (fun _ => m0) (fun i => [MapT K MC i.1 i.2]) (fun _ => .ok ()) (fun i _ => Is K (pairsD (srtP i.2)))
theorem f_Map_paces (T : Txt w K mg MC TC DC) : MetX PG w K mg base 1 MC "paces" (p_Map_paces K mg MC) := by
  refine met_blk T.m_Map_paces sc_Map_paces bd_Map_paces (fun _ => rfl) (fun _ => rfl) ?_
  rintro ⟨b, ps⟩ f cdv A outer s H E hr
  exact b_retD (v := ()) (e_sortItems rfl T.n_sorted (e_fld T.cl_Map T.na_Map_known (e_var 0 rfl) rfl)) rfl rfl
def p_Tape_beat (K : PySem.W.Frag) (mg : Str → Option Value) (MC TC : Addr) : Sp := spG (ι := Tp) (α := Unit) K mg (fun _ => m0) (fun i => [TapeT K MC TC i]) (fun _ => .ok ()) (fun i _ => Is K (.int i.b))
theorem f_Tape_beat (T : Txt w K mg MC TC DC) : MetX PG w K mg base 2 TC "beat" (p_Tape_beat K mg MC TC) := by
  refine met_blk T.m_Tape_beat sc_Tape_beat bd_Tape_beat (fun _ => rfl) (fun _ => rfl) ?_
  rintro p f cdv A outer s H E hr
  exact b_retP (v := ()) (e_meth0 (p.b, p.ps) (f_Map_beat T) hr (by decide) (insAt_of rfl) Sub.zero rfl (e_fld T.cl_Tape T.na_Tape_own (e_var 0 rfl) rfl) rfl) rfl fun _ _ h => h
def p_Tape_paces (K : PySem.W.Frag) (mg : Str → Option Value) (MC TC : Addr) : Sp := spG (ι := Tp) (α := Unit) K mg (fun _ => m0) (fun i => [TapeT K MC TC i]) (fun _ => .ok ()) (fun i _ => Is K (pairsD (srtP i.ps)))
theorem f_Tape_paces (T : Txt w K mg MC TC DC) : MetX PG w K mg base 2 TC "paces" (p_Tape_paces K mg MC TC) := by
  refine met_blk T.m_Tape_paces sc_Tape_paces bd_Tape_paces (fun _ => rfl) (fun _ => rfl) ?_
  rintro p f cdv A outer s H E hr
  exact b_retP (v := ()) (e_meth0 (p.b, p.ps) (f_Map_paces T) hr (by decide) (insAt_of rfl) Sub.zero rfl (e_fld T.cl_Tape T.na_Tape_own (e_var 0 rfl) rfl) rfl) rfl fun _ _ h => h
def p_Tape_tracks (K : PySem.W.Frag) (mg : Str → Option Value) (MC TC : Addr) : Sp := spG (ι := { p : Tp // p.ts.length ≤ 1000 }) (α := Unit) K mg (fun _ => m0) (fun i => [TapeT K MC TC i.1]) (fun _ => .ok ()) (fun i _ => Is K (trsD i.1.ts))
def p_Tape_tracksN (K : PySem.W.Frag) (MC TC : Addr) : Sp := spN (ι := { p : Tp // p.ts.length ≤ 1000 }) (fun i => [TapeT K MC TC i.1]) (fun i => i.1.ts.map fun t => Is K (trD t))
theorem f_Tape_tracksN (T : Txt w K mg MC TC DC) : MetX PG w K mg base 1 TC "tracks" (p_Tape_tracksN K MC TC) := by
  refine met_blkN T.m_Tape_tracks sc_Tape_tracks bd_Tape_tracks (fun _ => rfl) (fun _ => rfl) rfl ?_
  rintro ⟨p, hp⟩ f cdv A outer s H E hr
  exact n_lcAll (xs := p.ts) (fun t => [some (TapeT K MC TC p), some (Is K (trD t))]) [1] (fun t => Is K (trD t)) rfl sc_Tape_tracks.nd (i_list (e_ls (xs := p.ts) (f := trD) (e_fld T.cl_Tape T.na_Tape_rows (e_var 0 rfl) rfl))) (Nat.le_trans hp (by decide))
    (blkOk_by (own := [("track", 1)]) (N := ["self", "track"]) (sc := defScope s_Tape_tracks) (by decide +kernel)) (fun i t ht _ _ _ _ _ => tgY ht (tg_name 1 sc_Tape_tracks.nd)) (fun t ht _ _ _ _ _ => e_list T.n_list (e_var 1 rfl))
theorem f_Tape_tracks (T : Txt w K mg MC TC DC) : MetX PG w K mg base 1 TC "tracks" (p_Tape_tracks K mg MC TC) :=
  (f_Tape_tracksN T).imp fun vs H Q E h => spN_imp (o := fun _ => .ok ()) (fun _ => rfl) (fun i v F p => ls_e p) vs H Q E h
end
end R60

set_option Elab.async false
set_option pp.maxSteps 400
set_option linter.all false
set_option maxRecDepth 100000
set_option maxHeartbeats 4000000
namespace R60
open PySem PySem.Spec PyProof.Rows L2
abbrev Bk := List (Str × Tp)
def tk (b : Bk) (T : Tp → Ty) : List (L2.Key × Ty) := b.map fun p => (Sum.inr p.1, T p.2)
theorem atK_map {α β : Type} {b : List (Str × α)} {g : α → β} {n : Str} : atK (b.map fun p => ((Sum.inr p.1 : L2.Key), g p.2)) (Sum.inr n) = (atK b n).map g := by
  induction b with
  | nil => rfl
  | cons p r ih =>
    unfold atK at ih ⊢
    by_cases h : p.1 = n
    · simp [h]
    · have h' : ¬ (Sum.inr p.1 : L2.Key) = Sum.inr n := fun z => h (Sum.inr.inj z)
      simpa [h, h'] using ih
def BookT (K : PySem.W.Frag) (MC TC : Addr) (b : Bk) : Ty := DicT (tk b (TapeT K MC TC))
section
variable {w : World} {K : PySem.W.Frag} {mg : Str → Option Value} {base : Heap} {MC TC DC : Addr}
/-! need_new, need_room, tape_of -/
def lenOk (n : Str) : Bool := decide ((1 : Int) ≤ (n.length : Nat)) && decide (((n.length : Nat) : Int) ≤ 8)
def lowOk (n : Str) : Bool := n.cps.toList.all fun c => decide (c ∈ letters.cps.toList)
def needNew (b : Bk) (n : Str) : Except Str Unit := bif !lenOk n || !lowOk n then .error "badname" else thr (atK b n).isSome "taken"
def p_need_new (K : PySem.W.Frag) (mg : Str → Option Value) (MC TC : Addr) : Sp := spG (ι := { p : Bk × Str // p.2.length ≤ 1000 }) K mg (fun _ => m0) (fun i => [BookT K MC TC i.1.1, Is K (.str i.1.2)]) (fun i => needNew i.1.1 i.1.2) (fun _ _ => Is K .non)
theorem f_need_new (T : Txt w K mg MC TC DC) : CalX PG w K mg base 1 "need_new" (p_need_new K mg MC TC) := by
  refine cal_stf T.d_need_new sc_need_new bd_need_new (fun _ => rfl) (fun _ => rfl) ?_
  rintro ⟨⟨b, n⟩, hn⟩ f cdv A outer s H E hr
  replace hn : n.length ≤ 1000 := hn
  refine ⟨fun _ => [some (BookT K MC TC b), some (Is K (.str n)), none], f_cons (s_ifraise (b := !lenOk n || !lowOk n) (EvW.toT (w_orB (t_notB (t_lele e_int (e_lenS T.n_len hn (e_var 1 rfl)) (e_glob T.c_MOST_SIGNS_deeds fun _ => .int .nil))) fun _ => w_or1 (t_notB (EvT.eq (t_bl (e_all (bs := n.cps.toList.map fun c => decide (c ∈ letters.cps.toList)) rfl T.n_all ?_)) all_map)))) T.e_BadName hr rfl (takes_of rfl rfl rfl rfl)) (fun z hz => ?_) fun u hu => f_one ?_⟩
  · refine EvE.eq (e_lcAll (xs := n.cps.toList) (fun c => [some (BookT K MC TC b), some (Is K (.str n)), some (Is K (.str ⟨#[c]⟩))]) [2] (fun c => .bl (decide (c ∈ letters.cps.toList))) rfl sc_need_new.nd (i_str (e_var 1 rfl)) (by simpa [PySem.Str.length] using Nat.le_trans hn (by decide)) (blkOk_by (own := [("sign", 2)]) (N := ["book", "name", "sign"]) (sc := defScope s_need_new) (by decide +kernel))
      (fun i x hx _ _ _ _ _ => tgY hx (tg_name 2 sc_need_new.nd)) (fun c hc _ _ _ _ _ => e_inSign (e_var 2 rfl) (e_glob T.c_LETTERS fun _ => .str .nil))) ?_
    rw [List.map_map] <;> rfl
  · have := thr_err hz
    show needNew b n = _
    unfold needNew
    rw [this.1, this.2]
    rfl
  · have := thr_ok hu
    show StF _ _ _ _ _ (needNew b n) _
    unfold needNew
    rw [this]
    have e : (atK (tk b (TapeT K MC TC)) (Sum.inr n)).isSome = (atK b n).isSome := by
      unfold tk
      rw [atK_map]
      cases atK b n <;> rfl
    rw [← e]
    exact s_ifraise (t_in (ky := .inr n) hr (e_var 1 rfl) (e_var 0 rfl)) T.e_Taken hr rfl (takes_of rfl rfl rfl rfl)
def needRoomD (n : Nat) : Except Str Unit := thr (decide ((6 : Int) ≤ n)) "full"
def p_need_room_d (K : PySem.W.Frag) (mg : Str → Option Value) (MC TC : Addr) : Sp := spG (ι := Bk) K mg (fun _ => m0) (fun b => [BookT K MC TC b]) (fun b => needRoomD b.length) (fun _ _ => Is K .non)
theorem f_need_room_d (T : Txt w K mg MC TC DC) : CalX PG w K mg base 1 "need_room_deeds" (p_need_room_d K mg MC TC) := by
  refine cal_stf T.d_need_room_d sc_need_room_d bd_need_room_d (fun _ => rfl) (fun _ => rfl) ?_
  intro b f cdv A outer s H E hr
  have e : ((b.length : Nat) : Int) = ((tk b (TapeT K MC TC)).length : Nat) := by unfold tk; rw [List.length_map]
  refine ⟨fun _ => [some (BookT K MC TC b)], ?_⟩
  show StFs _ _ _ _ _ (thr (decide ((6 : Int) ≤ ((b.length : Nat) : Int))) "full") _
  rw [e]
  exact f_one (s_ifraise (t_ge (e_lenD T.n_len (e_var 0 rfl)) (e_glob T.c_MOST_TAPES fun _ => .int .nil)) T.e_Full hr rfl (takes_of rfl rfl rfl rfl))
def tapeOf (b : Bk) (n : Str) : Except Str Tp := match atK b n with
  | none => .error "notape"
  | some p => .ok p
def p_tape_of (K : PySem.W.Frag) (mg : Str → Option Value) (MC TC : Addr) : Sp := spG (ι := Bk × Str) K mg (fun _ => m0) (fun i => [BookT K MC TC i.1, Is K (.str i.2)]) (fun i => tapeOf i.1 i.2) (fun _ p => TapeT K MC TC p)
theorem f_tape_of (T : Txt w K mg MC TC DC) : CalX PG w K mg base 1 "tape_of" (p_tape_of K mg MC TC) := by
  refine cal_blk T.d_tape_of sc_tape_of bd_tape_of (fun _ => rfl) (fun _ => rfl) ?_
  rintro ⟨b, n⟩ f cdv A outer s H E hr
  have e : atK (tk b (TapeT K MC TC)) (Sum.inr n) = (atK b n).map (TapeT K MC TC) := atK_map
  refine b_if (t_nin (ky := .inr n) hr (e_var 1 rfl) (e_var 0 rfl)) (fun h => b_raise T.e_NoTape ?_ hr rfl (takes_of rfl rfl rfl rfl)) fun h => ?_
  · show tapeOf b n = _
    unfold tapeOf
    rw [e] at h
    cases hb : atK b n with
    | none => rfl
    | some p => rw [hb] at h; cases h
  · rw [e] at h
    cases hb : atK b n with
    | none => rw [hb] at h; cases h
    | some p => exact b_ret (v := p) (e_dget (ky := .inr n) hr (e_var 0 rfl) (e_var 1 rfl) (by rw [e, hb] <;> rfl)) (by
        show tapeOf b n = _
        unfold tapeOf
        rw [hb])
/-! track_of, with_track -/
def trackOf (p : Tp) (n : Int) : Except Str Tr := bif !(decide (0 ≤ n) && decide (n < (p.ts.length : Nat))) then .error "notrack" else match p.ts[n.toNat]? with
  | none => .error ""
  | some t => .ok t
def p_track_of (K : PySem.W.Frag) (mg : Str → Option Value) (MC TC : Addr) : Sp := spG (ι := { i : Tp × Int // i.1.ts.length ≤ 1000 }) K mg (fun _ => m0) (fun i => [TapeT K MC TC i.1.1, Is K (.int i.1.2)]) (fun i => trackOf i.1.1 i.1.2) (fun _ t => Is K (trD t))
theorem f_track_of (T : Txt w K mg MC TC DC) : CalX PG w K mg base 2 "track_of" (p_track_of K mg MC TC) := by
  refine cal_blk T.d_track_of sc_track_of bd_track_of (fun _ => rfl) (fun _ => rfl) ?_
  rintro ⟨⟨p, n⟩, hl⟩ f cdv A outer s H E hr
  have e : ((p.ts.length : Nat) : Int) = ((p.ts.map trD).length : Nat) := by rw [List.length_map]
  refine b_set 2 (e_meth0 ⟨p, hl⟩ (f_Tape_tracks T) hr (by decide) (insAt_of rfl) Sub.zero rfl (e_var 0 rfl) rfl) ?_ sc_track_of.nd
  refine b_if (S := Eq (!(decide (0 ≤ n) && decide (n < (p.ts.length : Nat))))) ?_ (fun h => b_raise T.e_NoTrack ?_ hr rfl (takes_of rfl rfl rfl rfl)) fun h => ?_
  · rw [e]
    exact t_notB (t_lelt e_int (e_var 1 rfl) (e_lenL T.n_len (e_var 2 rfl)))
  · show trackOf p n = _
    unfold trackOf
    rw [h]
    rfl
  · have h2 : 0 ≤ n ∧ n < (p.ts.length : Nat) := by simpa using h
    obtain ⟨j, rfl⟩ := Int.eq_ofNat_of_zero_le h2.1
    have hi : j < p.ts.length := by omega
    have hx : p.ts[j]? = some p.ts[j] := by simp [hi]
    refine b_ret (v := p.ts[j]) (e_ixL (e_var 2 rfl) (e_var 1 rfl) (at_nat j (by
        rw [List.getElem?_map, hx] <;> rfl))) ?_
    show trackOf p j = _
    unfold trackOf
    rw [h]
    simp [hx]
end
end R60

set_option Elab.async false
set_option pp.maxSteps 400
set_option linter.all false
set_option maxRecDepth 100000
set_option maxHeartbeats 4000000
namespace R60
open PySem PySem.Spec PyProof.Rows L2
theorem srtBy_perm {α : Type} {S : List α → Prop} (ns : List α) : (srtBy S ns).Perm ns := by
  unfold srtBy
  split
  · rename_i h
    exact h.choose_spec.1
  · exact List.Perm.refl _
theorem Pcs.perm {ps qs : List (Int × Int)} (h : Pcs ps) (p : qs.Perm ps) : Pcs qs :=
  ⟨by rw [p.length_eq]; exact h.n, (p.map (·.1)).nodup_iff.mpr h.d, fun q hq => h.t q (p.mem_iff.mp hq), fun q hq => h.p q (p.mem_iff.mp hq)⟩
theorem Pcs.srt {ps : List (Int × Int)} (h : Pcs ps) : Pcs (srtP ps) := h.perm (srtBy_perm ps)
theorem needBeat_ok {b : Int} (h : 1 ≤ b ∧ b ≤ 960) : needBeat b = .ok () := by
  unfold needBeat thr
  simp [h.1, h.2]
theorem mkTape_ok {b : Int} {po : Option (List (Int × Int))} {to : Option (List Tr)} (hb : 1 ≤ b ∧ b ≤ 960) (hn : 1 ≤ (to.getD [[]]).length ∧ (to.getD [[]]).length ≤ 6) : mkTape b po to = .ok ⟨b, po.getD [], to.getD [[]]⟩ := by
  unfold mkTape
  rw [needBeat_ok hb]
  have h1 : (!(decide ((1 : Int) ≤ ((to.getD [[]]).length : Nat)) && decide ((((to.getD [[]]).length : Nat) : Int) ≤ 6))) = false := by
    simp
    omega
  simp only [h1, cond_false]
section
variable {w : World} {K : PySem.W.Frag} {mg : Str → Option Value} {base : Heap} {MC TC DC : Addr}
/-- a tape with another track at j -/
noncomputable def Tp.setT (p : Tp) (j : Nat) (t : Tr) : Tp := ⟨p.b, srtP p.ps, p.ts.set j t⟩
theorem das_set {K : PySem.W.Frag} {F : Hp} {d : D} {v : V} : ∀ {ds : List D} {vs : List V} {j : Nat}, DAs K F ds vs → DAt K F d v → DAs K F (ds.set j d) (vs.set j v)
  | [], vs, j, h, hd => by rw [h.nl]; simp; exact .nil
  | x :: ds, vs, 0, h, hd => by
    obtain ⟨u, r, rfl, h1, h2⟩ := h.un
    exact .cons hd h2
  | x :: ds, vs, j + 1, h, hd => by
    obtain ⟨u, r, rfl, h1, h2⟩ := h.un
    exact .cons h1 (das_set h2 hd)
abbrev ιW := { i : Tp × Nat × Tr // TpOk i.1 ∧ i.2.1 < i.1.ts.length ∧ TrOk i.2.2 }
def p_with_track (K : PySem.W.Frag) (mg : Str → Option Value) (MC TC : Addr) : Sp := spG (ι := ιW) (α := Unit) K mg (fun _ => m0) (fun i => [TapeT K MC TC i.1.1, Is K (.int i.1.2.1), Is K (trD i.1.2.2)]) (fun i => .ok ()) (fun i _ => TapeT K MC TC (i.1.1.setT i.1.2.1 i.1.2.2))
theorem f_with_track (T : Txt w K mg MC TC DC) (hE : CalX PG w K mg base 3 "is_event" (p_is_event K mg)) : CalX PG w K mg base 7 "with_track" (p_with_track K mg MC TC) := by
  refine cal_blk T.d_with_track sc_with_track bd_with_track (fun _ => rfl) (fun _ => rfl) ?_
  rintro ⟨⟨p, j, t⟩, hp, hj, ht⟩ f cdv A outer s H0 E hr
  replace hj : j < p.ts.length := hj
  have hn6 : 1 ≤ p.ts.length ∧ p.ts.length ≤ 6 := hp.n
  intro σ F H g D q
  refine go_setN 3 (n_meth0 ⟨p, by omega⟩ (f_Tape_tracksN T) hr (by decide) (insAt_of rfl) (e_var 0 rfl) rfl) g (fun a acc F1 H1 g1 i1 h0 f0 hl hA gd1 => ?_) sc_with_track.nd
  have hlen : acc.length = p.ts.length := by rw [hA.len]; exact List.length_map _
  refine go_lset (Tv := Is K (trD t)) (e_var 2 rfl) (e_var 3 rfl) (e_var 1 rfl) gd1 hl (by rw [hlen]; exact hj) fun v F2 H2 g2 p2 => ?_
  have f2 : F2 a = none := g2.nw a f0 (by rw [hl]; simp)
  have ex : Ex F2 (upd F2 a (.lst (acc.set j v))) := fun b u z => by rw [upd_ne (ne_of_none z f2)]; exact z
  have A2 : Gr0 F H F2 (upd H2 a (.lst (acc.set j v))) := gr_upd (Gr.trans g1 g2) h0 f2
  have A3 := gr_fin A2 h0 upd_same f2
  have tr : (Is K (trsD (p.ts.set j t))).p (.ref a) (upd F2 a (.lst (acc.set j v))) := by
    refine .lst upd_same ?_ .nil
    have d1 : DAs K F2 (p.ts.map trD) acc := das_of (by rw [List.map_map]; exact hA.mono g2.ff)
    rw [List.map_set]
    exact (das_set d1 p2).mono ex
  have gd3 : Good m0 [some (TapeT K MC TC p), some (Is K (.int j)), some (Is K (trD t)), some (Is K (trsD (p.ts.set j t)))] _ (upd F2 a (.lst (acc.set j v))) (upd H2 a (.lst (acc.set j v))) :=
    ⟨A3.fh, trivial, by
      have hh := ((gd1.h.mono g2.ff).mono ex)
      obtain ⟨v0, s0, p0⟩ := hh 3 _ rfl
      have p0 : v0 = .ref a := p0
      exact hh.set' 3 s0 (by rw [p0]; exact tr)⟩
  have hn' : 1 ≤ (p.ts.set j t).length ∧ (p.ts.set j t).length ≤ 6 := by rw [List.length_set]; exact hn6
  refine b_retX (o := .ok (p.setT j t)) (enc := fun p => TapeT K MC TC p) (e_makeK (ι := ιT) (Ps := [Is K (.int p.b), Is K (trsD (p.ts.set j t))]) ⟨(p.b, some (p.ts.set j t), some (srtP p.ps)), hp.ps.srt, fun t' ht' => ?_, by show (p.ts.set j t).length ≤ 1000; omega⟩ (f_TapeK T hE) hr (by decide) passE
    (a_cons (e_meth0 p (f_Tape_beat T) hr (by decide) (insAt_of rfl) Sub.zero rfl (e_var 0 rfl) rfl) (a_cons (e_var 3 rfl) a_nil)) (e_meth0 p (f_Tape_paces T) hr (by decide) (insAt_of rfl) Sub.zero rfl (e_var 0 rfl) rfl) rfl (fun a H0 v F h => h) (mkTape_ok (to := some (p.ts.set j t)) (po := some (srtP p.ps)) hp.b hn')) _ _ _ gd3 D ?_
  · rcases List.mem_or_eq_of_mem_set ht' with h | h
    · exact hp.ts t' h
    · rw [h]; exact ht
  · have q : Cont K mg m0 F H D.rt E (.ok ()) (fun _ => TapeT K MC TC (p.setT j t)) := q
    exact fun v F' H' g' i' p' => q v F' H' (A3.trans g') trivial p'
end
end R60

set_option Elab.async false
set_option linter.all false
namespace R60
open PySem
/-! ### the plain law: tracks stay good -/
theorem putIn_ok {t t' : Tr} {e : Ev} (h : TrOk t) (hp : putIn t e = .ok t') : TrOk t' ∧ t' = put1 t e := by
  unfold putIn at hp
  cases he : e.ok with
  | false => rw [he] at hp; cases hp
  | true =>
    rw [he] at hp
    cases hd : decide ((200 : Int) < ((t.length + 1 : Nat) : Int)) with
    | true => rw [hd] at hp; cases hp
    | false =>
      rw [hd] at hp
      cases hp
      have hl : t.length + 1 ≤ 200 := by
        have := of_decide_eq_false hd
        omega
      refine ⟨⟨by rw [put1_len]; exact hl, fun x hx => ?_, ?_⟩, rfl⟩
      · unfold put1 at hx
        simp only [List.mem_append, List.mem_singleton] at hx
        rcases hx with (hx | rfl) | hx
        · exact h.ok x (List.mem_of_mem_take hx)
        · exact he
        · exact h.ok x (List.mem_of_mem_drop hx)
      · -- sorted: the events up to e.t stand ahead
        have key : ∀ {t : Tr}, (t.Pairwise fun a b => a.t ≤ b.t) → (∀ x ∈ t.take (t.filter fun x => decide (x.t ≤ e.t)).length, x.t ≤ e.t) ∧ (∀ x ∈ t.drop (t.filter fun x => decide (x.t ≤ e.t)).length, e.t ≤ x.t) := by
          intro t
          induction t with
          | nil => intro _; simp
          | cons a r ih =>
            intro hs
            rw [List.pairwise_cons] at hs
            obtain ⟨i1, i2⟩ := ih hs.2
            by_cases ha : a.t ≤ e.t
            · simp only [List.filter_cons, ha, decide_true, if_true, List.length_cons, List.take_succ_cons, List.drop_succ_cons]
              refine ⟨fun x hx => ?_, i2⟩
              rcases List.mem_cons.mp hx with rfl | hx
              · exact ha
              · exact i1 x hx
            · have nil : r.filter (fun x => decide (x.t ≤ e.t)) = [] := by
                rw [List.filter_eq_nil_iff]
                intro x hx hc
                have := hs.1 x hx
                have hc : x.t ≤ e.t := by simpa using hc
                omega
              simp only [List.filter_cons, ha, decide_false, Bool.false_eq_true, if_false, nil, List.length_nil, List.take_zero, List.drop_zero]
              refine ⟨fun x hx => (by simp at hx), fun x hx => ?_⟩
              rcases List.mem_cons.mp hx with rfl | hx
              · omega
              · have := hs.1 x hx
                omega
        obtain ⟨k1, k2⟩ := key h.srt
        unfold put1
        rw [List.append_assoc, List.pairwise_append]
        refine ⟨h.srt.sublist (List.take_sublist _ _), ?_, fun a ha b hb => ?_⟩
        · rw [List.singleton_append, List.pairwise_cons]
          exact ⟨k2, h.srt.sublist (List.drop_sublist _ _)⟩
        · rcases List.mem_append.mp hb with hb | hb
          · rw [List.mem_singleton.mp hb]
            exact k1 a ha
          · have := k1 a ha
            have := k2 b hb
            omega
theorem TrOk.sub {t u : Tr} (h : TrOk t) (s : List.Sublist u t) : TrOk u := ⟨Nat.le_trans s.length_le h.n, fun e he => h.ok e (s.subset he), h.srt.sublist s⟩
theorem TrOk.nil : TrOk [] := ⟨by simp, by simp, .nil⟩
theorem take_ok {t : Tr} (h : TrOk t) (n : Nat) : TrOk (t.take n ++ t.drop (n + 1)) := h.sub (by
  have : t.take n ++ t.drop (n + 1) = t.eraseIdx n := by rw [List.eraseIdx_eq_take_drop_succ]
  rw [this]
  exact List.eraseIdx_sublist _ _)
theorem needTick_ok {t : Int} (h : needTick t = .ok ()) : 0 ≤ t ∧ t ≤ 999999 := by
  have := thr_ok h
  simpa using this
theorem errs_all {α : Type} {c : Nat → α → Except Str Unit} : ∀ {xs : List α} {i : Nat}, errs c i xs = .ok () → ∀ j x, xs[j]? = some x → c (i + j) x = .ok ()
  | [], _, _, j, x, hx => by simp at hx
  | y :: r, i, h, j, x, hx => by
    unfold errs at h
    cases hc : c i y with
    | error z => rw [hc] at h; cases h
    | ok u =>
      rw [hc] at h
      cases j with
      | zero =>
        simp at hx
        subst hx
        exact hc
      | succ j =>
        have := errs_all (c := c) (i := i + 1) h j x (by simpa using hx)
        rw [show i + (j + 1) = i + 1 + j from by omega]
        exact this
theorem later_ok {t t' : Tr} {b : Int} (h : TrOk t) (hp : laterO t b = .ok t') : TrOk t' ∧ t' = t.map (shift b) := by
  unfold laterO at hp
  cases he : errs (fun _ (e : Ev) => needTick (e.t + b)) 0 t with
  | error z => rw [he] at hp; cases hp
  | ok u =>
    rw [he] at hp
    cases hp
    refine ⟨⟨by rw [List.length_map]; exact h.n, fun x hx => ?_, ?_⟩, rfl⟩
    · obtain ⟨e, hm, rfl⟩ := List.mem_map.mp hx
      obtain ⟨j, hj⟩ := List.mem_iff_getElem?.mp hm
      have := needTick_ok (errs_all he j e hj)
      have ho := h.ok e hm
      unfold Ev.ok at ho ⊢
      rw [Bool.and_eq_true] at ho ⊢
      refine ⟨?_, ho.2⟩
      show (decide (0 ≤ e.t + b) && decide (e.t + b ≤ 999999)) = true
      simp [this.1, this.2]
    · refine List.pairwise_map.mpr (h.srt.imp fun {a c} hac => ?_)
      show a.t + b ≤ c.t + b
      omega
theorem filt_ok {t : Tr} (h : TrOk t) (f : Ev → Bool) : TrOk (t.filter f) := h.sub List.filter_sublist
theorem trackOf_ok {p : Tp} {n : Int} {t : Tr} (h : trackOf p n = .ok t) : ∃ j : Nat, n = j ∧ j < p.ts.length ∧ p.ts[j]? = some t := by
  unfold trackOf at h
  cases hb : (!(decide (0 ≤ n) && decide (n < (p.ts.length : Nat)))) with
  | true => rw [hb] at h; cases h
  | false =>
    rw [hb] at h
    have h2 : 0 ≤ n ∧ n < (p.ts.length : Nat) := by simpa using hb
    refine ⟨n.toNat, by omega, by omega, ?_⟩
    cases ht : p.ts[n.toNat]? with
    | none => rw [ht] at h; cases h
    | some u => rw [ht] at h; cases h; rfl
end R60

set_option Elab.async false
set_option pp.maxSteps 400
set_option linter.all false
set_option maxRecDepth 100000
set_option maxHeartbeats 4000000
namespace R60
open PySem PySem.Spec PyProof.Rows L2
/-- a book whose tapes are good -/
def BkOk (b : Bk) : Prop := ∀ p ∈ b, TpOk p.2
theorem atK_mem {α : Type} {b : List (Str × α)} {n : Str} {p : α} (h : atK b n = some p) : (n, p) ∈ b := by
  induction b with
  | nil => cases h
  | cons q r ih =>
    by_cases hq : q.1 = n
    · unfold atK at h
      simp [hq] at h
      subst h
      rw [← hq]
      exact List.mem_cons_self
    · exact List.mem_cons_of_mem _ (ih (by unfold atK at h ⊢; simpa [hq] using h))
theorem BkOk.at {b : Bk} (h : BkOk b) {n : Str} {p : Tp} (e : atK b n = some p) : TpOk p := h _ (atK_mem e)
theorem tapeOf_at {b : Bk} {n : Str} {p : Tp} (h : tapeOf b n = .ok p) : atK b n = some p := by
  unfold tapeOf at h
  cases e : atK b n with
  | none => rw [e] at h; cases h
  | some q => rw [e] at h; cases h; rfl
def newO (b : Bk) (n : Str) (beat : Int) : Except Str Tp := match needNew b n with
  | .error z => .error z
  | .ok () => match mkTape beat none none with
    | .error z => .error z
    | .ok p => match needRoomD b.length with
      | .error z => .error z
      | .ok () => .ok p
noncomputable def addO (b : Bk) (n : Str) : Except Str Tp := match tapeOf b n with
  | .error z => .error z
  | .ok p => mkTape p.b (some (srtP p.ps)) (some (p.ts ++ [[]]))
noncomputable def putO (b : Bk) (n : Str) (i : Int) (e : Ev) : Except Str Tp := match tapeOf b n with
  | .error z => .error z
  | .ok p => match trackOf p i with
    | .error z => .error z
    | .ok t => match putIn t e with
      | .error z => .error z
      | .ok t' => .ok (p.setT i.toNat t')
noncomputable def takeO (b : Bk) (n : Str) (i pl : Int) : Except Str Tp := match tapeOf b n with
  | .error z => .error z
  | .ok p => match trackOf p i with
    | .error z => .error z
    | .ok t => bif !(decide (0 ≤ pl) && decide (pl < (t.length : Nat))) then .error "noevent" else .ok (p.setT i.toNat (t.take pl.toNat ++ t.drop (pl.toNat + 1)))
noncomputable def laterPO (b : Bk) (n : Str) (i by_ : Int) : Except Str Tp := match tapeOf b n with
  | .error z => .error z
  | .ok p => match trackOf p i with
    | .error z => .error z
    | .ok t => match laterO t by_ with
      | .error z => .error z
      | .ok t' => .ok (p.setT i.toNat t')
noncomputable def partO (b : Bk) (n : Str) (i ch : Int) : Except Str Tp := match tapeOf b n with
  | .error z => .error z
  | .ok p => match trackOf p i with
    | .error z => .error z
    | .ok t => bif !(decide (0 ≤ ch) && decide (ch ≤ 15)) then .error "badchannel" else bif decide ((6 : Int) ≤ (p.ts.length : Nat)) then .error "full" else
      mkTape p.b (some (srtP p.ps)) (some ((p.ts.set i.toNat (t.filter fun e => !isOf ch e)) ++ [t.filter (isOf ch)]))
section
variable {w : World} {K : PySem.W.Frag} {mg : Str → Option Value} {base : Heap} {MC TC DC : Addr}
/-- do_X(book, name, things) -/
abbrev tsDo (K : PySem.W.Frag) (MC TC : Addr) (b : Bk) (n : Str) (ds : List D) : List Ty := [BookT K MC TC b, Is K (.str n), Is K (.lst ds)]
def p_do_new (K : PySem.W.Frag) (mg : Str → Option Value) (MC TC : Addr) : Sp := spG (ι := { i : Bk × Str × Int // i.2.1.length ≤ 1000 }) K mg (fun _ => m0) (fun i => tsDo K MC TC i.1.1 i.1.2.1 [.int i.1.2.2]) (fun i => newO i.1.1 i.1.2.1 i.1.2.2) (fun _ p => TapeT K MC TC p)
theorem f_do_new (T : Txt w K mg MC TC DC) (hE : CalX PG w K mg base 3 "is_event" (p_is_event K mg)) : CalX PG w K mg base 8 "do_new" (p_do_new K mg MC TC) := by
  refine cal_blk T.d_do_new sc_do_new bd_do_new (fun _ => rfl) (fun _ => rfl) ?_
  rintro ⟨⟨b, n, beat⟩, hn⟩ f cdv A outer s H E hr
  obtain ⟨tr0, e1, hD, hM⟩ := f_Tape1 (base := base) T hE
  have q0 : ∀ z, needNew b n = .error z → newO b n beat = .error z := fun z h => by unfold newO; rw [h]
  refine b_stf (s_exprX (e_callX (o' := needNew b n) ⟨(b, n), hn⟩ (f_need_new T) hr (by decide) passE Sub.zero (a_cons (e_var 0 rfl) (a_cons (e_var 1 rfl) a_nil)))) q0 fun _ h1 => ?_
  refine b_setX 3 (oe := mkTape beat none none) (ence := fun p => TapeT K MC TC p) (e_make (ι := ιT) ⟨(beat, none, none), ⟨by simp, .nil, by simp, by simp⟩, fun t ht => by simp at ht; subst ht; exact TrOk.nil, by simp⟩ hM hr (by decide) passE (a_cons (e_ixL (e_var 2 rfl) e_int at_0) a_nil) hD rfl (fun a H0 v F h => h)) (fun z h => by
    show newO b n beat = _
    unfold newO
    rw [h1, h]) (fun p h2 => ?_) sc_do_new.nd
  refine b_stf (s_exprX (e_callX (o' := needRoomD b.length) b (f_need_room_d T) hr (by decide) passE Sub.zero (a_cons (e_var 0 rfl) a_nil))) (fun z h => by
    show newO b n beat = _
    unfold newO
    rw [h1, h2]
    simp only [h]) fun _ h3 => b_ret (v := p) (e_var 3 rfl) (by
    show newO b n beat = _
    unfold newO
    rw [h1, h2]
    simp only [h3])
def p_do_add (K : PySem.W.Frag) (mg : Str → Option Value) (MC TC : Addr) : Sp := spG (ι := { i : Bk × Str // BkOk i.1 }) K mg (fun _ => m0) (fun i => tsDo K MC TC i.1.1 i.1.2 []) (fun i => addO i.1.1 i.1.2) (fun _ p => TapeT K MC TC p)
theorem f_do_add (T : Txt w K mg MC TC DC) (hE : CalX PG w K mg base 3 "is_event" (p_is_event K mg)) : CalX PG w K mg base 8 "do_add" (p_do_add K mg MC TC) := by
  refine cal_blk T.d_do_add sc_do_add bd_do_add (fun _ => rfl) (fun _ => rfl) ?_
  rintro ⟨⟨b, n⟩, hb⟩ f cdv A outer s H E hr
  refine b_setX 3 (oe := tapeOf b n) (ence := fun p => TapeT K MC TC p) (e_callX (b, n) (f_tape_of T) hr (by decide) passE Sub.zero (a_cons (e_var 0 rfl) (a_cons (e_var 1 rfl) a_nil))) (fun z h => by
    show addO b n = _
    unfold addO
    rw [h]) (fun p h1 => ?_) sc_do_add.nd
  have hp := hb.at (tapeOf_at h1)
  have hn := hp.n
  refine b_retX ?_
  show EvX _ _ _ _ _ (addO b n) _
  unfold addO
  rw [h1]
  exact e_makeK (ι := ιT) (Ps := [Is K (.int p.b), Is K (trsD (p.ts ++ [[]]))]) ⟨(p.b, some (p.ts ++ [[]]), some (srtP p.ps)), hp.ps.srt, fun t ht => by
      rcases List.mem_append.mp ht with h | h
      · exact hp.ts t h
      · rw [List.mem_singleton.mp h]; exact TrOk.nil, by show (p.ts ++ [[]]).length ≤ 1000; simp; omega⟩ (f_TapeK T hE) hr (by decide) passE
    (a_cons (e_meth0 p (f_Tape_beat T) hr (by decide) (insAt_of rfl) Sub.zero rfl (e_var 3 rfl) rfl) (a_cons (EvE.eq (e_cat (e_meth0 ⟨p, by omega⟩ (f_Tape_tracks T) hr (by decide) (insAt_of rfl) Sub.zero rfl (e_var 3 rfl) rfl) (e_lstD (ad_cons (e_lstD ad_nil) ad_nil)) (by simp; omega)) (by
      show D.lst _ = D.lst _
      simp [trD])) a_nil)) (e_meth0 p (f_Tape_paces T) hr (by decide) (insAt_of rfl) Sub.zero rfl (e_var 3 rfl) rfl) rfl (fun a H0 v F h => h)
end
end R60

set_option Elab.async false
set_option pp.maxSteps 400
set_option linter.all false
set_option maxRecDepth 100000
set_option maxHeartbeats 4000000
namespace R60
open PySem PySem.Spec PyProof.Rows L2
section
variable {w : World} {K : PySem.W.Frag} {mg : Str → Option Value} {base : Heap} {MC TC DC : Addr}
def p_do_put (K : PySem.W.Frag) (mg : Str → Option Value) (MC TC : Addr) : Sp := spG (ι := { i : Bk × Str × Int × Ev // BkOk i.1 ∧ i.2.2.2.fit }) K mg (fun _ => m0) (fun i => tsDo K MC TC i.1.1 i.1.2.1 [.int i.1.2.2.1, i.1.2.2.2.d]) (fun i => putO i.1.1 i.1.2.1 i.1.2.2.1 i.1.2.2.2) (fun _ p => TapeT K MC TC p)
theorem f_do_put (T : Txt w K mg MC TC DC) (hE : CalX PG w K mg base 3 "is_event" (p_is_event K mg)) : CalX PG w K mg base 8 "do_put" (p_do_put K mg MC TC) := by
  refine cal_blk T.d_do_put sc_do_put bd_do_put (fun _ => rfl) (fun _ => rfl) ?_
  rintro ⟨⟨b, n, i, e⟩, hb, hf⟩ f cdv A outer s H E hr
  refine b_setX 3 (oe := tapeOf b n) (ence := fun p => TapeT K MC TC p) (e_callX (b, n) (f_tape_of T) hr (by decide) passE Sub.zero (a_cons (e_var 0 rfl) (a_cons (e_var 1 rfl) a_nil))) (fun z h => by
    show putO b n i e = _
    unfold putO
    rw [h]) (fun p h1 => ?_) sc_do_put.nd
  have hp := hb.at (tapeOf_at h1)
  have hn := hp.n
  refine b_asg (e_var 2 rfl) (tg_lstD rfl (tg_cons (tg_name 4 sc_do_put.nd) (tg_cons (tg_name 5 sc_do_put.nd) tg_nil))) (b_retX ?_)
  show EvX _ _ _ _ _ (putO b n i e) _
  unfold putO
  rw [h1]
  dsimp only
  cases h2 : trackOf p i with
  | error z =>
    exact e_callErr (f_with_track T hE) hr (by decide) passE (ax_consE (e_var 3 rfl) (ax_consE (e_var 4 rfl) (ax_err (enc := fun t => Is K (trD t)) (e_callErr (f_put_in T hE) hr (by decide) passE (ax_err (enc := fun t => Is K (trD t)) (e_callX (ι := { i : Tp × Int // i.1.ts.length ≤ 1000 }) ⟨(p, i), by show p.ts.length ≤ 1000; omega⟩ (f_track_of T) hr (by decide) passE Sub.zero (a_cons (e_var 3 rfl) (a_cons (e_var 4 rfl) a_nil)) h2) (a_cons (e_var 5 rfl) a_nil))) a_nil)))
  | ok t =>
    obtain ⟨j, rfl, hj, ht⟩ := trackOf_ok h2
    have hto := hp.ts t (List.mem_of_getElem? ht)
    dsimp only
    cases h3 : putIn t e with
    | error z =>
      exact e_callErr (f_with_track T hE) hr (by decide) passE (ax_consE (e_var 3 rfl) (ax_consE (e_var 4 rfl) (ax_err (enc := fun t => Is K (trD t)) (e_callX (ι := { p : Tr × Ev // p.1.length ≤ 1000 ∧ p.2.fit }) ⟨(t, e), Nat.le_trans hto.n (by decide), hf⟩ (f_put_in T hE) hr (by decide) passE Sub.zero
        (a_cons (EvX.toE' (enc := fun t => Is K (trD t)) (a := t) (e_callX (ι := { i : Tp × Int // i.1.ts.length ≤ 1000 }) ⟨(p, (j : Int)), by show p.ts.length ≤ 1000; omega⟩ (f_track_of T) hr (by decide) passE Sub.zero (a_cons (e_var 3 rfl) (a_cons (e_var 4 rfl) a_nil))) h2) (a_cons (e_var 5 rfl) a_nil)) h3) a_nil)))
    | ok t' =>
      obtain ⟨k1, k2⟩ := putIn_ok hto h3
      exact EvE.x' (v := p.setT j t') (e_call (ι := ιW) ⟨(p, j, t'), hp, hj, k1⟩ (f_with_track T hE) hr (by decide) Sub.zero rfl (a_cons (e_var 3 rfl) (a_cons (e_var 4 rfl) (a_cons (EvX.toE' (enc := fun t => Is K (trD t)) (a := t') (e_callX (ι := { p : Tr × Ev // p.1.length ≤ 1000 ∧ p.2.fit }) ⟨(t, e), Nat.le_trans hto.n (by decide), hf⟩ (f_put_in T hE) hr (by decide) passE Sub.zero
        (a_cons (EvX.toE' (enc := fun t => Is K (trD t)) (a := t) (e_callX (ι := { i : Tp × Int // i.1.ts.length ≤ 1000 }) ⟨(p, (j : Int)), by show p.ts.length ≤ 1000; omega⟩ (f_track_of T) hr (by decide) passE Sub.zero (a_cons (e_var 3 rfl) (a_cons (e_var 4 rfl) a_nil))) h2) (a_cons (e_var 5 rfl) a_nil))) h3) a_nil)))) rfl
def p_do_later (K : PySem.W.Frag) (mg : Str → Option Value) (MC TC : Addr) : Sp := spG (ι := { i : Bk × Str × Int × Int // BkOk i.1 }) K mg (fun _ => m0) (fun i => tsDo K MC TC i.1.1 i.1.2.1 [.int i.1.2.2.1, .int i.1.2.2.2]) (fun i => laterPO i.1.1 i.1.2.1 i.1.2.2.1 i.1.2.2.2) (fun _ p => TapeT K MC TC p)
theorem f_do_later (T : Txt w K mg MC TC DC) (hE : CalX PG w K mg base 3 "is_event" (p_is_event K mg)) : CalX PG w K mg base 8 "do_later" (p_do_later K mg MC TC) := by
  refine cal_blk T.d_do_later sc_do_later bd_do_later (fun _ => rfl) (fun _ => rfl) ?_
  rintro ⟨⟨b, n, i, by_⟩, hb⟩ f cdv A outer s H E hr
  refine b_setX 3 (oe := tapeOf b n) (ence := fun p => TapeT K MC TC p) (e_callX (b, n) (f_tape_of T) hr (by decide) passE Sub.zero (a_cons (e_var 0 rfl) (a_cons (e_var 1 rfl) a_nil))) (fun z h => by
    show laterPO b n i by_ = _
    unfold laterPO
    rw [h]) (fun p h1 => b_retX ?_) sc_do_later.nd
  have hp := hb.at (tapeOf_at h1)
  have hn := hp.n
  show EvX _ _ _ _ _ (laterPO b n i by_) _
  unfold laterPO
  rw [h1]
  dsimp only
  cases h2 : trackOf p i with
  | error z =>
    exact e_callErr (f_with_track T hE) hr (by decide) passE (ax_consE (e_var 3 rfl) (ax_consE (e_ixL (e_var 2 rfl) e_int at_0) (ax_err (enc := fun t => Is K (trD t)) (e_callErr (f_later T) hr (by decide) passE (ax_err (enc := fun t => Is K (trD t)) (e_callX (ι := { i : Tp × Int // i.1.ts.length ≤ 1000 }) ⟨(p, i), by show p.ts.length ≤ 1000; omega⟩ (f_track_of T) hr (by decide) passE Sub.zero (a_cons (e_var 3 rfl) (a_cons (e_ixL (e_var 2 rfl) e_int at_0) a_nil)) h2) (a_cons (e_ixL (e_var 2 rfl) e_int at_1) a_nil))) a_nil)))
  | ok t =>
    obtain ⟨j, rfl, hj, ht⟩ := trackOf_ok h2
    have hto := hp.ts t (List.mem_of_getElem? ht)
    have hsm : t.length ≤ 1000 ∧ ∀ e ∈ t, e.xs.length ≤ 10 := ⟨Nat.le_trans hto.n (by decide), fun e he => (ok_fit (hto.ok e he)).n⟩
    dsimp only
    cases h3 : laterO t by_ with
    | error z =>
      exact e_callErr (f_with_track T hE) hr (by decide) passE (ax_consE (e_var 3 rfl) (ax_consE (e_ixL (e_var 2 rfl) e_int at_0) (ax_err (enc := fun t => Is K (trD t)) (e_callX (ι := { t : Tr × Int // t.1.length ≤ 1000 ∧ ∀ e ∈ t.1, e.xs.length ≤ 10 }) ⟨(t, by_), hsm⟩ (f_later T) hr (by decide) passE Sub.zero
        (a_cons (EvX.toE' (enc := fun t => Is K (trD t)) (a := t) (e_callX (ι := { i : Tp × Int // i.1.ts.length ≤ 1000 }) ⟨(p, (j : Int)), by show p.ts.length ≤ 1000; omega⟩ (f_track_of T) hr (by decide) passE Sub.zero (a_cons (e_var 3 rfl) (a_cons (e_ixL (e_var 2 rfl) e_int at_0) a_nil))) h2) (a_cons (e_ixL (e_var 2 rfl) e_int at_1) a_nil)) h3) a_nil)))
    | ok t' =>
      obtain ⟨k1, k2⟩ := later_ok hto h3
      exact EvE.x' (v := p.setT j t') (e_call (ι := ιW) ⟨(p, j, t'), hp, hj, k1⟩ (f_with_track T hE) hr (by decide) Sub.zero rfl (a_cons (e_var 3 rfl) (a_cons (e_ixL (e_var 2 rfl) e_int at_0) (a_cons (EvX.toE' (enc := fun t => Is K (trD t)) (a := t') (e_callX (ι := { t : Tr × Int // t.1.length ≤ 1000 ∧ ∀ e ∈ t.1, e.xs.length ≤ 10 }) ⟨(t, by_), hsm⟩ (f_later T) hr (by decide) passE Sub.zero
        (a_cons (EvX.toE' (enc := fun t => Is K (trD t)) (a := t) (e_callX (ι := { i : Tp × Int // i.1.ts.length ≤ 1000 }) ⟨(p, (j : Int)), by show p.ts.length ≤ 1000; omega⟩ (f_track_of T) hr (by decide) passE Sub.zero (a_cons (e_var 3 rfl) (a_cons (e_ixL (e_var 2 rfl) e_int at_0) a_nil))) h2) (a_cons (e_ixL (e_var 2 rfl) e_int at_1) a_nil))) h3) a_nil)))) rfl
def p_do_take (K : PySem.W.Frag) (mg : Str → Option Value) (MC TC : Addr) : Sp := spG (ι := { i : Bk × Str × Int × Int // BkOk i.1 }) K mg (fun _ => m0) (fun i => tsDo K MC TC i.1.1 i.1.2.1 [.int i.1.2.2.1, .int i.1.2.2.2]) (fun i => takeO i.1.1 i.1.2.1 i.1.2.2.1 i.1.2.2.2) (fun _ p => TapeT K MC TC p)
theorem f_do_take (T : Txt w K mg MC TC DC) (hE : CalX PG w K mg base 3 "is_event" (p_is_event K mg)) : CalX PG w K mg base 8 "do_take" (p_do_take K mg MC TC) := by
  refine cal_blk T.d_do_take sc_do_take bd_do_take (fun _ => rfl) (fun _ => rfl) ?_
  rintro ⟨⟨b, n, i, pl⟩, hb⟩ f cdv A outer s H E hr
  refine b_setX 3 (oe := tapeOf b n) (ence := fun p => TapeT K MC TC p) (e_callX (b, n) (f_tape_of T) hr (by decide) passE Sub.zero (a_cons (e_var 0 rfl) (a_cons (e_var 1 rfl) a_nil))) (fun z h => by
    show takeO b n i pl = _
    unfold takeO
    rw [h]) (fun p h1 => ?_) sc_do_take.nd
  have hp := hb.at (tapeOf_at h1)
  have hn := hp.n
  refine b_asg (e_var 2 rfl) (tg_lstD rfl (tg_cons (tg_name 4 sc_do_take.nd) (tg_cons (tg_name 5 sc_do_take.nd) tg_nil))) ?_
  refine b_setX 6 (oe := trackOf p i) (ence := fun t => Is K (trD t)) (e_callX (ι := { i : Tp × Int // i.1.ts.length ≤ 1000 }) ⟨(p, i), by show p.ts.length ≤ 1000; omega⟩ (f_track_of T) hr (by decide) passE Sub.zero (a_cons (e_var 3 rfl) (a_cons (e_var 4 rfl) a_nil))) (fun z h => by
    show takeO b n i pl = _
    unfold takeO
    rw [h1]
    simp only [h]) (fun t h2 => ?_) sc_do_take.nd
  obtain ⟨j, rfl, hj, ht⟩ := trackOf_ok h2
  have hto := hp.ts t (List.mem_of_getElem? ht)
  have hl := hto.n
  have el : ((t.length : Nat) : Int) = ((t.map Ev.d).length : Nat) := by rw [List.length_map]
  have q0 : takeO b n j pl = bif !(decide (0 ≤ pl) && decide (pl < (t.length : Nat))) then .error "noevent" else .ok (p.setT j (t.take pl.toNat ++ t.drop (pl.toNat + 1))) := by
    unfold takeO
    rw [h1]
    simp only [h2]
    rfl
  refine b_if (S := Eq (!(decide (0 ≤ pl) && decide (pl < (t.length : Nat))))) ?_ (fun h => b_raise T.e_NoEvent ?_ hr rfl (takes_of rfl rfl rfl rfl)) fun h => ?_
  · rw [el]
    exact t_notB (t_lelt e_int (e_var 5 rfl) (e_lenL T.n_len (e_var 6 rfl)))
  · show takeO b n j pl = _
    rw [q0, h]
    rfl
  · have h3 : 0 ≤ pl ∧ pl < (t.length : Nat) := by simpa using h
    obtain ⟨q, rfl⟩ := Int.eq_ofNat_of_zero_le h3.1
    refine b_ret (v := p.setT j (t.take q ++ t.drop (q + 1))) (e_call (ι := ιW) ⟨(p, j, t.take q ++ t.drop (q + 1)), hp, hj, take_ok hto q⟩ (f_with_track T hE) hr (by decide) Sub.zero rfl (a_cons (e_var 3 rfl) (a_cons (e_var 4 rfl) (a_cons (EvE.eq (e_cat (e_slL (e_var 6 rfl) evo_none (evo_some (e_var 5 rfl))) (e_slL (e_var 6 rfl) (evo_some (e_add (e_var 5 rfl) e_int)) evo_none) ?_) ?_) a_nil)))) ?_
    · rw [cut_to, show (q : Int) + 1 = ((q + 1 : Nat) : Int) from by omega, cut_from]
      simp
      omega
    · rw [cut_to, show (q : Int) + 1 = ((q + 1 : Nat) : Int) from by omega, cut_from]
      show D.lst _ = D.lst _
      simp
    · show takeO b n j q = _
      rw [q0, h]
      rfl
end
end R60

set_option Elab.async false
set_option pp.maxSteps 400
set_option linter.all false
set_option maxRecDepth 100000
set_option maxHeartbeats 4000000
namespace R60
open PySem PySem.Spec PyProof.Rows L2
section
variable {w : World} {K : PySem.W.Frag} {mg : Str → Option Value} {base : Heap} {MC TC DC : Addr}
def p_do_part (K : PySem.W.Frag) (mg : Str → Option Value) (MC TC : Addr) : Sp := spG (ι := { i : Bk × Str × Int × Int // BkOk i.1 }) K mg (fun _ => m0) (fun i => tsDo K MC TC i.1.1 i.1.2.1 [.int i.1.2.2.1, .int i.1.2.2.2]) (fun i => partO i.1.1 i.1.2.1 i.1.2.2.1 i.1.2.2.2) (fun _ p => TapeT K MC TC p)
theorem f_do_part (T : Txt w K mg MC TC DC) (hE : CalX PG w K mg base 3 "is_event" (p_is_event K mg)) : CalX PG w K mg base 8 "do_part" (p_do_part K mg MC TC) := by
  refine cal_blk T.d_do_part sc_do_part bd_do_part (fun _ => rfl) (fun _ => rfl) ?_
  rintro ⟨⟨b, n, i, ch⟩, hb⟩ f cdv A outer s H E hr
  refine b_setX 3 (oe := tapeOf b n) (ence := fun p => TapeT K MC TC p) (e_callX (b, n) (f_tape_of T) hr (by decide) passE Sub.zero (a_cons (e_var 0 rfl) (a_cons (e_var 1 rfl) a_nil))) (fun z h => by
    show partO b n i ch = _
    unfold partO
    rw [h]) (fun p h1 => ?_) sc_do_part.nd
  have hp := hb.at (tapeOf_at h1)
  have hn := hp.n
  refine b_asg (e_var 2 rfl) (tg_lstD rfl (tg_cons (tg_name 4 sc_do_part.nd) (tg_cons (tg_name 5 sc_do_part.nd) tg_nil))) ?_
  refine b_setX 6 (oe := trackOf p i) (ence := fun t => Is K (trD t)) (e_callX (ι := { i : Tp × Int // i.1.ts.length ≤ 1000 }) ⟨(p, i), by show p.ts.length ≤ 1000; omega⟩ (f_track_of T) hr (by decide) passE Sub.zero (a_cons (e_var 3 rfl) (a_cons (e_var 4 rfl) a_nil))) (fun z h => by
    show partO b n i ch = _
    unfold partO
    rw [h1]
    simp only [h]) (fun t h2 => ?_) sc_do_part.nd
  obtain ⟨j, rfl, hj, ht⟩ := trackOf_ok h2
  have hto := hp.ts t (List.mem_of_getElem? ht)
  have hl := hto.n
  have el : ((p.ts.length : Nat) : Int) = ((p.ts.map trD).length : Nat) := by rw [List.length_map]
  have q0 : partO b n j ch = bif !(decide (0 ≤ ch) && decide (ch ≤ 15)) then .error "badchannel" else bif decide ((6 : Int) ≤ (p.ts.length : Nat)) then .error "full" else
      mkTape p.b (some (srtP p.ps)) (some ((p.ts.set j (t.filter fun e => !isOf ch e)) ++ [t.filter (isOf ch)])) := by
    unfold partO
    rw [h1]
    simp only [h2]
    rfl
  refine b_if (t_notB (t_lele e_int (e_var 5 rfl) e_int)) (fun h => b_raise T.e_BadChannel ?_ hr rfl (takes_of rfl rfl rfl rfl)) fun h => ?_
  · show partO b n j ch = _
    rw [q0, h]
    rfl
  refine b_if (S := Eq (decide ((6 : Int) ≤ ((p.ts.length : Nat) : Int)))) ?_ (fun h' => b_raise T.e_Full ?_ hr rfl (takes_of rfl rfl rfl rfl)) fun h' => ?_
  · rw [el]
    exact t_ge (e_lenL T.n_len (e_meth0 ⟨p, by omega⟩ (f_Tape_tracks T) hr (by decide) (insAt_of rfl) Sub.zero rfl (e_var 3 rfl) rfl)) (e_glob T.c_MOST_TRACKS fun _ => .int .nil)
  · show partO b n j ch = _
    rw [q0, h, h']
    rfl
  refine b_asg (T := Is K (.tup [trD (t.filter (isOf ch)), trD (t.filter fun e => !isOf ch e)])) (e_call (ι := { p : Tr × Int // p.1.length ≤ 1000 ∧ ∀ e ∈ p.1, e.ok = true }) ⟨(t, ch), Nat.le_trans hl (by decide), hto.ok⟩ (f_apart T) hr (by decide) Sub.zero rfl (a_cons (e_var 6 rfl) (a_cons (e_var 5 rfl) a_nil))) (tg_tupD rfl (tg_cons (tg_name 7 sc_do_part.nd) (tg_cons (tg_name 8 sc_do_part.nd) tg_nil))) (b_retX ?_)
  show EvX _ _ _ _ _ (partO b n j ch) _
  rw [q0, h, h', cond_false, cond_false]
  have hset : ((p.setT j (t.filter fun e => !isOf ch e)).ts).length ≤ 1000 := by show (p.ts.set j _).length ≤ 1000; rw [List.length_set]; omega
  refine e_makeK (ι := ιT) (Ps := [Is K (.int p.b), Is K (trsD ((p.ts.set j (t.filter fun e => !isOf ch e)) ++ [t.filter (isOf ch)]))]) ⟨(p.b, some ((p.ts.set j (t.filter fun e => !isOf ch e)) ++ [t.filter (isOf ch)]), some (srtP p.ps)), hp.ps.srt, fun t' ht' => ?_, by show ((p.ts.set j (t.filter fun e => !isOf ch e)) ++ [t.filter (isOf ch)]).length ≤ 1000; simp; omega⟩ (f_TapeK T hE) hr (by decide) passE
    (a_cons (e_meth0 p (f_Tape_beat T) hr (by decide) (insAt_of rfl) Sub.zero rfl (e_var 3 rfl) rfl) (a_cons (EvE.eq (e_cat (e_meth0 (ι := { p : Tp // p.ts.length ≤ 1000 }) ⟨p.setT j (t.filter fun e => !isOf ch e), hset⟩ (f_Tape_tracks T) hr (by decide) (insAt_of rfl) Sub.zero rfl (e_call (ι := ιW) ⟨(p, j, t.filter fun e => !isOf ch e), hp, hj, filt_ok hto _⟩ (f_with_track T hE) hr (by decide) Sub.zero rfl (a_cons (e_var 3 rfl) (a_cons (e_var 4 rfl) (a_cons (e_var 8 rfl) a_nil)))) rfl) (e_lstD (ad_cons (e_var 7 rfl) ad_nil)) ?_) ?_) a_nil)) (e_meth0 p (f_Tape_paces T) hr (by decide) (insAt_of rfl) Sub.zero rfl (e_var 3 rfl) rfl) rfl (fun a H0 v F h => h)
  · rcases List.mem_append.mp ht' with h | h
    · rcases List.mem_or_eq_of_mem_set h with h | h
      · exact hp.ts t' h
      · rw [h]; exact filt_ok hto _
    · rw [List.mem_singleton.mp h]; exact filt_ok hto _
  · show ((p.ts.set j _).map trD).length + _ ≤ _
    simp
    omega
  · show D.lst ((p.ts.set j _).map trD ++ _) = D.lst _
    simp
end
end R60

set_option Elab.async false
set_option pp.maxSteps 400
set_option linter.all false
set_option maxRecDepth 100000
set_option maxHeartbeats 4000000
namespace R60
open PySem PySem.Spec PyProof.Rows L2
section
variable {w : World} {K : PySem.W.Frag} {mg : Str → Option Value} {base : Heap} {MC TC DC : Addr}
/-- a new map with its new dict -/
def NewM (MC : Addr) (H : Hp) (b : Int) (qs : List (Int × Int)) (Q : VK) : Prop := ∀ x dx k H', Same H H' → H x = none → H k = none → x ≠ k → H' x = some (.ins MC dx [("ticks", .int b), ("known", .ref k)]) → H' k = some (.dK (qs.map pI)) → Q (.ref x) H'
def spM {ι : Type} (MC : Addr) (Ts : ι → List Ty) (b : ι → Int) (qs : ι → List (Int × Int)) : Sp := fun vs H Q _ => ∃ i F, Ex F H ∧ HoldsA (Ts i) vs F ∧ NewM MC H (b i) (qs i) Q
theorem NewM.back {MC : Addr} {H H1 : Hp} {b : Int} {qs : List (Int × Int)} {Q : VK} (q : NewM MC H b qs Q) (s : Same H H1) : NewM MC H1 b qs Q := fun x dx k H' s' h1 h2 ne e1 e2 => q x dx k H' (s.trans s') (s.free h1) (s.free h2) ne e1 e2
section
variable {X : Cx} {Γ : Gam} {e : Expr} {es : List Expr} {p pos : Pos} {j : Nat}
theorem m_map {b : Int} {qs : List (Int × Int)} (c : MakX X.prog X.w X.K X.mg X.base 2 "Map" MC (spI (ι := { p : Int × Option (List (Int × Int)) // Pcs (p.2.getD []) }) X.K X.mg MC (fun i => [Is X.K (.int i.1.1), Is X.K (pcD i.1.2)]) (fun i => needBeat i.1.1) (fun i _ H0 => MapN X.K MC i.1.1 (i.1.2.getD []) H0)) [])
    (hr : Room j X.A) (hk : 3 ≤ j) (hb : 1 ≤ b ∧ b ≤ 960) (hq : Pcs qs) (ha : EvA X m0 Γ (e :: es) [Is X.K (.int b), Is X.K (pairsD qs)]) {σ : L2.St} {F H : Hp} (g : Good m0 Γ σ F H) {Q : VK} (q : NewM MC H b qs Q) (hg : Gl X "Map" := by rfl)
    (he : starEach (e :: es) X.env = (false, eval e X.env) :: starEach es X.env := by rfl) (hpl : (backTo pos (starEach es X.env)).any (·.1) = false := by rfl) : tSem X (.Call (.Name "Map" p) (e :: es) [] pos) σ H Q := fun pins s I =>
  (pe_nx c hr hk hg passL semA (by decide) he hpl).run pins s σ H Q I (ha σ F H g _ fun vs F1 H1 g1 i1 p1 => fun y dy hy hdy ne => ⟨⟨(b, some qs), hq⟩, F1, H1, y, dy, vs, by rw [List.append_nil], hy, hdy, ne, rfl, g1.fh, p1, by
    show Cont _ _ _ _ _ _ _ (needBeat b) _
    rw [needBeat_ok hb]
    rintro v F2 H2 g2 _ ⟨rfl, _, x, dx, k, ex, e1, e2, e3, e4⟩
    cases ex
    exact ⟨rfl, rfl, (q.back g1.same) y dx k H2 g2.same e3 e4 (fun z => by rw [z, e2] at e1; cases e1) (g2.fh _ _ e1) (g2.fh _ _ e2)⟩⟩)
end
abbrev ιM := { i : Int × List (Int × Int) // (1 ≤ i.1 ∧ i.1 ≤ 960) ∧ Pcs i.2 }
def p_Map_twin (K : PySem.W.Frag) (MC : Addr) : Sp := spM (ι := ιM) MC (fun i => [MapT K MC i.1.1 i.1.2]) (fun i => i.1.1) (fun i => srtP i.1.2)
theorem f_Map_twin (T : Txt w K mg MC TC DC) : MetX PG w K mg base 4 MC "twin" (p_Map_twin K MC) := by
  refine met_of T.m_Map_twin sc_Map_twin bd_Map_twin (fun vs H Q E ⟨i, F, _, hA, _⟩ => by rw [hA.len] <;> rfl) ?_
  intro f cdv A outer s H vs Q E hr h
  obtain ⟨⟨⟨b, ps⟩, hb, hq⟩, F, ex, hA, c⟩ := h
  obtain ⟨v, rfl, p1⟩ := one_of hA
  refine ⟨_, semS, fun pins s I => (pss_cons (ps_ret sem) semS).run pins s _ H _ I ?_⟩
  show tSem _ _ _ _ _
  refine m_map (f_Map_init T) hr (by decide) hb hq.srt (a_cons (e_fld T.cl_Map T.na_Map_ticks (e_var 0 rfl) rfl) (a_cons (e_meth0 (ι := Int × List (Int × Int)) (α := Unit) (v := ()) (b, ps) (f_Map_paces T) hr (by decide) (insAt_of rfl) Sub.zero rfl (e_var 0 rfl) rfl) a_nil)) ⟨ex, trivial, HoldsA.holds (Ts := [MapT K MC b ps]) (vs := [v]) (k := 0) ⟨p1, trivial⟩⟩ c
abbrev ιP := { p : Tp // (1 ≤ p.b ∧ p.b ≤ 960) ∧ Pcs p.ps }
def p_Tape_paced (K : PySem.W.Frag) (MC TC : Addr) : Sp := spM (ι := ιP) MC (fun i => [TapeT K MC TC i.1]) (fun i => i.1.b) (fun i => srtP i.1.ps)
theorem f_Tape_paced (T : Txt w K mg MC TC DC) : MetX PG w K mg base 5 TC "paced" (p_Tape_paced K MC TC) := by
  refine met_of T.m_Tape_paced sc_Tape_paced bd_Tape_paced (fun vs H Q E ⟨i, F, _, hA, _⟩ => by rw [hA.len] <;> rfl) ?_
  intro f cdv A outer s H vs Q E hr h
  obtain ⟨⟨p, hb, hq⟩, F, ex, hA, c⟩ := h
  obtain ⟨v, rfl, p1⟩ := one_of hA
  refine ⟨_, semS, fun pins s I => (pss_cons (ps_ret (pe_mx0 (f_Map_twin T) hr (by decide) passL sem)) semS).run pins s _ H _ I ?_⟩
  show tSem _ _ _ _ _
  refine (e_fld T.cl_Tape T.na_Tape_own (e_var 0 rfl) rfl : EvE _ m0 [some (TapeT K MC TC p)] _ (MapT K MC p.b p.ps)) _ F H ⟨ex, trivial, HoldsA.holds (Ts := [TapeT K MC TC p]) (vs := [v]) (k := 0) ⟨p1, trivial⟩⟩ _ fun u F1 H1 g1 i1 p2 => ?_
  obtain ⟨a, dx, fs, rfl, ea, en⟩ := (insAt_of (mn := "twin") rfl : InsAt MC "twin" (MapT K MC p.b p.ps)).at_ u F1 p2
  exact ⟨a, dx, fs, rfl, g1.fh _ _ ea, en, ⟨(p.b, p.ps), hb, hq⟩, F1, g1.fh, ⟨p2, trivial⟩, NewM.back c g1.same⟩
end
end R60

set_option Elab.async false
set_option pp.maxSteps 400
set_option linter.all false
set_option maxRecDepth 100000
set_option maxHeartbeats 4000000
namespace R60
open PySem PySem.Spec PyProof.Rows L2
section
variable {X : Cx} {Γ : Gam} {e o i : Expr} {pos pos' : Pos} {j : Nat} {rest : List Stmt} {D : Ends} {σ : L2.St} {F H : Hp}
/-- d[k] = v, d a dict that isn't fixed -/
theorem go_dput {value : Expr} {a : Addr} {vs : List (L2.Key × V)} {ky : L2.Key} {Tv : Ty} (hr : Room j X.A) (hv : EvE X m0 Γ value Tv) (ho : EvE X m0 Γ o (Vl (.ref a))) (hi : EvE X m0 Γ i (Is X.K (keyD ky))) (g : Good m0 Γ σ F H) (hd : H a = some (.dK vs)) (hl : vs.length ≤ 1000)
    (k : ∀ v F' H', Gr0 F H F' H' → Tv.p v F' → tSemS X rest D σ (upd H' a (.dK (putK vs ky v)))) (hs : swapsWith value (some (.Subscript o i pos')) pos.line X.env = pure false := by rfl) : tSemS X (.Assign [.Subscript o i pos'] value pos :: rest) D σ H := fun pins s I =>
  (pss_cons (ps_dput (hu_of hr) sem sem sem hs) semS).run pins s σ H D I (hv σ F H g _ fun v F1 H1 g1 i1 p1 => ho σ F1 H1 (g.next g1 i1) _ fun u F2 H2 g2 i2 p2 => hi σ F2 H2 ((g.next g1 i1).next g2 i2) _ fun w3 F3 H3 g3 i3 p3 => by
    have hd3 := (Gr.trans (Gr.trans g1 g2) g3).hh _ _ (fun z => z) hd
    refine ⟨a, _, p2, ?_, k v F3 H3 (Gr.trans (Gr.trans g1 g2) g3) (Tv.mono _ _ _ (g2.ff.trans g3.ff) p1)⟩
    rw [key_v p3]
    exact DPut.k hd3 (Nat.lt_of_le_of_lt hl (by decide)))
end
theorem put_pI {qs : List (Int × Int)} {t p : Int} : putK (qs.map pI) (Sum.inl t) (V.int p) = (setK qs t p).map pI := by
  unfold putK setK
  have e : ((qs.map pI).any fun kv => decide (kv.1 = Sum.inl t)) = qs.any fun kv => decide (kv.1 = t) := by
    rw [List.any_map]
    congr 1
    funext q
    simp [pI]
  rw [e]
  by_cases c : (qs.any fun kv => decide (kv.1 = t)) = true
  · rw [if_pos c, if_pos c, List.map_map, List.map_map]
    refine List.map_congr_left fun q _ => ?_
    by_cases h : q.1 = t
    · simp [pI, h]
    · simp [pI, h]
  · rw [if_neg c, if_neg c, List.map_append]
    rfl
theorem atK_int {K : PySem.W.Frag} {t : Int} : ∀ {qs : List (Int × Int)}, (atK (qs.map fun q => ((Sum.inl q.1 : L2.Key), Is K (.int q.2))) (Sum.inl t)).isSome = (atK qs t).isSome
  | [] => rfl
  | q :: r => by
    have ih := atK_int (K := K) (t := t) (qs := r)
    unfold atK at ih ⊢
    by_cases h : q.1 = t
    · simp [h]
    · simpa [h] using ih
/-- the dict at k -/
def KnK (K : PySem.W.Frag) (k : Addr) (qs : List (Int × Int)) : Ty := ⟨fun v F => v = .ref k ∧ (KnT K qs).p v F, fun v F F' e h => ⟨h.1, (KnT K qs).mono v F F' e h.2⟩⟩
def MapK (K : PySem.W.Frag) (MC k : Addr) (b : Int) (qs : List (Int × Int)) : Ty := InsT MC [("ticks", Is K (.int b)), ("known", KnK K k qs)]
def putPO (qs : List (Int × Int)) (t p : Int) : Except Str (List (Int × Int)) := match needTick t with
  | .error z => .error z
  | .ok () => match needPace p with
    | .error z => .error z
    | .ok () => bif !(atK qs t).isSome && decide ((20 : Int) ≤ (qs.length : Nat)) then .error "full" else .ok (setK qs t p)
section
variable {w : World} {K : PySem.W.Frag} {mg : Str → Option Value} {base : Heap} {MC TC DC : Addr}
/-- put(x, t, p): the dict at k is changed -/
def p_Map_put (K : PySem.W.Frag) (mg : Str → Option Value) (MC : Addr) : Sp := fun vs H Q E => ∃ (x dx k : Addr) (b t p : Int) (qs : List (Int × Int)), vs = [.ref x, .int t, .int p] ∧ H x = some (.ins MC dx [("ticks", .int b), ("known", .ref k)]) ∧ H k = some (.dK (qs.map pI)) ∧ qs.length ≤ 20 ∧
  (∀ qs', putPO qs t p = .ok qs' → ∀ H', (∀ b o, b ≠ k → H b = some o → H' b = some o) → H' k = some (.dK (qs'.map pI)) → Q .non H') ∧ (∀ z, putPO qs t p = .error z → ∀ C d H', Same H H' → ErrM K mg C → H' d = some (errD z) → E (.ref C) (some d) H')
theorem f_Map_put (T : Txt w K mg MC TC DC) : MetX PG w K mg base 2 MC "put" (p_Map_put K mg MC) := by
  refine met_of T.m_Map_put sc_Map_put bd_Map_put (fun vs H Q E ⟨x, dx, k, b, t, p, qs, h, _⟩ => by rw [h] <;> rfl) ?_
  intro f cdv A outer s H vs Q E hr h
  obtain ⟨x, dx, k, b, t, p, qs, rfl, hx, hk, hl, qok, qer⟩ := h
  refine ⟨_, semS, ?_⟩
  have tm : (MapK K MC k b qs).p (.ref x) H := ⟨x, dx, _, rfl, hx, rfl, .int .nil, rfl, ⟨rfl, k, _, rfl, hk, kn_self qs⟩, trivial⟩
  have gd : Good m0 [some (MapK K MC k b qs), some (Is K (.int t)), some (Is K (.int p))] [some (.ref x), some (.int t), some (.int p)] H H := ⟨Same.refl H, trivial, HoldsA.holds (Ts := [MapK K MC k b qs, Is K (.int t), Is K (.int p)]) (vs := [.ref x, .int t, .int p]) (k := 0) ⟨tm, .int .nil, .int .nil, trivial⟩⟩
  unfold putPO at qok qer
  refine go_stf (s_exprX (e_callX (o' := needTick t) (en' := fun _ => Is K .non) t (f_need_tick T) hr (by decide) passE Sub.zero (a_cons (e_var 1 rfl) a_nil))) gd ?_
  cases h1 : needTick t with
  | error z =>
    rw [h1] at qer
    exact fun C d F1 H1 g1 i1 e1 e2 => qer z rfl C d H1 g1.same e1 e2
  | ok u =>
    rw [h1] at qok qer
    intro σ1 F1 H1 g1 gd1
    refine go_stf (s_exprX (e_callX (o' := needPace p) (en' := fun _ => Is K .non) p (f_need_pace T) hr (by decide) passE Sub.zero (a_cons (e_var 2 rfl) a_nil))) gd1 ?_
    cases h2 : needPace p with
    | error z =>
      rw [h2] at qer
      exact fun C d F2 H2 g2 i2 e1 e2 => qer z rfl C d H2 (g1.same.trans g2.same) e1 e2
    | ok u =>
      rw [h2] at qok qer
      intro σ2 F2 H2 g2 gd2
      have el : ((qs.length : Nat) : Int) = ((qs.map fun q => ((Sum.inl q.1 : L2.Key), Is K (.int q.2))).length : Nat) := by rw [List.length_map]
      refine go_stf (E := E) (o1 := thr (!(atK qs t).isSome && decide ((20 : Int) ≤ (qs.length : Nat))) "full") (Γ' := fun _ => [some (MapK K MC k b qs), some (Is K (.int t)), some (Is K (.int p))]) (s_ifraise ?_ T.e_Full hr rfl (takes_of rfl rfl rfl rfl)) gd2 ?_
      · rw [el, ← atK_int (K := K)]
        exact EvW.toT (w_andB (t_nin (ky := .inl t) hr (e_var 1 rfl) (EvE.imp (P := KnK K k qs) (e_fld T.cl_Map T.na_Map_known (e_var 0 rfl) rfl) fun v F p => p.2)) fun _ => w_and1 (t_ge (e_lenD T.n_len (EvE.imp (P := KnK K k qs) (e_fld T.cl_Map T.na_Map_known (e_var 0 rfl) rfl) fun v F p => p.2)) (e_glob T.c_MOST_PACES fun _ => .int .nil)))
      · generalize hb : (!(atK qs t).isSome && decide ((20 : Int) ≤ (qs.length : Nat))) = bb at qok qer
        cases bb with
        | true => exact fun C d F3 H3 g3 i3 e1 e2 => qer _ rfl C d H3 ((g1.same.trans g2.same).trans g3.same) e1 e2
        | false =>
          intro σ3 F3 H3 g3 gd3
          have s3 : Same H H3 := (g1.same.trans g2.same).trans g3.same
          refine go_dput (ky := .inl t) (Tv := Is K (.int p)) hr (e_var 2 rfl) (EvE.imp (P := KnK K k qs) (e_fld T.cl_Map T.na_Map_known (e_var 0 rfl) rfl) fun v F p => p.1) (e_var 1 rfl) gd3 (s3 _ _ hk) (by rw [List.length_map]; omega) fun v F5 H5 g5 p5 => ?_
          · refine go_end ?_
            have s5 : Same H H5 := s3.trans g5.same
            have p5 : v = .int p := DAt.i p5
            rw [p5, put_pI]
            exact qok _ rfl _ (fun b o hb h => by rw [upd_ne hb]; exact s5 b o h) upd_same
end
end R60

set_option Elab.async false
set_option pp.maxSteps 400
set_option linter.all false
set_option maxRecDepth 100000
set_option maxHeartbeats 4000000
namespace R60
open PySem PySem.Spec PyProof.Rows L2
theorem setK_len {κ α : Type} [DecidableEq κ] {qs : List (κ × α)} {t : κ} {p : α} : (setK qs t p).length = if (qs.any fun kv => decide (kv.1 = t)) = true then qs.length else qs.length + 1 := by
  unfold setK
  split <;> simp
theorem atK_any {κ α : Type} [DecidableEq κ] {qs : List (κ × α)} {t : κ} : (atK qs t).isSome = qs.any fun kv => decide (kv.1 = t) := by
  induction qs with
  | nil => rfl
  | cons q r ih =>
    unfold atK at ih ⊢
    by_cases h : q.1 = t
    · simp [h]
    · simpa [h] using ih
theorem setK_mem {κ α : Type} [DecidableEq κ] {qs : List (κ × α)} {t : κ} {p : α} {q : κ × α} (h : q ∈ setK qs t p) : q ∈ qs ∨ q = (t, p) := by
  unfold setK at h
  split at h
  · obtain ⟨u, hu, e⟩ := List.mem_map.mp h
    by_cases c : u.1 = t
    · rw [if_pos c] at e
      exact .inr (by rw [← e, c])
    · rw [if_neg c] at e
      exact .inl (by rw [← e]; exact hu)
  · rcases List.mem_append.mp h with h | h
    · exact .inl h
    · exact .inr (List.mem_singleton.mp h)
theorem setK_keys {κ α : Type} [DecidableEq κ] {qs : List (κ × α)} {t : κ} {p : α} (h : (qs.map (·.1)).Nodup) : ((setK qs t p).map (·.1)).Nodup := by
  unfold setK
  split
  · rename_i c
    have e : (qs.map fun kv => if kv.1 = t then (kv.1, p) else kv).map (·.1) = qs.map (·.1) := by
      rw [List.map_map]
      refine List.map_congr_left fun q _ => ?_
      by_cases h : q.1 = t <;> simp [h]
    rw [e]
    exact h
  · rename_i c
    rw [List.map_append, List.nodup_append]
    refine ⟨h, by simp, fun a ha b hb => ?_⟩
    simp at hb
    subst hb
    intro e
    subst e
    obtain ⟨q, hq, e⟩ := List.mem_map.mp ha
    exact c (List.any_eq_true.mpr ⟨q, hq, by simpa using e⟩)
theorem putPO_ok {qs qs' : List (Int × Int)} {t p : Int} (h : Pcs qs) (hp : putPO qs t p = .ok qs') : Pcs qs' ∧ qs' = setK qs t p := by
  unfold putPO at hp
  cases h1 : needTick t with
  | error z => rw [h1] at hp; cases hp
  | ok u =>
    rw [h1] at hp
    cases h2 : needPace p with
    | error z => rw [h2] at hp; cases hp
    | ok u =>
      rw [h2] at hp
      cases hb : (!(atK qs t).isSome && decide ((20 : Int) ≤ (qs.length : Nat))) with
      | true => simp only [hb] at hp; cases hp
      | false =>
        simp only [hb] at hp
        cases hp
        have ht := needTick_ok h1
        have hpp : 1 ≤ p ∧ p ≤ 16777215 := by simpa using thr_ok h2
        refine ⟨⟨?_, setK_keys h.d, fun q hq => ?_, fun q hq => ?_⟩, rfl⟩
        · rw [setK_len]
          rw [atK_any] at hb
          have := h.n
          split
          · omega
          · rename_i c
            simp only [Bool.not_eq_true] at c
            rw [c] at hb
            simp at hb
            omega
        · rcases setK_mem hq with h' | h'
          · exact h.t q h'
          · rw [h']; exact ht
        · rcases setK_mem hq with h' | h'
          · exact h.p q h'
          · rw [h']; exact hpp
theorem gr_same {U : Addr → Prop} {F H H' : Hp} (ex : Ex F H) (s : Same H H') : Gr U F H F H' := ⟨Same.refl F, ex.trans s, fun b o _ h => s b o h, fun b h => s.free h, fun b h _ => h⟩
/-- one thing that was not there at the start is changed -/
theorem gr_mut {F H F' H' H2 : Hp} {k : Addr} {o : HO} (g : Gr0 F H F' H') (h0 : H k = none) (f0 : F' k = none) (hb : ∀ b u, b ≠ k → H' b = some u → H2 b = some u) (hk : H2 k = some o) : Gr0 F H F' H2 := by
  refine ⟨g.ff, fun b u q => hb b u (ne_of_none q f0) (g.fh b u q), fun b u n q => hb b u (ne_of_none q h0) (g.hh b u n q), fun b q => ?_, g.nw⟩
  by_cases e : b = k
  · subst e; exact h0
  · refine g.dm b ?_
    cases hq : H' b with
    | none => rfl
    | some u => rw [hb b u e hq] at q; cases q
noncomputable def paceO (b : Bk) (n : Str) (t p : Int) : Except Str Tp := match tapeOf b n with
  | .error z => .error z
  | .ok tp => match putPO (srtP tp.ps) t p with
    | .error z => .error z
    | .ok qs => mkTape tp.b (some (srtP qs)) (some tp.ts)
section
variable {w : World} {K : PySem.W.Frag} {mg : Str → Option Value} {base : Heap} {MC TC DC : Addr}
def p_do_pace (K : PySem.W.Frag) (mg : Str → Option Value) (MC TC : Addr) : Sp := spG (ι := { i : Bk × Str × Int × Int // BkOk i.1 }) K mg (fun _ => m0) (fun i => tsDo K MC TC i.1.1 i.1.2.1 [.int i.1.2.2.1, .int i.1.2.2.2]) (fun i => paceO i.1.1 i.1.2.1 i.1.2.2.1 i.1.2.2.2) (fun _ p => TapeT K MC TC p)
theorem f_do_pace (T : Txt w K mg MC TC DC) (hE : CalX PG w K mg base 3 "is_event" (p_is_event K mg)) : CalX PG w K mg base 8 "do_pace" (p_do_pace K mg MC TC) := by
  refine cal_blk T.d_do_pace sc_do_pace bd_do_pace (fun _ => rfl) (fun _ => rfl) ?_
  rintro ⟨⟨b, n, t, p⟩, hb⟩ f cdv A outer s H0 E hr
  refine b_setX 3 (oe := tapeOf b n) (ence := fun p => TapeT K MC TC p) (e_callX (b, n) (f_tape_of T) hr (by decide) passE Sub.zero (a_cons (e_var 0 rfl) (a_cons (e_var 1 rfl) a_nil))) (fun z h => by
    show paceO b n t p = _
    unfold paceO
    rw [h]) (fun tp h1 => ?_) sc_do_pace.nd
  have hp := hb.at (tapeOf_at h1)
  have hn := hp.n
  show Blk _ _ _ [some (BookT K MC TC b), some (Is K (.str n)), some (Is K (.lst [.int t, .int p])), some (TapeT K MC TC tp), none] _ (paceO b n t p) _
  unfold paceO
  rw [h1]
  dsimp only
  intro σ F H g D q pins s I
  refine (pss_cons (ps_set (i := 4) sc_do_pace.nd rfl (.inl rfl) (pe_mx0 (f_Tape_paced T) hr (by decide) passL sem)) semS).run pins s σ H D I ?_
  show tSem _ _ _ _ _
  refine (e_var 3 rfl : EvE _ m0 [some (BookT K MC TC b), some (Is K (.str n)), some (Is K (.lst [.int t, .int p])), some (TapeT K MC TC tp), none] _ (TapeT K MC TC tp)) σ F H g _ fun u F1 H1 g1 i1 p2 => ?_
  obtain ⟨a, da, fs, rfl, ea, en⟩ := (insAt_of (mn := "paced") rfl : InsAt TC "paced" (TapeT K MC TC tp)).at_ u F1 p2
  refine ⟨a, da, fs, rfl, g1.fh _ _ ea, en, ⟨tp, hp.b, hp.ps⟩, F1, g1.fh, ⟨p2, trivial⟩, fun x dx k H2 s2 hx hk ne e1 e2 => ?_⟩
  have f1x : F1 x = none := Same.free g1.fh hx
  have f1k : F1 k = none := Same.free g1.fh hk
  have hxH : H x = none := g1.dm x hx
  have hkH : H k = none := g1.dm k hk
  have ps20 : (srtP tp.ps).length ≤ 20 := hp.ps.srt.n
  have sl : 4 < σ.length := by rw [I.len]; show 4 < 5; decide
  have gA : Gr0 F H F1 H2 := Gr.trans g1 (gr_same g1.fh s2)
  have gd : Good m0 [some (BookT K MC TC b), some (Is K (.str n)), some (Is K (.lst [.int t, .int p])), some (TapeT K MC TC tp), some (Vl (.ref x))] (σ.set 4 (some (.ref x))) F1 H2 := ⟨gA.fh, trivial, (g.h.mono g1.ff).set (i := 4) (T := Vl (.ref x)) sl rfl⟩
  show tSemS _ _ _ _ _
  refine fun pins s I => (pss_cons (ps_expr (pe_mx (f_Map_put T) hr (by decide) passE sem semA)) semS).run pins s _ H2 D I ?_
  show tSem _ _ _ _ _
  refine (e_var 4 rfl : EvE _ m0 [some (BookT K MC TC b), some (Is K (.str n)), some (Is K (.lst [.int t, .int p])), some (TapeT K MC TC tp), some (Vl (.ref x))] _ (Vl (.ref x))) _ F1 H2 gd _ fun u F3 H3 g3 i3 p3 => ?_
  refine ⟨x, dx, _, p3, g3.hh _ _ (fun z => z) e1, rfl, ?_⟩
  show tSemA _ _ _ _ _
  refine (a_cons (e_ixL (d := .int t) (e_var 2 rfl) e_int at_0) (a_cons (e_ixL (d := .int p) (e_var 2 rfl) e_int at_1) a_nil) : EvA _ m0 [some (BookT K MC TC b), some (Is K (.str n)), some (Is K (.lst [.int t, .int p])), some (TapeT K MC TC tp), some (Vl (.ref x))] _ [Is K (.int t), Is K (.int p)]) _ F3 H3 (gd.next g3 i3) _ fun vs F4 H4 g4 i4 p4 => ?_
  obtain ⟨w1, w2, rfl, q1, q2⟩ := two_of p4
  have q1 : w1 = .int t := DAt.i q1
  have q2 : w2 = .int p := DAt.i q2
  subst q1 q2 p3
  have g34 : Gr0 F1 H2 F4 H4 := Gr.trans g3 g4
  have k4 := g34.hh _ _ (fun z => z) e2
  have x4 := g34.hh _ _ (fun z => z) e1
  have f4k : F4 k = none := g34.nw k f1k (by rw [e2]; simp)
  have f4x : F4 x = none := g34.nw x f1x (by rw [e1]; simp)
  refine ⟨x, dx, k, tp.b, t, p, srtP tp.ps, rfl, x4, k4, ps20, fun qs' hq H5 keep hk5 => ?_, fun z hz C d H5 s5 er hd => ?_⟩
  · rw [hq] at q
    obtain ⟨pq, _⟩ := putPO_ok hp.ps.srt hq
    have gB : Gr0 F H F4 H5 := gr_mut (Gr.trans gA g34) hkH f4k keep hk5
    have x5 := keep x _ ne x4
    have gC := gr_fin gB hkH hk5 f4k
    have gD := gr_fin gC hxH x5 (by rw [upd_ne ne]; exact f4x)
    have ex : Ex F4 (upd (upd F4 k (.dK (qs'.map pI))) x (.ins MC dx [("ticks", .int tp.b), ("known", .ref k)])) := fun b u z => by rw [upd_ne (ne_of_none z f4x), upd_ne (ne_of_none z f4k)]; exact z
    have gd2 : Good m0 [some (BookT K MC TC b), some (Is K (.str n)), some (Is K (.lst [.int t, .int p])), some (TapeT K MC TC tp), some (MapT K MC tp.b qs')] (σ.set 4 (some (.ref x))) (upd (upd F4 k (.dK (qs'.map pI))) x (.ins MC dx [("ticks", .int tp.b), ("known", .ref k)])) H5 :=
      ⟨gD.fh, trivial, ((gd.h.mono g34.ff).mono ex).set' 4 (T := MapT K MC tp.b qs') (v := .ref x) (List.getElem?_set_self sl) ⟨x, dx, _, rfl, upd_same, rfl, .int .nil, rfl, ⟨k, _, rfl, by rw [upd_ne (Ne.symm ne)]; exact upd_same, kn_self _⟩, trivial⟩⟩
    show tSemS _ _ _ _ _
    refine b_retX (o := mkTape tp.b (some (srtP qs')) (some tp.ts)) (enc := fun p => TapeT K MC TC p) (e_makeK (ι := ιT) (Ps := [Is K (.int tp.b), Is K (trsD tp.ts)]) ⟨(tp.b, some tp.ts, some (srtP qs')), pq.srt, fun t' ht' => hp.ts t' ht', by show tp.ts.length ≤ 1000; omega⟩ (f_TapeK T hE) hr (by decide) passE
      (a_cons (e_meth0 tp (f_Tape_beat T) hr (by decide) (insAt_of rfl) Sub.zero rfl (e_var 3 rfl) rfl) (a_cons (e_meth0 (ι := { p : Tp // p.ts.length ≤ 1000 }) ⟨tp, by omega⟩ (f_Tape_tracks T) hr (by decide) (insAt_of rfl) Sub.zero rfl (e_var 3 rfl) rfl) a_nil))
      (e_meth0 (ι := Int × List (Int × Int)) (α := Unit) (v := ()) (tp.b, qs') (f_Map_paces T) hr (by decide) (insAt_of rfl) Sub.zero rfl (e_var 4 rfl) rfl) rfl (fun a H0 v F h => h)) _ _ _ gd2 D (q.later gD)
  · rw [hz] at q
    exact q C d F4 H5 ((Gr.trans gA g34).trans (gr_same g34.fh s5)) trivial er hd
end
end R60

set_option Elab.async false
set_option pp.maxSteps 400
set_option linter.all false
set_option maxRecDepth 100000
set_option maxHeartbeats 4000000
namespace R60
open PySem PySem.Spec PyProof.Rows L2
inductive Deed where
  | new (n : Str) (b : Int) | drop (n : Str) | add (n : Str) | put (n : Str) (i : Int) (e : Ev) | take (n : Str) (i pl : Int) | later (n : Str) (i b : Int) | part (n : Str) (i ch : Int) | pace (n : Str) (t p : Int)
def Deed.w : Deed → Str
  | .new .. => "new" | .drop .. => "drop" | .add .. => "add" | .put .. => "put" | .take .. => "take" | .later .. => "later" | .part .. => "part" | .pace .. => "pace"
def Deed.n : Deed → Str
  | .new n _ => n | .drop n => n | .add n => n | .put n _ _ => n | .take n _ _ => n | .later n _ _ => n | .part n _ _ => n | .pace n _ _ => n
def Deed.th : Deed → List D
  | .new _ b => [.int b] | .drop _ => [] | .add _ => [] | .put _ i e => [.int i, e.d] | .take _ i pl => [.int i, .int pl] | .later _ i b => [.int i, .int b] | .part _ i ch => [.int i, .int ch] | .pace _ t p => [.int t, .int p]
def Deed.d (d : Deed) : D := .tup (.str d.w :: .str d.n :: d.th)
def Deed.fit (d : Deed) : Prop := d.n.length ≤ 1000 ∧ match d with
  | .put _ _ e => e.fit
  | _ => True
noncomputable def actO (b : Bk) : Deed → Except Str Tp
  | .new n t => newO b n t
  | .drop _ => .error ""
  | .add n => addO b n
  | .put n i e => putO b n i e
  | .take n i pl => takeO b n i pl
  | .later n i t => laterPO b n i t
  | .part n i ch => partO b n i ch
  | .pace n t p => paceO b n t p
noncomputable def afterO (b : Bk) (d : Deed) : Except Str Bk := match d with
  | .drop n => match tapeOf b n with
    | .error z => .error z
    | .ok _ => .ok (delK b n)
  | d => match actO b d with
    | .error z => .error z
    | .ok p => .ok (setK b d.n p)
theorem Deed.is_drop {d : Deed} (h : d.w = "drop") : ∃ n, d = .drop n := by
  cases d <;> first
    | exact ⟨_, rfl⟩
    | exact absurd h (by simp only [Deed.w]; decide)
theorem Deed.no_cut (d : Deed) : decide (d.w = ("cut" : Str)) = false := decide_eq_false (by cases d <;> (simp only [Deed.w]; decide))
theorem afterO_drop {b : Bk} {n : Str} : afterO b (.drop n) = match tapeOf b n with
    | .error z => .error z
    | .ok _ => .ok (delK b n) := rfl
theorem afterO_act {b : Bk} {d : Deed} (h : d.w ≠ "drop") : afterO b d = match actO b d with
    | .error z => .error z
    | .ok p => .ok (setK b d.n p) := by
  cases d <;> first
    | rfl
    | exact absurd rfl h
theorem tk_set {b : Bk} {n : Str} {p : Tp} {T : Tp → Ty} : setK (tk b T) (Sum.inr n) (T p) = tk (setK b n p) T := by
  unfold setK tk
  have e : ((b.map fun p => ((Sum.inr p.1 : L2.Key), T p.2)).any fun kv => decide (kv.1 = Sum.inr n)) = b.any fun kv => decide (kv.1 = n) := by
    rw [List.any_map]
    congr 1
    funext q
    simp
  rw [e]
  by_cases c : (b.any fun kv => decide (kv.1 = n)) = true
  · rw [if_pos c, if_pos c, List.map_map, List.map_map]
    refine List.map_congr_left fun q _ => ?_
    by_cases h : q.1 = n
    · simp [h]
    · simp [h]
  · rw [if_neg c, if_neg c, List.map_append]
    rfl
theorem tk_del {b : Bk} {n : Str} {T : Tp → Ty} : delK (tk b T) (Sum.inr n) = tk (delK b n) T := by
  unfold delK tk
  rw [List.filter_map]
  congr 1
  refine List.filter_congr fun q _ => ?_
  simp
section
variable {w : World} {K : PySem.W.Frag} {mg : Str → Option Value} {base : Heap} {MC TC DC : Addr}
theorem size_of (T : Txt w K mg MC TC DC) : ∃ a, mg "SIZES" = some (.ref a) ∧ (a == sysModules) = false ∧ ∀ d : Deed, KDct K w a d.w (.int ((2 + d.th.length : Nat) : Int)) := by
  obtain ⟨a, h0, hl, h1, h2, h3, h4, h5, h6, h7, h8⟩ := T.k_SIZES
  exact ⟨a, h0, hl, fun d => by cases d <;> assumption⟩
def sp_act (K : PySem.W.Frag) (mg : Str → Option Value) (MC TC : Addr) (b : Bk) (d : Deed) : Sp := spG (ι := Unit) K mg (fun _ => m0) (fun _ => tsDo K MC TC b d.n d.th) (fun _ => actO b d) (fun _ p => TapeT K MC TC p)
theorem act_of (T : Txt w K mg MC TC DC) (hE : CalX PG w K mg base 3 "is_event" (p_is_event K mg)) {b : Bk} (hb : BkOk b) : ∃ a, mg "DEEDS" = some (.ref a) ∧ ∀ d : Deed, d.fit → d.w ≠ "drop" → ∃ f, KDct K w a d.w (.ref f) ∧ CalA PG w K mg base 8 f (sp_act K mg MC TC b d) := by
  obtain ⟨a, h0, ⟨f1, k1, m1⟩, ⟨f2, k2, m2⟩, ⟨f3, k3, m3⟩, ⟨f4, k4, m4⟩, ⟨f5, k5, m5⟩, ⟨f6, k6, m6⟩, ⟨f7, k7, m7⟩⟩ := T.k_DEEDS
  refine ⟨a, h0, fun d hf hd => ?_⟩
  cases d with
  | drop n => exact absurd rfl hd
  | new n t => exact ⟨f1, k1, ((f_do_new T hE).imp fun vs H Q E ⟨_, F, ex, i, hA, c⟩ => ⟨⟨(b, n, t), hf.1⟩, F, ex, i, hA, c⟩).at m1⟩
  | add n => exact ⟨f2, k2, ((f_do_add T hE).imp fun vs H Q E ⟨_, F, ex, i, hA, c⟩ => ⟨⟨(b, n), hb⟩, F, ex, i, hA, c⟩).at m2⟩
  | put n i e => exact ⟨f3, k3, ((f_do_put T hE).imp fun vs H Q E ⟨_, F, ex, i', hA, c⟩ => ⟨⟨(b, n, i, e), hb, hf.2⟩, F, ex, i', hA, c⟩).at m3⟩
  | take n i pl => exact ⟨f4, k4, ((f_do_take T hE).imp fun vs H Q E ⟨_, F, ex, i', hA, c⟩ => ⟨⟨(b, n, i, pl), hb⟩, F, ex, i', hA, c⟩).at m4⟩
  | pace n t p => exact ⟨f5, k5, ((f_do_pace T hE).imp fun vs H Q E ⟨_, F, ex, i', hA, c⟩ => ⟨⟨(b, n, t, p), hb⟩, F, ex, i', hA, c⟩).at m5⟩
  | later n i t => exact ⟨f6, k6, ((f_do_later T hE).imp fun vs H Q E ⟨_, F, ex, i', hA, c⟩ => ⟨⟨(b, n, i, t), hb⟩, F, ex, i', hA, c⟩).at m6⟩
  | part n i ch => exact ⟨f7, k7, ((f_do_part T hE).imp fun vs H Q E ⟨_, F, ex, i', hA, c⟩ => ⟨⟨(b, n, i, ch), hb⟩, F, ex, i', hA, c⟩).at m7⟩
theorem e_ref {X : Cx} {m : Mu} {Γ : Gam} {x : Str} {a : Addr} {pos : Pos} (h : X.mg x = some (.ref a)) (hg : Gl X x := by rfl) (hd : (x == ("__debug__" : Str)) = false := by decide) : EvE X m Γ (.Name x pos) (Vl (.ref a)) := e_glob (v := .ref a) ⟨_, h, rfl⟩ (fun _ => rfl) hg hd
def p_after (K : PySem.W.Frag) (mg : Str → Option Value) (MC TC : Addr) : Sp := spG (ι := { i : Bk × Deed // BkOk i.1 ∧ i.2.fit ∧ i.1.length ≤ 100 }) K mg (fun _ => m0) (fun i => [BookT K MC TC i.1.1, Is K i.1.2.d]) (fun i => afterO i.1.1 i.1.2) (fun _ b => BookT K MC TC b)
theorem f_after (T : Txt w K mg MC TC DC) (hE : CalX PG w K mg base 3 "is_event" (p_is_event K mg)) : CalX PG w K mg base 9 "after" (p_after K mg MC TC) := by
  refine cal_blk T.d_after sc_after bd_after (fun _ => rfl) (fun _ => rfl) ?_
  rintro ⟨⟨b, d⟩, hb, hf, hlen⟩ f cdv A outer s H0 E hr
  replace hlen : b.length ≤ 100 := hlen
  obtain ⟨sa, sm, sl, sz⟩ := size_of T
  refine b_if (S := Eq false) (EvT.eq (EvW.toT (w_orB (t_eqi (e_lenT (ds := .str d.w :: .str d.n :: d.th) T.n_len (e_var 1 rfl)) e_int) fun _ => w_or1 (t_nei (e_kget (sz d) sl (e_ref sm) (e_ixT (ds := .str d.w :: .str d.n :: d.th) (e_var 1 rfl) e_int at_0) e_int) (e_lenT (ds := .str d.w :: .str d.n :: d.th) T.n_len (e_var 1 rfl))))) ?_) (fun h => nomatch h) fun _ => ?_
  · simp
    omega
  refine b_asg (T := Is K (.tup (.str d.w :: .str d.n :: d.th))) (e_var 1 rfl) (tg_star rfl (tg_cons (tg_name 2 sc_after.nd) (tg_cons (tg_name 3 sc_after.nd) (tg_cons (tg_name 4 sc_after.nd) tg_nil)))) ?_
  show Blk _ _ _ [some (BookT K MC TC b), some (Is K d.d), some (Is K (.str d.w)), some (Is K (.str d.n)), some (Is K (.lst d.th)), none, none] _ (afterO b d) _
  intro σ F H g D q
  refine go_newD 5 T.n_dict (e_var 0 rfl) g (fun a vs F1 H1 g1 i1 h0 f0 hl hA gd1 => ?_) sc_after.nd
  have hvl : vs.length ≤ 100 := by rw [hA.len]; unfold tk; rw [List.length_map]; exact hlen
  have fin : ∀ (p1 p2 : Pos) (b' : Bk) (vs' : List (L2.Key × V)) (σ' : L2.St) F2 H2, Gr0 F1 H1 F2 H2 → afterO b d = .ok b' → KvT (tk b' (TapeT K MC TC)) vs' F2 → σ'[5]? = some (some (.ref a)) → tSemS (cxD PG w K mg base "after" s_after ["book", "deed", "word", "name", "things", "later_book", "act"] f cdv A outer s H0 E) [.Return (some (.Name "later_book" p1)) p2] D σ' (upd H2 a (.dK vs')) := by
    intro p1 p2 b' vs' σ' F2 H2 g2 hq hkv hs
    have f2 : F2 a = none := g2.nw a f0 (by rw [hl]; simp)
    have gB : Gr0 F H F2 (upd H2 a (.dK vs')) := gr_upd (Gr.trans g1 g2) h0 f2
    have gC := gr_fin gB h0 upd_same f2
    have ex : Ex F2 (upd F2 a (.dK vs')) := fun b u z => by rw [upd_ne (ne_of_none z f2)]; exact z
    have q : Cont K mg m0 F H D.rt E (afterO b d) (fun b => BookT K MC TC b) := q
    rw [hq] at q
    refine go_ret (m := m0) (Γ := [none, none, none, none, none, some (BookT K MC TC b'), none]) (e_var 5 rfl) ⟨gC.fh, trivial, fun i T hi => ?_⟩ fun v F3 H3 g3 i3 p3 => q v F3 H3 (gC.trans g3) trivial p3
    match i, hi with
    | 5, hi =>
      cases hi
      exact ⟨_, hs, a, vs', rfl, upd_same, hkv.mono ex⟩
    | 0, hi => exact nomatch hi
    | 1, hi => exact nomatch hi
    | 2, hi => exact nomatch hi
    | 3, hi => exact nomatch hi
    | 4, hi => exact nomatch hi
    | 6, hi => exact nomatch hi
    | n + 7, hi => simp at hi
  have slot5 : ∀ {F' : Hp} {Γ' : Gam} {σ' : L2.St}, Γ'[5]? = some (some (Vl (.ref a))) → Holds Γ' σ' F' → σ'[5]? = some (some (.ref a)) := fun h hh => by
    obtain ⟨v, e1, e2⟩ := hh 5 _ h
    rw [e1, show v = .ref a from e2]
  by_cases hd : d.w = "drop"
  · obtain ⟨n, rfl⟩ := Deed.is_drop hd
    refine go_if (S := Eq true) (EvT.eq (t_eqs (e_var 2 rfl) e_str) (decide_eq_true hd)) gd1 (fun F2 H2 g2 i2 _ => ?_) (fun _ _ _ _ h => nomatch h)
    have gd2 := gd1.next g2 i2
    refine go_stf (s_exprX (e_callX (o' := tapeOf b n) (en' := fun p => TapeT K MC TC p) (b, n) (f_tape_of T) hr (by decide) passE Sub.zero (a_cons (e_var 0 rfl) (a_cons (e_var 3 rfl) a_nil)))) gd2 ?_
    have q : Cont K mg m0 F H D.rt E (afterO b (.drop n)) (fun b => BookT K MC TC b) := q
    cases h1 : tapeOf b n with
    | error z =>
      have e : afterO b (.drop n) = .error z := by rw [afterO_drop, h1]
      rw [e] at q
      exact fun C d F3 H3 g3 i3 e1 e2 => q C d F3 H3 ((Gr.trans g1 g2).trans g3) trivial e1 e2
    | ok p =>
      have e : afterO b (.drop n) = .ok (delK b n) := by rw [afterO_drop, h1]
      intro σ3 F3 H3 g3 gd3
      have g23 := Gr.trans g2 g3
      have e2 : atK (tk b (TapeT K MC TC)) (Sum.inr n) = some (TapeT K MC TC p) := by
        unfold tk
        rw [atK_map, tapeOf_at h1] <;> rfl
      obtain ⟨v, hv, _⟩ := (hA.mono g23.ff).has e2
      refine go_dpop (ky := .inr n) (e_var 5 rfl) (e_var 3 rfl) gd3 (g23.hh _ _ (fun z => z) hl) hv fun F4 H4 g4 => go_end ?_
      refine fin _ _ _ _ _ F4 H4 (g23.trans g4) e ?_ (slot5 rfl gd3.h)
      rw [← tk_del]
      exact ((hA.mono g23.ff).mono g4.ff).del
  · obtain ⟨da, dm, dk⟩ := act_of (base := base) T hE hb
    obtain ⟨fa, kd, ca⟩ := dk d hf hd
    have hcut := d.no_cut
    refine go_if (S := Eq false) (EvT.eq (t_eqs (e_var 2 rfl) e_str) (by simpa using hd)) gd1 (fun _ _ _ _ h => nomatch h) (fun F2 H2 g2 i2 _ => ?_)
    have gd2 := gd1.next g2 i2
    refine go_if (S := Eq false) (EvT.eq (t_eqs (e_var 2 rfl) e_str) hcut) gd2 (fun _ _ _ _ h => nomatch h) (fun F3 H3 g3 i3 _ => ?_)
    have gd3 := gd2.next g3 i3
    refine go_set 6 (e_kix (T := Vl (.ref fa)) kd (fun _ => rfl) (e_ref dm) (e_var 2 rfl)) gd3 (fun v F4 H4 g4 i4 p4 gd4 => ?_) sc_after.nd
    have g24 : Gr0 F1 H1 F4 H4 := (Gr.trans g2 g3).trans g4
    have eq0 := afterO_act (b := b) hd
    refine go_dputX (E := E) (ky := .inr d.n) (ov := actO b d) (encv := fun p => TapeT K MC TC p) hr (e_callL 6 () ca hr (by decide) passE Sub.zero rfl (a_cons (e_var 0 rfl) (a_cons (e_var 3 rfl) (a_cons (e_var 4 rfl) a_nil)))) (e_var 5 rfl) (e_var 3 rfl) gd4 (g24.hh _ _ (fun z => z) hl) (by omega) (fun z hz C d' F5 H5 g5 e1 e2 => ?_) (fun p hp v F5 H5 g5 p5 => ?_)
    · have q : Cont K mg m0 F H D.rt E (afterO b d) (fun b => BookT K MC TC b) := q
      rw [eq0, hz] at q
      exact q C d' F5 H5 ((Gr.trans g1 g24).trans g5) trivial e1 e2
    · refine go_end (go_end ?_)
      refine fin _ _ (setK b d.n p) _ _ F5 H5 (g24.trans g5) (by rw [eq0, hp]) ?_ (slot5 rfl gd4.h)
      rw [← tk_set]
      exact ((hA.mono g24.ff).mono g5.ff).set p5
end
end R60

set_option Elab.async false
set_option pp.maxSteps 400
set_option linter.all false
set_option maxRecDepth 100000
set_option maxHeartbeats 4000000
namespace R60
open PySem PySem.Spec PyProof.Rows L2
theorem t_kin {X : Cx} {m : Mu} {Γ : Gam} {a b : Expr} {pos : Pos} {p : Addr} {z : Str} {v : V} (kd : KDct X.K X.w p z v) (low : (p == sysModules) = false) (ha : EvE X m Γ a (Is X.K (.str z))) (hb : EvE X m Γ b (Vl (.ref p))) (hm : behindInMarks .NotIn b = false := by rfl) : EvT X m Γ (.Compare a [.NotIn] [b] pos) (Eq false) := by
  obtain ⟨es, n, u, h1, h2, h3, h4⟩ := kd
  exact t_cmp (op_notIn_kd ⟨h1, h2, low⟩) hm ha hb fun v u' F H Q ex p1 p2 q => ⟨z, some u, DAt.s p1, p2, h3, q _ F H (Gr.refl ex) ⟨false, rfl, rfl⟩⟩
/-- the bounds of each word -/
def Kd.fs : Kd → List (Int × Int)
  | .on => [(0, 15), (0, 127), (1, 127)]
  | .voice => [(0, 15), (0, 127)]
  | .mark => []
  | _ => [(0, 15), (0, 127), (0, 127)]
def fsD (l : List (Int × Int)) : R60.D := .tup (l.map fun q => .tup [.int q.1, .int q.2])
theorem ok_fs {e : Ev} (h : e.k ≠ .mark) : e.ok = ((decide (0 ≤ e.t) && decide (e.t ≤ 999999)) && (decide (e.xs.length = e.k.fs.length) && (e.xs.zip e.k.fs).all fun q => inR q.2.1 q.2.2 q.1)) := by
  obtain ⟨t, k, xs⟩ := e
  unfold Ev.ok
  congr 1
  show (match k, xs with | _, _ => _) = _
  cases k <;> first
    | exact absurd rfl h
    | (match xs with
       | [] => rfl
       | [a] => rfl
       | [a, b] => simp [Kd.fs]
       | [a, b, c] => simp [Kd.fs, Bool.and_assoc]
       | a :: b :: c :: d :: r => simp [Kd.fs])
def mkOk : List At → Bool
  | [a] => txtOk a
  | _ => false
theorem ok_mark {et : Int} {xs : List At} (ht : (decide (0 ≤ et) && decide (et ≤ 999999)) = true) : ({ t := et, k := .mark, xs := xs } : Ev).ok = mkOk xs := by
  unfold Ev.ok
  show ((decide (0 ≤ et) && decide (et ≤ 999999)) && _) = _
  rw [ht]
  match xs with
  | [] => rfl
  | [a] => rfl
  | a :: b :: r => rfl
theorem zip_get {α β : Type} {xs : List α} {ys : List β} {i : Nat} {q : α × β} (h : (xs.zip ys)[i]? = some q) : xs[i]? = some q.1 ∧ ys[i]? = some q.2 := by
  rw [List.getElem?_zip_eq_some] at h
  exact h
section
variable {w : World} {K : PySem.W.Frag} {mg : Str → Option Value} {base : Heap} {MC TC DC : Addr}
theorem form_of (T : Txt w K mg MC TC DC) : ∃ a, mg "FORMS" = some (.ref a) ∧ (a == sysModules) = false ∧ ∀ k : Kd, k ≠ .mark → ∃ t : Addr, KDct K w a k.s (.ref t) ∧ ∀ F, (Is K (fsD k.fs)).p (.ref t) F := by
  obtain ⟨a, h0, hl, ⟨t1, h1, g1⟩, ⟨t2, h2, g2⟩, ⟨t3, h3, g3⟩, ⟨t4, h4, g4⟩⟩ := T.k_FORMS
  refine ⟨a, h0, hl, fun k hk => ?_⟩
  cases k with
  | on => exact ⟨t1, h1, g1⟩
  | off => exact ⟨t2, h2, g2⟩
  | knob => exact ⟨t3, h3, g3⟩
  | voice => exact ⟨t4, h4, g4⟩
  | mark => exact absurd rfl hk
theorem f_is_event (T : Txt w K mg MC TC DC) : CalX PG w K mg base 3 "is_event" (p_is_event K mg) := by
  refine cal_blk T.d_is_event sc_is_event bd_is_event (fun _ => rfl) (fun _ => rfl) ?_
  rintro ⟨e, he⟩ f cdv A outer s H E hr
  have hxs : (D.int e.t :: D.str e.k.s :: e.xs.map At.d).length = e.xs.length + 2 := by simp
  have hn : e.xs.length ≤ 10 := he.n
  refine b_if (S := Eq !(decide (0 ≤ e.t) && decide (e.t ≤ 999999))) (EvT.eq (EvW.toT (w_orB (t_lt (e_lenT (ds := .int e.t :: .str e.k.s :: e.xs.map At.d) T.n_len (e_var 0 rfl)) e_int) fun _ => w_or1 (t_notB (t_bl (e_call ((.i e.t, 0, 999999) : At × Int × Int) (f_is_between T) (by exact hr) (by decide) Sub.zero rfl (a_cons (e_ixT (ds := .int e.t :: .str e.k.s :: e.xs.map At.d) (e_var 0 rfl) e_int at_0) (a_cons (e_tupD (ad_cons e_int (ad_cons (e_glob T.c_MOST_TICK fun _ => .int .nil) ad_nil))) a_nil))))))) ?_) ?_ ?_
  · rw [show decide (((D.int e.t :: D.str e.k.s :: e.xs.map At.d).length : Int) < 2) = false from decide_eq_false (by rw [hxs]; omega), Bool.false_or] <;> rfl
  · intro h
    refine b_retD (v := ()) e_bl rfl ?_
    show Is K (.bl e.ok) = _
    congr 2
    unfold Ev.ok
    have h : (!(decide (0 ≤ e.t) && decide (e.t ≤ 999999))) = true := h
    rw [Bool.not_eq_true'] at h
    rw [h] <;> rfl
  · intro h
    have ht : (decide (0 ≤ e.t) && decide (e.t ≤ 999999)) = true := by
      have h : (!(decide (0 ≤ e.t) && decide (e.t ≤ 999999))) = false := h
      rw [Bool.not_eq_false'] at h
      exact h
    refine b_asg (T := Is K (.tup (.int e.t :: .str e.k.s :: e.xs.map At.d))) (e_var 0 rfl) (tg_star rfl (tg_cons (tg_name 1 sc_is_event.nd) (tg_cons (tg_name 2 sc_is_event.nd) (tg_cons (tg_name 3 sc_is_event.nd) tg_nil)))) ?_
    show Blk _ _ _ [some (Is K e.d), some (Is K (.int e.t)), some (Is K (.str e.k.s)), some (Is K (.lst (e.xs.map At.d))), none, none] _ (.ok ()) _
    refine b_if (S := Eq (decide (e.k.s = ("mark" : Str)))) (t_eqs (e_var 2 rfl) e_str) ?_ ?_
    · intro hk
      have hk : e.k = .mark := by
        rw [kd_mark] at hk
        exact of_decide_eq_true hk
      obtain ⟨et, ek, xs⟩ := e
      replace hk : ek = .mark := hk
      subst hk
      have okd := ok_mark (xs := xs) ht
      clear hxs hn h ht
      match xs, he, okd with
      | [], he, okd => exact b_retD (v := ()) (e_and (k' := false) (e_eqi (e_lenL (ds := []) T.n_len (e_var 3 rfl)) e_int) fun h => absurd h (by decide)) rfl (by
          show Is K (.bl _) = Is K (.bl _)
          rw [okd] <;> rfl)
      | [a], he, okd => exact b_retD (v := ()) (e_and (k' := txtOk a) (e_eqi (e_lenL (ds := [a.d]) T.n_len (e_var 3 rfl)) e_int) fun h => e_one (e_call (P := Is K (.bl (txtOk a))) ⟨a, fun z hz => he.z a (by simp) z hz⟩ (f_is_text T) (by exact hr) (by decide) Sub.zero rfl (a_cons (e_ixL (ds := [a.d]) (e_var 3 rfl) e_int at_0) a_nil))) rfl (by
          show Is K (.bl _) = Is K (.bl _)
          rw [okd] <;> rfl)
      | a :: b :: r, he, okd => exact b_retD (v := ()) (e_and (k' := false) (e_eqi (e_lenL (ds := (a :: b :: r).map At.d) T.n_len (e_var 3 rfl)) e_int) fun h => absurd (of_decide_eq_true h) (by simp; omega)) rfl (by
          show Is K (.bl _) = Is K (.bl _)
          rw [okd, Bool.and_false] <;> rfl)
    · intro hk
      have hk : e.k ≠ .mark := by
        rw [kd_mark] at hk
        exact of_decide_eq_false hk
      obtain ⟨a, sm, sl, hf⟩ := form_of T
      obtain ⟨t, kd, kt⟩ := hf e.k hk
      refine b_if (S := Eq (!decide (e.xs.length = e.k.fs.length))) (EvT.eq (EvW.toT (w_orB (t_notB (t_bl (e_isi T.n_isinstance T.n_str (e_var 2 rfl) kb_str_str))) fun _ => w_orB (t_kin kd sl (e_var 2 rfl) (e_ref sm)) fun _ => w_or1 (t_nei (e_lenL T.n_len (e_var 3 rfl)) (e_lenT (ds := e.k.fs.map fun q => .tup [.int q.1, .int q.2]) T.n_len (e_kix kd kt (e_ref sm) (e_var 2 rfl)))))) ?_) ?_ ?_
      · rw [List.length_map, List.length_map, Bool.not_true, Bool.false_or, Bool.false_or]
        congr 1
        exact decide_eq_decide.mpr (by omega)
      · intro hl
        refine b_retD (v := ()) e_bl rfl ?_
        show Is K (.bl _) = Is K (.bl _)
        have hl : (!decide (e.xs.length = e.k.fs.length)) = true := hl
        rw [Bool.not_eq_true'] at hl
        rw [ok_fs hk, hl, Bool.false_and, Bool.and_false]
      · intro hl
        have hl : e.xs.length = e.k.fs.length := by
          have hl : (!decide (e.xs.length = e.k.fs.length)) = false := hl
          rw [Bool.not_eq_false'] at hl
          exact of_decide_eq_true hl
        have hz : (e.xs.zip e.k.fs).length = e.xs.length := by rw [List.length_zip, ← hl, Nat.min_self]
        refine b_retD (v := ()) (e_all (bs := (e.xs.zip e.k.fs).map fun q => inR q.2.1 q.2.2 q.1) rfl T.n_all (EvE.eq (e_lcAll (xs := e.xs.zip e.k.fs) (Y := fun i => TuT K [YL e.xs (fun a => Is K a.d) i, YL e.k.fs (fun q => Is K (.tup [.int q.1, .int q.2])) i]) (fun q => [some (Is K e.d), some (Is K (.int e.t)), some (Is K (.str e.k.s)), some (Is K (.lst (e.xs.map At.d))), some (Is K q.1.d), some (Is K (.tup [.int q.2.1, .int q.2.2]))]) [4, 5] (fun q => .bl (inR q.2.1 q.2.2 q.1)) rfl sc_is_event.nd ?_ (by rw [hz]; omega)
          (blkOk_by (own := [("thing", 4), ("bounds", 5)]) (N := ["event", "tick", "word", "things", "thing", "bounds"]) (sc := defScope s_is_event) (by decide +kernel)) ?_ ?_) ?_)) rfl ?_
        · rw [hz]
          exact i_zs (xs := e.xs) (ys := e.k.fs) (ex := fun a => Is K a.d) (ey := fun q => Is K (.tup [.int q.1, .int q.2])) T.n_zip (e_ls (e_var 3 rfl)) (e_ts (e_kix kd kt (e_ref sm) (e_var 2 rfl))) hl
        · intro i q hq _ _ _ _ _
          obtain ⟨h1, h2⟩ := zip_get hq
          refine tg_tup (Ts := [Is K q.1.d, Is K (.tup [.int q.2.1, .int q.2.2])]) rfl (tg_cons (tg_name 4 sc_is_event.nd) (tg_cons (tg_name 5 sc_is_event.nd) tg_nil)) ?_
          intro v F p
          rw [yl_at h1, yl_at h2] at p
          exact p
        · intro q hq _ _ _ _ _
          exact e_call (q.1, q.2.1, q.2.2) (f_is_between T) (by exact hr) (by decide) Sub.zero rfl (a_cons (e_var 4 rfl) (a_cons (e_var 5 rfl) a_nil))
        · rw [List.map_map] <;> rfl
        · show Is K (.bl _) = Is K (.bl _)
          rw [ok_fs hk, ht, hl, all_map]
          simp
end
end R60

set_option Elab.async false
set_option pp.maxSteps 400
set_option linter.all false
set_option maxRecDepth 100000
set_option maxHeartbeats 1000000
namespace R60
open PySem PySem.Spec PyProof.Rows L2
/-! ### things that may change, under what a Mu says of them -/
section
variable {X : Cx} {m : Mu} {E : XK} {Γ : Gam} {e c o : Expr} {es : List Expr} {P R : Ty} {pos pos' p apos cpos spos : Pos} {rest : List Stmt} {D : Ends} {σ : L2.St} {F H : Hp} {α : Type} {x a C dx : Addr} {f mn : Str} {fs : List (Str × V)} {k j : Nat}
theorem e_fldM (hc : Cls X.K C) (hn : NoAttr X.K C f) (h : EvE X m Γ o (Vl (.ref x))) (hI : ∀ F H, m.I F H → ∃ dx fs v, H x = some (.ins C dx fs) ∧ fs.lookup f = some v ∧ P.p v F) (hb : attributeBase o f X.env (eval o X.env) = eval o X.env := by rfl) : EvE X m Γ (.Attribute o f pos) P :=
  EvE.of (pe_fld sem hb) fun σ F H Q g q => h σ F H g _ fun v F1 H1 g1 i1 p1 => by
    obtain ⟨dx, fs, u, e1, e2, e3⟩ := hI F1 H1 i1
    exact ⟨x, C, dx, fs, u, p1, e1, hc, hn, e2, q u F1 H1 g1 i1 e3⟩
theorem i_listM {tg : Expr} {xs : List α} {enc : α → Ty} (h : EvE X m Γ e (Vl (.ref a))) (hI : ∀ F H, m.I F H → ∃ vs, H a = some (.lst vs) ∧ HoldsA (xs.map enc) vs F) : PIx X m Γ tg e xs.length (YL xs enc) :=
  ⟨_, pi_list sem, fun σ F H g R q => h σ F H g _ fun v F1 H1 g1 i1 ev => by
    obtain ⟨vs, h2, h3⟩ := hI F1 H1 i1
    refine ⟨a, ev, ⟨vs, SqL.of h2⟩, q _ F1 H1 g1 i1 ?_⟩
    refine ⟨fun F' H' a1 a2 aI i hi => ?_, fun F' H' a1 a2 aI => ?_, fun F' H' a1 a2 aI i x H2 hi y => ?_⟩
    · obtain ⟨vs, h2, h3⟩ := hI F' H' aI
      have hl : vs.length = xs.length := by rw [h3.len, List.length_map]
      exact ⟨vs, vs[i], SqL.of h2, by simp [hl, hi]⟩
    · obtain ⟨vs, h2, h3⟩ := hI F' H' aI
      have hl : vs.length = xs.length := by rw [h3.len, List.length_map]
      exact ⟨vs, SqL.of h2, by omega⟩
    · obtain ⟨vs, h2, h3⟩ := hI F' H' aI
      obtain ⟨rfl, y⟩ := y
      exact ⟨F', Gr.refl a2, yl_holds h3 (y vs (SqL.of h2))⟩⟩
/-- o.f = value -/
theorem go_fldM {value : Expr} {Tv : Ty} (hc : Cls X.K C) (hn : NoAttr X.K C f) (hv : EvE X m Γ value Tv) (ho : EvE X m Γ o (Vl (.ref x))) (g : Good m Γ σ F H) (hx : ∀ F H, m.I F H → H x = some (.ins C dx fs)) (hl : fs.length < 900)
    (k : ∀ v F' H', Gr m.U F H F' H' → m.I F' H' → Tv.p v F' → tSemS X rest D σ (L2.upd H' x (.ins C dx (putF f v fs)))) (hs : swapsWith value (some (.Attribute o f pos')) pos.line X.env = pure false := by rfl) : tSemS X (.Assign [.Attribute o f pos'] value pos :: rest) D σ H := fun pins s I =>
  (pss_cons (ps_fld sem sem hs) semS).run pins s σ H D I (hv σ F H g _ fun v F1 H1 g1 i1 p1 => ho σ F1 H1 (g.next g1 i1) _ fun u F2 H2 g2 i2 p2 => ⟨x, C, dx, fs, p2, hx _ _ i2, hc, hn, by omega, k v F2 H2 (Gr.trans g1 g2) i2 (Tv.mono _ _ _ g2.ff p1)⟩)
/-- o.f += n -/
theorem go_augM {value : Expr} {n i : Int} (hc : Cls X.K C) (hn : NoAttr X.K C f) (hv : EvE X m Γ value (Is X.K (.int n))) (ho : EvE X m Γ o (Vl (.ref x))) (g : Good m Γ σ F H) (hx : ∀ F H, m.I F H → H x = some (.ins C dx fs)) (hf : fs.lookup f = some (.int i)) (hl : fs.length < 900)
    (k : ∀ F' H', Gr m.U F H F' H' → m.I F' H' → tSemS X rest D σ (L2.upd H' x (.ins C dx (putF f (.int (i + n)) fs)))) : tSemS X (.AugAssign (.Attribute o f pos') .Add value pos :: rest) D σ H := fun pins s I =>
  (pss_cons (ps_fldaug sem sem in_add) semS).run pins s σ H D I (ho σ F H g _ fun u F1 H1 g1 i1 p1 => ⟨x, C, dx, fs, _, p1, hx _ _ i1, hc, hn, hf, hv σ F1 H1 (g.next g1 i1) _ fun v F2 H2 g2 i2 p2 => ⟨i, n, rfl, DAt.i p2, dx, fs, hx _ _ i2, by omega, k F2 H2 (Gr.trans g1 g2) i2⟩⟩)
theorem go_subM {value : Expr} {n i : Int} (hc : Cls X.K C) (hn : NoAttr X.K C f) (hv : EvE X m Γ value (Is X.K (.int n))) (ho : EvE X m Γ o (Vl (.ref x))) (g : Good m Γ σ F H) (hx : ∀ F H, m.I F H → H x = some (.ins C dx fs)) (hf : fs.lookup f = some (.int i)) (hl : fs.length < 900)
    (k : ∀ F' H', Gr m.U F H F' H' → m.I F' H' → tSemS X rest D σ (L2.upd H' x (.ins C dx (putF f (.int (i - n)) fs)))) : tSemS X (.AugAssign (.Attribute o f pos') .Sub value pos :: rest) D σ H := fun pins s I =>
  (pss_cons (ps_fldaug sem sem in_sub) semS).run pins s σ H D I (ho σ F H g _ fun u F1 H1 g1 i1 p1 => ⟨x, C, dx, fs, _, p1, hx _ _ i1, hc, hn, hf, hv σ F1 H1 (g.next g1 i1) _ fun v F2 H2 g2 i2 p2 => ⟨i, n, rfl, DAt.i p2, dx, fs, hx _ _ i2, by omega, k F2 H2 (Gr.trans g1 g2) i2⟩⟩)
/-- o.append(e) -/
theorem go_appM {Tv : Ty} {vs : List V} (ho : EvE X m Γ o (Vl (.ref a))) (he : EvE X m Γ e Tv) (g : Good m Γ σ F H) (hx : ∀ F H, m.I F H → H a = some (.lst vs)) (hl : vs.length < 100000)
    (k : ∀ v F' H', Gr m.U F H F' H' → m.I F' H' → Tv.p v F' → tSemS X rest D σ (L2.upd H' a (.lst (vs ++ [v])))) (mm : M1 X o "append" apos e cpos := by exact ⟨rfl, rfl, rfl, rfl⟩) (hs : swapsWith (.Call (.Attribute o "append" apos) [e] [] cpos) none spos.line X.env = pure false := by rfl)
    (h1 : starEach [e] X.env = [(false, eval e X.env)] := by rfl) (hpl : (backTo cpos (starEach [] X.env)).any (·.1) = false := by rfl) :
    tSemS X (.Expr (.Call (.Attribute o "append" apos) [e] [] cpos) spos :: rest) D σ H := fun pins s I =>
  (pss_cons (ps_expr (pe_bm PySem.F.plainAttrs_list PySem.F.slot_list_append PySem.F.type_list_append mt_append sem semA mm.base mm.few mm.line h1 hpl) hs) semS).run pins s σ H D I (ho σ F H g _ fun u F1 H1 g1 i1 p1 => by
    obtain rfl : u = .ref a := p1
    refine ⟨.inl ⟨rfl, vs, SqL.of (hx _ _ i1)⟩, (a_cons he a_nil h1) σ F1 H1 (g.next g1 i1) _ fun us F2 H2 g2 i2 p2 => ?_⟩
    obtain ⟨v, rfl, p2⟩ := one_of p2
    exact ⟨a, vs, v, rfl, rfl, hx _ _ i2, Nat.lt_of_lt_of_le hl (by decide), k v F2 H2 (Gr.trans g1 g2) i2 p2.1⟩)
/-- tg = o.pop() -/
theorem go_popM {tg : Expr} {T : Ty} {Γ' : Gam} {js : List Nat} {vs : List V} {v : V} {m' : Mu} (ho : EvE X m Γ o (Vl (.ref a))) (g : Good m Γ σ F H) (hx : ∀ F H, m.I F H → H a = some (.lst (vs ++ [v]))) (hv : T.p v F) (ht : TgT X m' tg T Γ Γ' js)
    (up : ∀ F' H', Gr m.U F H F' H' → m.I F' H' → Good m Γ σ F' H' → Good m' Γ σ F' (L2.upd H' a (.lst vs)))
    (k : ∀ F1 H1, Gr m.U F H F1 H1 → m.I F1 H1 → ∀ σ' F2 H2, Gr0 F1 (L2.upd H1 a (.lst vs)) F2 H2 → Good m' Γ' σ' F2 H2 → tSemS X rest D σ' H2)
    (hb : attributeBase o "pop" X.env (eval o X.env) = eval o X.env := by rfl) (hline : (apos.endLine == cpos.line) = true := by rfl)
    (hs : swapsWithSole [tg] (.Call (.Attribute o "pop" apos) [] [] cpos) pos.line X.env = pure false := by rfl) (hw : swappedStores [tg] (.Call (.Attribute o "pop" apos) [] [] cpos) X.env = pure none := by rfl)
    (h1 : (assignEach [tg] X.env).map (·.2) = [assign tg X.env] := by rfl) : tSemS X (.Assign [tg] (.Call (.Attribute o "pop" apos) [] [] cpos) pos :: rest) D σ H := fun pins s I =>
  (pss_cons (ps_asg (pe_bm0 PySem.F.plainAttrs_list PySem.F.slot_list_pop PySem.F.type_list_pop mt_pop sem hb hline) semG hs hw h1) semS).run pins s σ H D I (ho σ F H g _ fun u F1 H1 g1 i1 p1 => by
    obtain rfl : u = .ref a := p1
    refine ⟨.inl ⟨rfl, _, SqL.of (hx _ _ i1)⟩, a, vs ++ [v], v, rfl, rfl, hx _ _ i1, by simp, ?_⟩
    rw [List.dropLast_concat]
    exact ht σ F1 _ v (up F1 H1 g1 i1 (g.next g1 i1)) (T.mono _ _ _ g1.ff hv) _ fun σ' F2 H2 g2 gd2 _ => k F1 H1 g1 i1 σ' F2 H2 g2 gd2)
/-- o == [] -/
theorem t_eq0M {b : Bool} {lp : Pos} (hr : Room j X.A) (ho : EvE X m Γ o (Vl (.ref a))) (hx : ∀ F H, m.I F H → ∃ vs, H a = some (.lst vs) ∧ vs.isEmpty = b) (hm : behindInMarks .Eq (.List [] lp) = false := by rfl) : EvT X m Γ (.Compare o [.Eq] [.List [] lp] pos) (Eq b) :=
  EvT.of (pt_cmpR (op_eq0 (Nat.lt_of_succ_lt (hu_of hr))) sem sem hm) fun σ F H Q g q => ev_two ho (e_lstD ad_nil) g fun v u F1 H1 g1 gg p1 p2 => by
    obtain ⟨l, xs, rfl, h2, h3⟩ := DAt.l p2
    obtain rfl := h3.nl
    obtain ⟨vs, e1, e2⟩ := hx F1 H1 gg.i
    exact ⟨a, l, vs, p1, rfl, e1, gg.ex _ _ h2, b, by rw [e2] <;> rfl, q b F1 H1 g1 gg.i rfl⟩
/-- o.m(..), whatever it promises -/
theorem go_meth {sp : Sp} {Ps : List Ty} (c : MetX X.prog X.w X.K X.mg X.base k C mn sp) (hr : Room j X.A) (hk : k ≤ j) (hx : Passes (L2.CX X.prog X.w) X E) (ho : EvE X m Γ o (Vl (.ref x))) (ha : EvA X m Γ (e :: es) Ps) (g : Good m Γ σ F H) (hI : ∀ F H, m.I F H → ∃ dx fs, H x = some (.ins C dx fs) ∧ fs.lookup mn = none)
    (kk : ∀ vs F1 H1, Gr m.U F H F1 H1 → m.I F1 H1 → HoldsA Ps vs F1 → sp (.ref x :: vs) H1 (fun _ H2 => tSemS X rest D σ H2) E)
    (hst : starEach (e :: es) X.env = (false, eval e X.env) :: starEach es X.env := by rfl) (hpl : (backTo cpos (starEach es X.env)).any (·.1) = false := by rfl) {pl : Sem Bool}
    (ht : eval (.Call (.Attribute o mn apos) (e :: es) [] cpos) X.env = (do
      let ov ← eval o X.env
      standAt apos.atName
      let (f, first) ← holding [ov] (getMethod ov mn pl)
      callWith cpos f first (backTo cpos (starEach (e :: es) X.env)) (backToKw cpos (keywordEach [] X.env))) := by rfl) (hs : swapsWith (.Call (.Attribute o mn apos) (e :: es) [] cpos) none spos.line X.env = pure false := by rfl) :
    tSemS X (.Expr (.Call (.Attribute o mn apos) (e :: es) [] cpos) spos :: rest) D σ H := fun pins s I =>
  (pss_cons (ps_expr (pe_mx c hr hk hx sem semA hst hpl ht) hs) semS).run pins s σ H D I (ho σ F H g _ fun u F1 H1 g1 i1 p1 => by
    obtain rfl : u = .ref x := p1
    obtain ⟨dx, fs, e1, e2⟩ := hI F1 H1 i1
    exact ⟨x, dx, fs, rfl, e1, e2, ha σ F1 H1 (g.next g1 i1) _ fun vs F2 H2 g2 i2 p2 => by
      rw [List.append_nil]
      exact kk vs F2 H2 (Gr.trans g1 g2) i2 p2⟩)
end
end R60

set_option Elab.async false
set_option pp.maxSteps 400
set_option linter.all false
set_option maxRecDepth 100000
set_option maxHeartbeats 1000000
namespace R60
open PySem PySem.Spec PyProof.Rows L2
/-- try: body / finally: suite. tb W: the body's reading, W what is wished of its errors; tf: the suite behind a body that ran through; tfs: the suite with the error in flight, which goes on to Wout -/
def tFin (tb : WX → TS) (tf tfs : TS) (Wout : WX) : TS := fun D σ H => tb (wFin tfs Wout) { nx := fun σ1 H1 => tf D σ1 H1, rt := fun _ _ => False } σ H
section
variable {X : Cx} {body : List Stmt} {f₀ : Stmt} {fs : List Stmt} {pos : Pos} {tb : WX → TS} {tf tfs : TS} {Wout : WX}
theorem ps_fin (hs : X.stack = X.env :: X.outer) (hf : X.env.frame = some X.env.locals) (hex : X.ex = []) (tk : Takes X Wout)
    (hb : ∀ (W : WX) (pn : List (Addr × Obj)) (xe : Value → Shared → Prop), Takes (X.tr pn xe) W → PassesOwn (model X.prog X.w) X.A X.env xe → PSs (X.tr pn xe) body (tb W))
    (hfin : PSs X.nox (f₀ :: fs) tf) (hsu : ∀ (a : Addr) (pn : List (Addr × Obj)), PSs (X.suite a pn) (f₀ :: fs) tfs) : PS X (.Try body [] [] (f₀ :: fs) pos) (tFin tb tf tfs Wout) := by
  refine ⟨fun pins s σ H D I h => ?_⟩
  have ok := I.ok
  refine wpAny_Try_finally ?_
  refine wpAny_mono ((hb (wFin tfs Wout) (X.pn ++ pins) (fun x s₁ => wpAny (model X.prog X.w) X.A (noteFrame x X.env) (fun _ s₂ => FinallyRaised X.prog X.w X.A X.xe X.env (f₀ :: fs) (SP X pins D) x s₂) (FinallyRaised X.prog X.w X.A X.xe X.env (f₀ :: fs) (SP X pins D)) s₁)
    (fun u s' xx => ?_) PassesOwn.looking).run [] s σ H { nx := fun σ1 H1 => tf D σ1 H1, rt := fun _ _ => False } (I.toTry _) h) (fun g s1 z => ?_) (fun x s1 hx => hx)
  · exact fin_exc hs hf hex ok tk hsu xx
  · cases g with
    | ret u =>
      obtain ⟨_, _, _, _, _, q⟩ := z
      exact False.elim q
    | brk =>
      obtain ⟨_, _, _, q⟩ := z
      exact False.elim q
    | cont =>
      obtain ⟨_, _, _, q⟩ := z
      exact False.elim q
    | next =>
      obtain ⟨σ1, H1, J1, q1⟩ := z
      refine wpAny_execs_nil ?_
      refine wpAny_mono (hfin.run pins s1 σ1 H1 D ((J1.ofTry ok).wish _) q1) (fun g2 s2 q2 => ?_) fun _ _ e => False.elim e
      have q3 : SP X pins D g2 s2 := q2.unwish
      cases g2 <;> exact q3
end

section
variable {X : Cx} {m : Mu} {E : XK} {Γ : Gam} {e c o : Expr} {es : List Expr} {P R : Ty} {pos pos' p apos cpos spos : Pos} {rest : List Stmt} {D : Ends} {σ : L2.St} {F H : Hp} {α : Type} {x a C dx : Addr} {f mn : Str} {fs : List (Str × V)} {k j : Nat}
/-- try: body / finally: suite -/
theorem go_fin {body : List Stmt} {f₀ : Stmt} {fin : List Stmt} {Wout : WX} (hs : X.stack = X.env :: X.outer) (hf : X.env.frame = some X.env.locals) (hex : X.ex = []) (tk : Takes X Wout)
    (h : ∀ pn xe, Takes (X.tr pn xe) (wFin (fun D σ H => ∀ a pn, tSemS (X.suite a pn) (f₀ :: fin) D σ H) Wout) → PassesOwn (model X.prog X.w) X.A X.env xe →
      tSemS (X.tr pn xe) body { nx := fun σ1 H1 => tSemS X.nox (f₀ :: fin) { D with nx := tSemS X rest D } σ1 H1, rt := fun _ _ => False } σ H) : tSemS X (.Try body [] [] (f₀ :: fin) pos :: rest) D σ H := fun pins s I =>
  (pss_cons (ps_fin (tb := fun W D σ H => ∀ pn xe, Takes (X.tr pn xe) W → PassesOwn (model X.prog X.w) X.A X.env xe → tSemS (X.tr pn xe) body D σ H) (tf := tSemS X.nox (f₀ :: fin)) (tfs := fun D σ H => ∀ a pn, tSemS (X.suite a pn) (f₀ :: fin) D σ H) hs hf hex tk
    (fun W pn xe t q => ⟨fun pins s σ H D I h => h pn xe t q pins s I⟩) ⟨fun pins s σ H D I h => h pins s I⟩ fun a pn => ⟨fun pins s σ H D I h => h a pn pins s I⟩) semS).run pins s σ H D I h
/-- o.f = g(..), which may raise, at these slots -/
theorem go_fldC {ι α : Type} {Ts : ι → List Ty} {ff : ι → Except Str α} {enc : ι → α → Ty} {g : Str} {gp : Pos} {W : WX} (it : ι) (hc : Cls X.K C) (hn : NoAttr X.K C f) (cg : CalX X.prog X.w X.K X.mg X.base k g (spG X.K X.mg (fun _ => m0) Ts ff enc)) (hr : Room j X.A) (hk : k ≤ j) (tk : Takes X W) (ha : EvA X m Γ (e :: es) (Ts it)) (ho : EvE X m Γ o (Vl (.ref x))) (gd : Good m Γ σ F H)
    (hx : ∀ F H, m.I F H → H x = some (.ins C dx fs)) (hl : fs.length < 900) (k1 : ∀ r, ff it = .ok r → ∀ v F' H', Gr m.U F H F' H' → m.I F' H' → (enc it r).p v F' → tSemS X rest D σ (L2.upd H' x (.ins C dx (putF f v fs))))
    (k2 : ∀ z, ff it = .error z → ∀ Cc d F' H', Gr m.U F H F' H' → m.I F' H' → ErrM X.K X.mg Cc → H' d = some (errD z) → W (.ref Cc) (some d) σ H')
    (hg : Gl X g := by rfl) (hdb : (g == ("__debug__" : Str)) = false := by decide) (he : starEach (e :: es) X.env = (false, eval e X.env) :: starEach es X.env := by rfl) (hpl : (backTo cpos (starEach es X.env)).any (·.1) = false := by rfl)
    (hs : swapsWith (.Call (.Name g gp) (e :: es) [] cpos) (some (.Attribute o f pos')) pos.line X.env = pure false := by rfl) : tSemS X (.Assign [.Attribute o f pos'] (.Call (.Name g gp) (e :: es) [] cpos) pos :: rest) D σ H := by
  obtain ⟨fa, fd, ps, h1, h2, h3, h4⟩ := cg
  exact fun pins s I => (pss_cons (ps_fld sem (pe_callS h4 (hr.mono hk) hg h1 h2 h3 (fun σ => passAt tk σ) semA hdb he hpl) hs) semS).run pins s σ H D I (ha σ F H gd _ fun vs F1 H1 g1 i1 p1 => by
    refine ⟨it, F1, g1.fh, trivial, p1, ?_⟩
    cases hf : ff it with
    | ok r => exact fun v F2 H2 g2 _ p2 => ho σ F2 H2 ((gd.next g1 i1).nx0 g2) _ fun u F3 H3 g3 i3 p3 => ⟨x, C, dx, fs, p3, hx _ _ i3, hc, hn, by omega, k1 r hf v F3 H3 ((g1.trans g2.weak).trans g3) i3 ((enc it r).mono _ _ _ g3.ff p2)⟩
    | error z => exact fun Cc d F2 H2 g2 _ e1 e2 => k2 z hf Cc d F2 H2 (g1.trans g2.weak) (m.st _ _ _ _ g2 i1) e1 e2)
/-- o.f = a new list -/
theorem go_fldN {value : Expr} {Ps : List Ty} (hc : Cls X.K C) (hn : NoAttr X.K C f) (hv : EvN X m Γ value Ps) (ho : EvE X m Γ o (Vl (.ref x))) (g : Good m Γ σ F H) (hx : ∀ F H, m.I F H → H x = some (.ins C dx fs)) (hl : fs.length < 900)
    (k : ∀ a acc F' H', Gr m.U F H F' H' → m.I F' H' → H a = none → F' a = none → H' a = some (.lst acc) → HoldsA Ps acc F' → tSemS X rest D σ (L2.upd H' x (.ins C dx (putF f (.ref a) fs)))) (hs : swapsWith value (some (.Attribute o f pos')) pos.line X.env = pure false := by rfl) : tSemS X (.Assign [.Attribute o f pos'] value pos :: rest) D σ H := fun pins s I =>
  (pss_cons (ps_fld sem sem hs) semS).run pins s σ H D I (hv σ F H g _ fun a acc F1 H1 g1 i1 h0 f0 hl' p1 => ho σ F1 H1 (g.next g1 i1) _ fun u F2 H2 g2 i2 p2 => ⟨x, C, dx, fs, p2, hx _ _ i2, hc, hn, by omega, by
    have nU : ¬ m.U a := fun z => m.up F H a g.i z h0
    exact k a acc F2 H2 (Gr.trans g1 g2) i2 h0 (g2.nw a f0 (by rw [hl']; simp)) (g2.hh _ _ nU hl') (p1.mono g2.ff)⟩)
/-- return a new list -/
theorem go_retN {Ps : List Ty} (h : EvN X m Γ e Ps) (g : Good m Γ σ F H) (k : NewL m F H D.rt Ps) : tSemS X (.Return (some e) pos :: rest) D σ H := fun pins s I => (pss_cons (ps_ret sem) semS).run pins s σ H D I (h σ F H g _ k)
/-- for over a list of one -/
theorem go_for1 {tg iter : Expr} {body : List Stmt} {T : Ty} {Γ1 : Gam} {js : List Nat} (hp : PassesOwn (model X.prog X.w) X.A X.env X.xe) (hc : X.calm = true) (ho : EvE X m Γ iter (LsT [T])) (g : Good m Γ σ F H) (ht : TgT X m tg T Γ Γ1 js)
    (k : ∀ σ2 F2 H2, Gr m.U F H F2 H2 → Good m Γ1 σ2 F2 H2 → ∀ N : L2.St → Hp → Prop, (∀ σ3 F3 H3, Ex F2 F3 → Ex F3 H3 → tSemS X rest D σ3 H3 → N σ3 H3) → tSemS X body { nx := N, ct := N, bk := tSemS X rest D, rt := D.rt } σ2 H2) (hs : ∀ x, foldedSetIterable iter X.env x = pure x := by intro _; rfl) : tSemS X (.For tg iter body [] pos :: rest) D σ H := fun pins s I =>
  (pss_cons (ps_for hp hc (pi_list sem) semG semS hs) semS).run pins s σ H D I (ho σ F H g _ fun v F1 H1 g1 i1 ⟨a, vs, ev, h2, h3⟩ => by
    obtain ⟨u, rfl, p1⟩ := one_of h3
    subst ev
    refine ⟨a, rfl, ⟨[u], SqL.of (g1.fh _ _ h2)⟩, fun i n σ' H' => (i = 0 ∧ n = 1 ∧ σ' = σ ∧ H' = H1) ∨ (i = 1 ∧ n = 0 ∧ (∃ F', Ex F1 F' ∧ Ex F' H') ∧ tSemS X rest D σ' H'), ⟨1, .inl ⟨rfl, rfl, rfl, rfl⟩⟩, ?_⟩
    rintro i n σ' H' (⟨rfl, rfl, rfl, rfl⟩ | ⟨rfl, rfl, ⟨F', e1, e2⟩, hR⟩)
    · refine .inr ⟨⟨[u], u, SqL.of (g1.fh _ _ h2), rfl⟩, fun σ3 H3 => (∃ F', Ex F1 F' ∧ Ex F' H3) ∧ tSemS X rest D σ3 H3, fun σ3 H3 h => ⟨0, by decide, .inr ⟨rfl, rfl, h.1, h.2⟩⟩, ?_⟩
      rintro y H2 ⟨rfl, hy⟩
      have hu := hy [u] (SqL.of (g1.fh _ _ h2))
      have hu : u = y := by simpa using hu
      subst hu
      refine ht σ' F1 _ u (g.next g1 i1) p1 _ fun σ2 F2 H2 g2 gd2 _ => ?_
      exact k σ2 F2 H2 (g1.trans g2.weak) gd2 _ fun σ3 F3 H3 q1 q2 q3 => ⟨⟨F3, g2.ff.trans q1, q2⟩, q3⟩
    · exact .inl ⟨⟨[u], SqL.of (e2 _ _ (e1 _ _ h2)), by simp⟩, hR⟩)
end
section
variable {X : Cx} {m : Mu} {E : XK} {Γ : Gam} {e c o : Expr} {pos pos' p apos cpos spos : Pos} {rest : List Stmt} {D : Ends} {σ : L2.St} {F H : Hp} {x a C dx : Addr} {fs : List (Str × V)}
/-- o.f1, o.f2 = e1, e2 -/
theorem go_two {o' e1 e2 : Expr} {f1 f2 : Str} {p1 p2 tp vp : Pos} {k1 k2 : Nat} {T1 T2 : Ty} (hcm : X.calm = true) (hc : Cls X.K C) (hn1 : NoAttr X.K C f1) (hn2 : NoAttr X.K C f2) (h1 : EvE X m Γ e1 T1) (h2 : EvE X m Γ e2 T2) (ho : EvE X m0 Γ o (Vl (.ref x))) (ho' : EvE X m0 Γ o' (Vl (.ref x))) (g : Good m Γ σ F H)
    (hx : ∀ F H, m.I F H → H x = some (.ins C dx fs) ∧ F x = none) (hl : fs.length < 900) (hl2 : ∀ v, (putF f1 v fs).length < 900)
    (k : ∀ v1 v2 F1 H1 F2 H2 F3 H3, Gr m.U F H F1 H1 → m.I F1 H1 → T1.p v1 F1 → T2.p v2 F1 → Gr0 F1 H1 F2 H2 → Gr0 F2 (L2.upd H2 x (.ins C dx (putF f1 v1 fs))) F3 H3 → tSemS X rest D σ (L2.upd H3 x (.ins C dx (putF f2 v2 (putF f1 v1 fs)))))
    (hn : (assignEach [.Attribute o f1 p1, .Attribute o' f2 p2] X.env).length = 2 := by rfl) (hst : (assignEach [.Attribute o f1 p1, .Attribute o' f2 p2] X.env).findIdx? (·.1) = none := by rfl)
    (hs : swapsWithSole [.Tuple [.Attribute o f1 p1, .Attribute o' f2 p2] k1 tp] (.Tuple [e1, e2] k2 vp) pos.line X.env = pure false := by rfl) (hw : swappedStores [.Tuple [.Attribute o f1 p1, .Attribute o' f2 p2] k1 tp] (.Tuple [e1, e2] k2 vp) X.env = pure none := by rfl)
    (ha : (assignEach [.Tuple [.Attribute o f1 p1, .Attribute o' f2 p2] k1 tp] X.env).map (·.2) = [assign (.Tuple [.Attribute o f1 p1, .Attribute o' f2 p2] k1 tp) X.env] := by rfl) (hs1 : starEach [e1, e2] X.env = (false, eval e1 X.env) :: starEach [e2] X.env := by rfl) (hs2 : starEach [e2] X.env = [(false, eval e2 X.env)] := by rfl) :
    tSemS X (.Assign [.Tuple [.Attribute o f1 p1, .Attribute o' f2 p2] k1 tp] (.Tuple [e1, e2] k2 vp) pos :: rest) D σ H := by
  have ht : EvE X m Γ (.Tuple [e1, e2] k2 vp) (TuT X.K [T1, T2]) := e_tup (a_cons h1 (a_cons h2 a_nil hs2) hs1) (by show 2 ≤ sizeLine; decide) fun vs F p q1 q2 => ⟨p, vs, rfl, SqT.of q2, q1⟩
  exact fun pins s I => (pss_cons (ps_asg sem (pg_tup hcm (pgs_cons (pg_fld sem) (pgs_cons (pg_fld sem) pgs_nil)) hn hst) hs hw ha) semS).run pins s σ H D I (ht σ F H g _ fun v F1 H1 g1 i1 ⟨a, vs, ev, q1, q2⟩ => by
    subst ev
    obtain ⟨v1, v2, rfl, t1, t2⟩ := two_of q2
    refine ⟨a, _, rfl, ex_sqt g1.fh q1, rfl, v1, [v2], rfl, ho σ F1 H1 ⟨g1.fh, trivial, g.h.mono g1.ff⟩ _ fun u F2 H2 g2 _ p2 => ?_⟩
    have i2 := m.st _ _ _ _ g2 i1
    obtain ⟨hx2, fx2⟩ := hx _ _ i2
    refine ⟨x, C, dx, fs, p2, hx2, hc, hn1, by omega, v2, [], rfl, ?_⟩
    have ex2 : Ex F2 (L2.upd H2 x (.ins C dx (putF f1 v1 fs))) := fun c u q => by
      rw [upd_ne (ne_of_none q fx2)]
      exact g2.fh _ _ q
    refine ho' σ F2 _ ⟨ex2, trivial, g.h.mono (g1.ff.trans g2.ff)⟩ _ fun u F3 H3 g3 _ p3 => ⟨x, C, dx, putF f1 v1 fs, p3, g3.same _ _ upd_same, hc, hn2, (by have := hl2 v1; omega), rfl, k v1 v2 F1 H1 F2 H2 F3 H3 g1 i1 t1 t2 g2 g3⟩)
end
/-! ### readers of things that may change, that give a new list -/
def spNm {ι : Type} (m : ι → Mu) (Ts Ps : ι → List Ty) : Sp := fun vs H Q _ => ∃ i F, Ex F H ∧ (m i).I F H ∧ HoldsA (Ts i) vs F ∧ NewL (m i) F H Q (Ps i)
section
variable {P : Program} {w : World} {K : PySem.W.Frag} {mg : Str → Option Value} {base : Heap} {C : Addr} {mn : Str} {k : Nat}
theorem met_blkNm {ι : Type} {m : ι → Mu} {Ts Ps : ι → List Ty} {Γ : ι → Gam} {qual : Str} {st : Stmt} {N ps : List Str} (D : DefM K C mn qual st) (S : FnScope N ps (defScope st)) (b : BindH mn qual st ps) (hl : ∀ i, (Ts i).length = ps.length) (hΓ : ∀ i, (Ts i).map some ++ List.replicate (N.length - ps.length) none = Γ i) {e : Expr} {pos : Pos} (hst : defBody st = [.Return (some e) pos])
    (hb : ∀ i f cdv A outer s H E, Room k (cxD P w K mg base qual st N f cdv A outer s H E).A → EvN (cxD P w K mg base qual st N f cdv A outer s H E) (m i) (Γ i) e (Ps i)) :
    MetX P w K mg base (k + 1) C mn (spNm m Ts Ps) := met_of D S b (fun vs H Q E ⟨i, F, _, _, hA, _⟩ => by rw [hA.len, hl]) (by
  intro f cdv A outer s H vs Q E hr h
  obtain ⟨i, F, ex, iI, hA, c⟩ := h
  refine ⟨_, semS, ?_⟩
  rw [hst]
  refine go_retN (hb i f cdv A outer _ H E hr) ⟨ex, iI, ?_⟩ c
  rw [← hΓ i]
  unfold L2.start
  have e : vs.length = ps.length := by rw [hA.len, hl]
  rw [e]
  exact hA.holds)
end
end R60

set_option Elab.async false
set_option pp.maxSteps 400
set_option linter.all false
set_option maxRecDepth 100000
set_option maxHeartbeats 4000000
namespace R60
open PySem PySem.Spec PyProof.Rows L2
/-! the deck -/
structure Dk where
  b : Bk
  past : List (Deed × Bk)
  ahead : List (Deed × Bk)
def dkF (bv ev : V) (pl al : Addr) (u : Int) : List (Str × V) := [("book", bv), ("elder", ev), ("past", .ref pl), ("ahead", .ref al), ("under", .int u)]
def entT (K : PySem.W.Frag) (MC TC : Addr) (e : Deed × Bk) : Ty := TuT K [Is K (.lst [e.1.d]), BookT K MC TC e.2]
def DkI (K : PySem.W.Frag) (MC TC DC x pl al : Addr) (d : Dk) (u : Int) (F H : Hp) : Prop := ∃ dx bv ev ps as, H x = some (.ins DC dx (dkF bv ev pl al u)) ∧ H pl = some (.lst ps) ∧ H al = some (.lst as) ∧ (F x = none ∧ F pl = none ∧ F al = none) ∧ pl ≠ al ∧
  (BookT K MC TC d.b).p bv F ∧ HoldsA (d.past.map (entT K MC TC)) ps F ∧ HoldsA (d.ahead.map (entT K MC TC)) as F
def mDk (K : PySem.W.Frag) (MC TC DC x pl al : Addr) (d : Dk) (u : Int) : Mu where
  U b := b = x ∨ b = pl ∨ b = al
  I := DkI K MC TC DC x pl al d u
  st := fun F H F' H' g ⟨dx, bv, ev, ps, as, h1, h2, h3, ⟨f1, f2, f3⟩, ne, t1, t2, t3⟩ => ⟨dx, bv, ev, ps, as, g.same _ _ h1, g.same _ _ h2, g.same _ _ h3, ⟨g.nw _ f1 (by rw [h1]; simp), g.nw _ f2 (by rw [h2]; simp), g.nw _ f3 (by rw [h3]; simp)⟩, ne, (BookT K MC TC d.b).mono _ _ _ g.ff t1, t2.mono g.ff, t3.mono g.ff⟩
  up := fun F H b ⟨dx, bv, ev, ps, as, h1, h2, h3, _⟩ hb => by
    rcases hb with rfl | rfl | rfl
    · rw [h1]; simp
    · rw [h2]; simp
    · rw [h3]; simp
  loc := fun F H H' h ⟨dx, bv, ev, ps, as, h1, h2, h3, r⟩ => ⟨dx, bv, ev, ps, as, (h _ (.inl rfl)).trans h1, (h _ (.inr (.inl rfl))).trans h2, (h _ (.inr (.inr rfl))).trans h3, r⟩
  add := fun F H p o hp f0 ⟨dx, bv, ev, ps, as, h1, h2, h3, ⟨f1, f2, f3⟩, ne, t1, t2, t3⟩ => by
    have ex : Ex F (upd F p o) := fun b u z => by rw [upd_ne (ne_of_none z f0)]; exact z
    refine ⟨dx, bv, ev, ps, as, h1, h2, h3, ⟨?_, ?_, ?_⟩, ne, (BookT K MC TC d.b).mono _ _ _ ex t1, t2.mono ex, t3.mono ex⟩
    · rw [upd_ne (fun z => hp (.inl z.symm))]; exact f1
    · rw [upd_ne (fun z => hp (.inr (.inl z.symm)))]; exact f2
    · rw [upd_ne (fun z => hp (.inr (.inr z.symm)))]; exact f3
theorem lk_dkF {bv ev : V} {pl al : Addr} {u : Int} : (dkF bv ev pl al u).lookup ("book" : Str) = some bv ∧ (dkF bv ev pl al u).lookup ("elder" : Str) = some ev ∧ (dkF bv ev pl al u).lookup ("past" : Str) = some (.ref pl) ∧ (dkF bv ev pl al u).lookup ("ahead" : Str) = some (.ref al) ∧ (dkF bv ev pl al u).lookup ("under" : Str) = some (.int u) := by
  have hit : ∀ {k : Str} {v : V} {r : List (Str × V)}, List.lookup k ((k, v) :: r) = some v := fun {k v r} => by
    have e : (k == k) = true := beq_self_eq_true k
    simp only [List.lookup, e]
  have mis : ∀ {k g : Str} {v : V} {r : List (Str × V)}, (k == g) = false → List.lookup k ((g, v) :: r) = List.lookup k r := fun {k g v r} h => by simp only [List.lookup, h]
  unfold dkF
  refine ⟨hit, ?_, ?_, ?_, ?_⟩
  · exact (mis (by decide +kernel)).trans hit
  · exact (mis (by decide +kernel)).trans ((mis (by decide +kernel)).trans hit)
  · exact (mis (by decide +kernel)).trans ((mis (by decide +kernel)).trans ((mis (by decide +kernel)).trans hit))
  · exact (mis (by decide +kernel)).trans ((mis (by decide +kernel)).trans ((mis (by decide +kernel)).trans ((mis (by decide +kernel)).trans hit)))
theorem pt_dkF {bv ev bv' ev' : V} {pl al pl' al' : Addr} {u u' : Int} : putF "book" bv' (dkF bv ev pl al u) = dkF bv' ev pl al u ∧ putF "elder" ev' (dkF bv ev pl al u) = dkF bv ev' pl al u ∧ putF "past" (.ref pl') (dkF bv ev pl al u) = dkF bv ev pl' al u ∧ putF "ahead" (.ref al') (dkF bv ev pl al u) = dkF bv ev pl al' u ∧ putF "under" (.int u') (dkF bv ev pl al u) = dkF bv ev pl al u' := by
  have hit : ∀ {f : Str} {v x : V} {r : List (Str × V)}, putF f v ((f, x) :: r) = (f, v) :: r := fun {f v x r} => if_pos rfl
  have mis : ∀ {f g : Str} {v x : V} {r : List (Str × V)}, ¬ g = f → putF f v ((g, x) :: r) = (g, x) :: putF f v r := fun {f g v x r} h => if_neg h
  unfold dkF
  refine ⟨hit, ?_, ?_, ?_, ?_⟩
  · rw [mis (by decide +kernel), hit]
  · rw [mis (by decide +kernel), mis (by decide +kernel), hit]
  · rw [mis (by decide +kernel), mis (by decide +kernel), mis (by decide +kernel), hit]
  · rw [mis (by decide +kernel), mis (by decide +kernel), mis (by decide +kernel), mis (by decide +kernel), hit]
theorem lk_none {bv ev : V} {pl al : Addr} {u : Int} {n : Str} (h : ([("book" : Str), "elder", "past", "ahead", "under"].all fun f => !(n == f)) = true) : (dkF bv ev pl al u).lookup n = none := by
  unfold dkF
  simp only [List.all_cons, List.all_nil, Bool.and_true, Bool.and_eq_true, Bool.not_eq_true'] at h
  obtain ⟨h1, h2, h3, h4, h5⟩ := h
  simp only [List.lookup, h1, h2, h3, h4, h5]
/-! reading it -/
section
variable {w : World} {K : PySem.W.Frag} {mg : Str → Option Value} {base : Heap} {MC TC DC : Addr}
structure DkR where
  x : Addr
  pl : Addr
  al : Addr
  d : Dk
abbrev mDr (K : PySem.W.Frag) (MC TC DC : Addr) (i : DkR) : Mu := mDk K MC TC DC i.x i.pl i.al i.d 0
variable {x pl al : Addr} {dk : Dk} {u : Int}
theorem fb_book : ∀ F H, (mDk K MC TC DC x pl al dk u).I F H → ∃ dx fs v, H x = some (.ins DC dx fs) ∧ fs.lookup ("book" : Str) = some v ∧ (BookT K MC TC dk.b).p v F := fun F H ⟨dx, bv, ev, ps, as, h1, h2, h3, _, _, t1, _⟩ => ⟨dx, _, bv, h1, lk_dkF.1, t1⟩
theorem fb_past : ∀ F H, (mDk K MC TC DC x pl al dk u).I F H → ∃ dx fs v, H x = some (.ins DC dx fs) ∧ fs.lookup ("past" : Str) = some v ∧ (Vl (.ref pl)).p v F := fun F H ⟨dx, bv, ev, ps, as, h1, _⟩ => ⟨dx, _, _, h1, lk_dkF.2.2.1, rfl⟩
theorem fb_ahead : ∀ F H, (mDk K MC TC DC x pl al dk u).I F H → ∃ dx fs v, H x = some (.ins DC dx fs) ∧ fs.lookup ("ahead" : Str) = some v ∧ (Vl (.ref al)).p v F := fun F H ⟨dx, bv, ev, ps, as, h1, _⟩ => ⟨dx, _, _, h1, lk_dkF.2.2.2.1, rfl⟩
theorem fb_under : ∀ F H, (mDk K MC TC DC x pl al dk u).I F H → ∃ dx fs v, H x = some (.ins DC dx fs) ∧ fs.lookup ("under" : Str) = some v ∧ (Is K (.int u)).p v F := fun F H ⟨dx, bv, ev, ps, as, h1, _⟩ => ⟨dx, _, _, h1, lk_dkF.2.2.2.2, .int .nil⟩
def namesOf (b : Bk) : List Str := b.map (·.1)
def p_Deck_names (K : PySem.W.Frag) (mg : Str → Option Value) (MC TC DC : Addr) : Sp := spG (ι := { i : DkR // i.d.b.length < 64 }) (α := Unit) K mg (fun i => mDr K MC TC DC i.1) (fun i => [Vl (.ref i.1.x)]) (fun _ => .ok ()) (fun i _ => Is K (.lst ((srtS (namesOf i.1.d.b)).map .str)))
theorem f_Deck_names (T : Txt w K mg MC TC DC) : MetX PG w K mg base 1 DC "names" (p_Deck_names K mg MC TC DC) := by
  refine met_blk T.m_Deck_names sc_Deck_names bd_Deck_names (fun _ => rfl) (fun _ => rfl) ?_
  rintro ⟨i, hl⟩ f cdv A outer s H E hr
  exact b_retD (v := ()) (e_sortDS (kts := tk i.d.b (TapeT K MC TC)) (ns := namesOf i.d.b) rfl T.n_sorted (by unfold tk namesOf; rw [List.map_map, List.map_map] <;> rfl) (by unfold namesOf; rw [List.length_map]; exact hl) (e_fldM T.cl_Deck T.na_Deck_book (e_var 0 rfl) fb_book)) rfl rfl
def p_Deck_tape (K : PySem.W.Frag) (mg : Str → Option Value) (MC TC DC : Addr) : Sp := spG (ι := DkR × Str) K mg (fun i => mDr K MC TC DC i.1) (fun i => [Vl (.ref i.1.x), Is K (.str i.2)]) (fun i => tapeOf i.1.d.b i.2) (fun _ p => TapeT K MC TC p)
theorem f_Deck_tape (T : Txt w K mg MC TC DC) : MetX PG w K mg base 2 DC "tape" (p_Deck_tape K mg MC TC DC) := by
  refine met_blk T.m_Deck_tape sc_Deck_tape bd_Deck_tape (fun _ => rfl) (fun _ => rfl) ?_
  rintro ⟨i, n⟩ f cdv A outer s H E hr
  exact b_retX (e_callX (i.d.b, n) (f_tape_of T) hr (by decide) passE Sub.zero (a_cons (e_fldM T.cl_Deck T.na_Deck_book (e_var 0 rfl) fb_book) (a_cons (e_var 1 rfl) a_nil)))
def p_Deck_busy (K : PySem.W.Frag) (mg : Str → Option Value) (MC TC DC : Addr) : Sp := spG (ι := DkR) (α := Unit) K mg (fun i => mDr K MC TC DC i) (fun i => [Vl (.ref i.x)]) (fun _ => .ok ()) (fun i _ => Is K (.bl false))
theorem f_Deck_busy (T : Txt w K mg MC TC DC) : MetX PG w K mg base 1 DC "busy" (p_Deck_busy K mg MC TC DC) := by
  refine met_blk T.m_Deck_busy sc_Deck_busy bd_Deck_busy (fun _ => rfl) (fun _ => rfl) ?_
  rintro i f cdv A outer s H E hr
  exact b_retD (v := ()) (e_gt (e_fldM (P := Is K (.int 0)) T.cl_Deck T.na_Deck_under (e_var 0 rfl) fb_under) e_int) rfl rfl
end
end R60

set_option Elab.async false
set_option pp.maxSteps 400
set_option linter.all false
set_option maxRecDepth 100000
set_option maxHeartbeats 4000000
namespace R60
open PySem PySem.Spec PyProof.Rows L2
section
variable {w : World} {K : PySem.W.Frag} {mg : Str → Option Value} {base : Heap} {MC TC DC : Addr}
def p_Deck_deeds (K : PySem.W.Frag) (MC TC DC : Addr) : Sp := spNm (ι := { i : DkR // i.d.past.length ≤ 1000 }) (fun i => mDr K MC TC DC i.1) (fun i => [Vl (.ref i.1.x)]) (fun i => i.1.d.past.map fun e => Is K (.lst [e.1.d]))
theorem f_Deck_deeds (T : Txt w K mg MC TC DC) : MetX PG w K mg base 1 DC "deeds" (p_Deck_deeds K MC TC DC) := by
  refine met_blkNm T.m_Deck_deeds sc_Deck_deeds bd_Deck_deeds (fun _ => rfl) (fun _ => rfl) rfl ?_
  rintro ⟨i, hl⟩ f cdv A outer s H E hr
  refine n_lcAll (xs := i.d.past) (Y := YL i.d.past (entT K MC TC)) (fun e => [some (Vl (.ref i.x)), some (Is K (.lst [e.1.d])), some (BookT K MC TC e.2)]) [1, 2] (fun e => Is K (.lst [e.1.d])) rfl sc_Deck_deeds.nd (i_listM (a := i.pl) (e_fldM T.cl_Deck T.na_Deck_past (e_var 0 rfl) fb_past) fun F H ⟨dx, bv, ev, ps, as, h1, h2, h3, _, _, t1, t2, t3⟩ => ⟨ps, h2, t2⟩) (Nat.le_trans hl (by decide))
    (blkOk_by (own := [("deeds", 1), ("begun", 2)]) (N := ["self", "deeds", "begun"]) (sc := defScope s_Deck_deeds) (by decide +kernel))
    (fun k e he _ _ _ _ _ => tgY he (tg_tup rfl (tg_cons (tg_name 1 sc_Deck_deeds.nd) (tg_cons (tg_name 2 sc_Deck_deeds.nd) tg_nil)) fun v F p => p)) (fun e he _ _ _ _ _ => e_list T.n_list (e_var 1 rfl))
theorem pt_book {bv ev bv' : V} {pl al : Addr} {u : Int} : putF "book" bv' (dkF bv ev pl al u) = dkF bv' ev pl al u := (pt_dkF (ev' := ev) (pl' := pl) (al' := al) (u' := u)).1
theorem pt_elder {bv ev ev' : V} {pl al : Addr} {u : Int} : putF "elder" ev' (dkF bv ev pl al u) = dkF bv ev' pl al u := (pt_dkF (bv' := bv) (pl' := pl) (al' := al) (u' := u)).2.1
theorem pt_past {bv ev : V} {pl al pl' : Addr} {u : Int} : putF "past" (.ref pl') (dkF bv ev pl al u) = dkF bv ev pl' al u := (pt_dkF (bv' := bv) (ev' := ev) (al' := al) (u' := u)).2.2.1
theorem pt_ahead {bv ev : V} {pl al al' : Addr} {u : Int} : putF "ahead" (.ref al') (dkF bv ev pl al u) = dkF bv ev pl al' u := (pt_dkF (bv' := bv) (ev' := ev) (pl' := pl) (u' := u)).2.2.2.1
theorem pt_under {bv ev : V} {pl al : Addr} {u u' : Int} : putF "under" (.int u') (dkF bv ev pl al u) = dkF bv ev pl al u' := (pt_dkF (bv' := bv) (ev' := ev) (pl' := pl) (al' := al)).2.2.2.2
/-! undo, redo -/
structure FxI (F0 : Hp) (DC x pl al dx : Addr) (fs : List (Str × V)) (ps as : List V) (F H : Hp) : Prop where
  e0 : Ex F0 F
  hx : H x = some (.ins DC dx fs)
  hp : H pl = some (.lst ps)
  ha : H al = some (.lst as)
  ne : pl ≠ al
  fx : F x = none
  fp : F pl = none
  fa : F al = none
def mFx (F0 : Hp) (DC x pl al dx : Addr) (fs : List (Str × V)) (ps as : List V) : Mu where
  U b := b = x ∨ b = pl ∨ b = al
  I := FxI F0 DC x pl al dx fs ps as
  st := fun F H F' H' g h => ⟨h.e0.trans g.ff, g.same _ _ h.hx, g.same _ _ h.hp, g.same _ _ h.ha, h.ne, g.nw _ h.fx (by rw [h.hx]; simp), g.nw _ h.fp (by rw [h.hp]; simp), g.nw _ h.fa (by rw [h.ha]; simp)⟩
  up := fun F H b h hb => by
    rcases hb with rfl | rfl | rfl
    · rw [h.hx]; simp
    · rw [h.hp]; simp
    · rw [h.ha]; simp
  loc := fun F H H' q h => ⟨h.e0, (q _ (.inl rfl)).trans h.hx, (q _ (.inr (.inl rfl))).trans h.hp, (q _ (.inr (.inr rfl))).trans h.ha, h.ne, h.fx, h.fp, h.fa⟩
  add := fun F H p o hp f0 h => by
    refine ⟨h.e0.trans fun b u z => by rw [upd_ne (ne_of_none z f0)]; exact z, h.hx, h.hp, h.ha, h.ne, ?_, ?_, ?_⟩
    · rw [upd_ne (fun z => hp (.inl z.symm))]; exact h.fx
    · rw [upd_ne (fun z => hp (.inr (.inl z.symm)))]; exact h.fp
    · rw [upd_ne (fun z => hp (.inr (.inr z.symm)))]; exact h.fa
section
variable {F0 : Hp} {x pl al dx : Addr} {fs fs' : List (Str × V)} {ps ps' as as' : List V} {F H : Hp}
theorem FxI.xp (h : FxI F0 DC x pl al dx fs ps as F H) : x ≠ pl := fun z => by
  have := h.hx
  rw [z, h.hp] at this
  cases this
theorem FxI.xa (h : FxI F0 DC x pl al dx fs ps as F H) : x ≠ al := fun z => by
  have := h.hx
  rw [z, h.ha] at this
  cases this
theorem FxI.ux (h : FxI F0 DC x pl al dx fs ps as F H) : FxI F0 DC x pl al dx fs' ps as F (upd H x (.ins DC dx fs')) := ⟨h.e0, upd_same, by rw [upd_ne (Ne.symm h.xp)]; exact h.hp, by rw [upd_ne (Ne.symm h.xa)]; exact h.ha, h.ne, h.fx, h.fp, h.fa⟩
theorem FxI.upp (h : FxI F0 DC x pl al dx fs ps as F H) : FxI F0 DC x pl al dx fs ps' as F (upd H pl (.lst ps')) := ⟨h.e0, by rw [upd_ne h.xp]; exact h.hx, upd_same, by rw [upd_ne (Ne.symm h.ne)]; exact h.ha, h.ne, h.fx, h.fp, h.fa⟩
theorem FxI.upa (h : FxI F0 DC x pl al dx fs ps as F H) : FxI F0 DC x pl al dx fs ps as' F (upd H al (.lst as')) := ⟨h.e0, by rw [upd_ne h.xa]; exact h.hx, by rw [upd_ne h.ne]; exact h.hp, upd_same, h.ne, h.fx, h.fp, h.fa⟩
/-- at one of its places, the rest as it was -/
theorem Gr.at_ {U : Addr → Prop} {F H F1 H1 : Hp} {b : Addr} {o : HO} (g : Gr U F H F1 H1) (hu : U b) (hb : H1 b ≠ none) (fb : F1 b = none) : Gr U F H F1 (upd H1 b o) := by
  refine ⟨g.ff, fun c u q => ?_, fun c u n q => ?_, fun c q => ?_, g.nw⟩
  · rw [upd_ne (ne_of_none q fb)]
    exact g.fh _ _ q
  · rw [upd_ne (fun z => n (by rw [z]; exact hu))]
    exact g.hh _ _ n q
  · by_cases h : c = b
    · subst h
      rw [upd_same] at q
      cases q
    · rw [upd_ne h] at q
      exact g.dm _ q
theorem Good.in_ {m m' : Mu} {Γ : Gam} {σ : L2.St} {F H F' H' : Hp} (g : Good m Γ σ F H) (ff : Ex F F') (fh : Ex F' H') (i : m'.I F' H') : Good m' Γ σ F' H' := ⟨fh, i, g.h.mono ff⟩
theorem ex_at {F H : Hp} {b : Addr} {o : HO} (fh : Ex F H) (fb : F b = none) : Ex F (upd H b o) := fun c u q => by
  rw [upd_ne (ne_of_none q fb)]
  exact fh _ _ q
end
def p_Deck_undo (K : PySem.W.Frag) (mg : Str → Option Value) (MC TC DC : Addr) : Sp := fun vs H Q E => ∃ (i : DkR) (F : Hp), vs = [.ref i.x] ∧ Ex F H ∧ (mDr K MC TC DC i).I F H ∧ i.d.past.length ≤ 1000 ∧ i.d.ahead.length ≤ 1000 ∧
  (i.d.past = [] → ∀ C d F' H', Gr (mDr K MC TC DC i).U F H F' H' → (mDr K MC TC DC i).I F' H' → ErrM K mg C → H' d = some (errD "nothingleft") → E (.ref C) (some d) H') ∧
  (∀ ps e, i.d.past = ps ++ [e] → ∀ a acc F' H', Gr (mDr K MC TC DC i).U F H F' H' → (mDk K MC TC DC i.x i.pl i.al ⟨e.2, ps, i.d.ahead ++ [(e.1, i.d.b)]⟩ 0).I F' H' → H a = none → F' a = none → H' a = some (.lst acc) → HoldsA [Is K e.1.d] acc F' → Q (.ref a) H')
theorem fx_look {F0 : Hp} {x pl al dx : Addr} {fs : List (Str × V)} {ps as : List V} {f : Str} {v : V} {P : Ty} (h : fs.lookup f = some v) (t : P.p v F0) : ∀ F H, (mFx F0 DC x pl al dx fs ps as).I F H → ∃ dx fs v, H x = some (.ins DC dx fs) ∧ fs.lookup f = some v ∧ P.p v F :=
  fun F H (q : FxI F0 DC x pl al dx fs ps as F H) => ⟨dx, fs, v, q.hx, h, P.mono _ _ _ q.e0 t⟩
theorem FxI.dk {F0 F H : Hp} {x pl al dx : Addr} {bv ev : V} {u : Int} {ps as : List V} {d : Dk} (h : FxI F0 DC x pl al dx (dkF bv ev pl al u) ps as F H) (t1 : (BookT K MC TC d.b).p bv F) (t2 : HoldsA (d.past.map (entT K MC TC)) ps F) (t3 : HoldsA (d.ahead.map (entT K MC TC)) as F) : DkI K MC TC DC x pl al d u F H :=
  ⟨dx, bv, ev, ps, as, h.hx, h.hp, h.ha, ⟨h.fx, h.fp, h.fa⟩, h.ne, t1, t2, t3⟩
theorem holdsA_snoc1 {F : Hp} {Ts : List Ty} {T : Ty} {vs : List V} {v : V} (h : HoldsA Ts vs F) (p : T.p v F) : HoldsA (Ts ++ [T]) (vs ++ [v]) F := holdsA_app h ⟨p, trivial⟩
theorem holdsA_unsnoc {F : Hp} : ∀ {Ts : List Ty} {T : Ty} {vs : List V}, HoldsA (Ts ++ [T]) vs F → ∃ us v, vs = us ++ [v] ∧ HoldsA Ts us F ∧ T.p v F
  | [], T, vs, h => by
    obtain ⟨v, rfl, p⟩ := one_of h
    exact ⟨[], v, rfl, trivial, p⟩
  | S :: Ts, T, v :: vs, h => by
    obtain ⟨us, u, rfl, h1, h2⟩ := holdsA_unsnoc h.2
    exact ⟨v :: us, u, rfl, ⟨h.1, h1⟩, h2⟩
theorem empty_of {α : Type} {F : Hp} {xs : List α} {enc : α → Ty} {vs : List V} (h : HoldsA (xs.map enc) vs F) : vs.isEmpty = xs.isEmpty := by
  have := HoldsA.len h
  rw [List.length_map] at this
  cases vs <;> cases xs <;> first | rfl | simp at this
theorem f_Deck_undo (T : Txt w K mg MC TC DC) : MetX PG w K mg base 1 DC "undo" (p_Deck_undo K mg MC TC DC) := by
  refine met_of T.m_Deck_undo sc_Deck_undo bd_Deck_undo (fun vs H Q E ⟨i, F, h, _⟩ => by rw [h] <;> rfl) ?_
  intro f cdv A outer s H vs Q E hr h
  obtain ⟨i, F, rfl, ex, iI, l1, l2, q0, q1⟩ := h
  refine ⟨_, semS, ?_⟩
  have gd : Good (mDr K MC TC DC i) [some (Vl (.ref i.x)), none, none] [some (.ref i.x), none, none] F H := ⟨ex, iI, HoldsA.holds (Ts := [Vl (.ref i.x)]) (vs := [.ref i.x]) (k := 2) ⟨rfl, trivial⟩⟩
  refine go_stf (E := E) (o1 := thr i.d.past.isEmpty "nothingleft") (Γ' := fun _ => [some (Vl (.ref i.x)), none, none]) (s_ifraise (t_eq0M (a := i.pl) hr (e_fldM T.cl_Deck T.na_Deck_past (e_var 0 rfl) fb_past) fun F H ⟨dx, bv, ev, ps, as, h1, h2, h3, _, _, t1, t2, t3⟩ => ⟨ps, h2, empty_of t2⟩) T.e_NothingLeft hr rfl (takes_of rfl rfl rfl rfl)) gd ?_
  · rcases List.eq_nil_or_concat i.d.past with hp | ⟨ps, e, hp⟩
    · have : thr i.d.past.isEmpty "nothingleft" = .error "nothingleft" := by rw [hp] <;> rfl
      rw [this]
      exact fun C d F' H' g ii e1 e2 => q0 hp C d F' H' g ii e1 e2
    · rw [List.concat_eq_append] at hp
      have : thr i.d.past.isEmpty "nothingleft" = .ok () := by
        have e0 : (ps ++ [e]).isEmpty = false := by cases ps <;> rfl
        rw [hp, e0] <;> rfl
      rw [this]
      intro σ1 F1 H1 g1 gd1
      obtain ⟨dx, bv, ev, psv, asv, h1, h2, h3, ⟨f1, f2, f3⟩, ne, t1, t2, t3⟩ := gd1.i
      rw [hp, List.map_append] at t2
      obtain ⟨us, v, rfl, t2, tv⟩ := holdsA_unsnoc t2
      have fx : FxI F1 DC i.x i.pl i.al dx (dkF bv ev i.pl i.al 0) (us ++ [v]) asv F1 H1 := ⟨Same.refl F1, h1, h2, h3, ne, f1, f2, f3⟩
      have gx : Good (mFx F1 DC i.x i.pl i.al dx (dkF bv ev i.pl i.al 0) (us ++ [v]) asv) [some (Vl (.ref i.x)), none, none] σ1 F1 H1 := ⟨gd1.ex, fx, gd1.h⟩
      refine go_popM (a := i.pl) (T := entT K MC TC e) (vs := us) (v := v) (m' := mFx F1 DC i.x i.pl i.al dx (dkF bv ev i.pl i.al 0) us asv) (e_fldM T.cl_Deck T.na_Deck_past (e_var 0 rfl) (fx_look lk_dkF.2.2.1 rfl)) gx (fun F H q => q.hp) tv (tg_tup (Ts := [Is K (.lst [e.1.d]), BookT K MC TC e.2]) rfl (tg_cons (tg_name 1 sc_Deck_undo.nd) (tg_cons (tg_name 2 sc_Deck_undo.nd) tg_nil)) fun v F p => p)
        (fun F' H' g' i' gg => gg.in_ (Same.refl _) (ex_at gg.ex i'.fp) i'.upp) (fun F2 H2 g2 i2 σ3 F3 H3 g3 gd3 => ?_)
      refine go_appM (a := i.al) (Tv := entT K MC TC (e.1, i.d.b)) (vs := asv) (e_fldM T.cl_Deck T.na_Deck_ahead (e_var 0 rfl) (fx_look lk_dkF.2.2.2.1 rfl)) (e_tup (a_cons (e_var 1 rfl) (a_cons (e_fldM (P := BookT K MC TC i.d.b) T.cl_Deck T.na_Deck_book (e_var 0 rfl) (fx_look lk_dkF.1 t1)) a_nil)) (by show 2 ≤ sizeLine; decide) fun vs F p h1 h2 => ⟨p, vs, rfl, SqT.of h2, h1⟩) gd3 (fun F H q => q.ha) (by
        have := HoldsA.len t3
        rw [List.length_map] at this
        omega) fun v4 F4 H4 g4 i4 p4 => ?_
      have gd4 := gd3.next g4 i4
      have gd5 := gd4.in_ (m' := mFx F1 DC i.x i.pl i.al dx (dkF bv ev i.pl i.al 0) us (asv ++ [v4])) (Same.refl _) (ex_at gd4.ex i4.fa) (i4.upa (as' := asv ++ [v4]))
      have gr5 : Gr (mDr K MC TC DC i).U F1 H1 F4 (upd H4 i.al (.lst (asv ++ [v4]))) := by
        refine Gr.at_ ?_ (.inr (.inr rfl)) (by rw [i4.ha]; simp) i4.fa
        exact (Gr.at_ g2 (.inr (.inl rfl)) (by rw [i2.hp]; simp) i2.fp).trans (g3.weak.trans g4)
      refine go_two (x := i.x) (dx := dx) (fs := dkF bv ev i.pl i.al 0) (T1 := BookT K MC TC i.d.b) (T2 := BookT K MC TC e.2) rfl T.cl_Deck T.na_Deck_elder T.na_Deck_book (e_fldM (P := BookT K MC TC i.d.b) T.cl_Deck T.na_Deck_book (e_var 0 rfl) (fx_look lk_dkF.1 t1)) (e_var 2 rfl) (e_var 0 rfl) (e_var 0 rfl) gd5 (fun F H (q : FxI _ _ _ _ _ _ _ _ _ F H) => ⟨q.hx, q.fx⟩) (by show 5 < 900; decide) (fun v => by rw [pt_elder]; show 5 < 900; decide) ?_
      intro v1 v2 F6 H6 F7 H7 F8 H8 g6 i6 p1 p2 g7 g8
      rw [pt_elder, pt_book]
      rw [pt_elder] at g8
      have i7 := (mFx F1 DC i.x i.pl i.al dx (dkF bv ev i.pl i.al 0) us (asv ++ [v4])).st _ _ _ _ g7 i6
      have i7' : FxI F1 DC i.x i.pl i.al dx (dkF bv v1 i.pl i.al 0) us (asv ++ [v4]) F7 (upd H7 i.x (.ins DC dx (dkF bv v1 i.pl i.al 0))) := FxI.ux i7
      have i8 := (mFx F1 DC i.x i.pl i.al dx (dkF bv v1 i.pl i.al 0) us (asv ++ [v4])).st _ _ _ _ g8 i7'
      have i9 : FxI F1 DC i.x i.pl i.al dx (dkF v2 v1 i.pl i.al 0) us (asv ++ [v4]) F8 (upd H8 i.x (.ins DC dx (dkF v2 v1 i.pl i.al 0))) := FxI.ux i8
      have gr9 : Gr (mDr K MC TC DC i).U F1 H1 F8 (upd H8 i.x (.ins DC dx (dkF v2 v1 i.pl i.al 0))) := by
        refine Gr.at_ ?_ (.inl rfl) (by rw [FxI.hx i8]; simp) (FxI.fx i8)
        refine Gr.trans (Gr.at_ (gr5.trans (g6.trans g7.weak)) (.inl rfl) (by rw [FxI.hx i7]; simp) (FxI.fx i7)) g8.weak
      have ff9 : Ex F6 F8 := g7.ff.trans g8.ff
      have gd9 : Good (mFx F1 DC i.x i.pl i.al dx (dkF v2 v1 i.pl i.al 0) us (asv ++ [v4])) [some (Vl (.ref i.x)), some (Is K (.lst [e.1.d])), some (BookT K MC TC e.2)] σ3 F8 (upd H8 i.x (.ins DC dx (dkF v2 v1 i.pl i.al 0))) := gd5.in_ (g6.ff.trans ff9) gr9.fh i9
      refine go_retN (n_list (Ps := [Is K e.1.d]) T.n_list (EvE.imp (e_var 1 rfl) fun v F p => is_lst (ds := [e.1.d]) p)) gd9 fun a acc F' H' g' i' h0 f0 hl hA => ?_
      have gr' : Gr (mDr K MC TC DC i).U F H F' H' := (g1.trans gr9).trans g'
      refine q1 ps e hp a acc F' H' gr' (FxI.dk i' ?_ ?_ ?_) ((g1.trans gr9).dm _ h0) f0 hl hA
      · exact (BookT K MC TC e.2).mono _ _ _ (ff9.trans g'.ff) p2
      · exact t2.mono (gr9.ff.trans g'.ff)
      · show HoldsA ((i.d.ahead ++ [(e.1, i.d.b)]).map (entT K MC TC)) _ _
        rw [List.map_append]
        exact holdsA_snoc1 (t3.mono (gr9.ff.trans g'.ff)) ((entT K MC TC (e.1, i.d.b)).mono _ _ _ ((g6.ff.trans ff9).trans g'.ff) p4)
end
end R60

set_option Elab.async false
set_option pp.maxSteps 400
set_option linter.all false
set_option maxRecDepth 100000
set_option maxHeartbeats 4000000
namespace R60
open PySem PySem.Spec PyProof.Rows L2
section
variable {w : World} {K : PySem.W.Frag} {mg : Str → Option Value} {base : Heap} {MC TC DC : Addr}
def p_Deck_redo (K : PySem.W.Frag) (mg : Str → Option Value) (MC TC DC : Addr) : Sp := fun vs H Q E => ∃ (i : DkR) (F : Hp), vs = [.ref i.x] ∧ Ex F H ∧ (mDr K MC TC DC i).I F H ∧ i.d.past.length ≤ 1000 ∧ i.d.ahead.length ≤ 1000 ∧
  (i.d.ahead = [] → ∀ C d F' H', Gr (mDr K MC TC DC i).U F H F' H' → (mDr K MC TC DC i).I F' H' → ErrM K mg C → H' d = some (errD "nothingleft") → E (.ref C) (some d) H') ∧
  (∀ as e, i.d.ahead = as ++ [e] → ∀ a acc F' H', Gr (mDr K MC TC DC i).U F H F' H' → (mDk K MC TC DC i.x i.pl i.al ⟨e.2, i.d.past ++ [(e.1, i.d.b)], as⟩ 0).I F' H' → H a = none → F' a = none → H' a = some (.lst acc) → HoldsA [Is K e.1.d] acc F' → Q (.ref a) H')
theorem f_Deck_redo (T : Txt w K mg MC TC DC) : MetX PG w K mg base 1 DC "redo" (p_Deck_redo K mg MC TC DC) := by
  refine met_of T.m_Deck_redo sc_Deck_redo bd_Deck_redo (fun vs H Q E ⟨i, F, h, _⟩ => by rw [h] <;> rfl) ?_
  intro f cdv A outer s H vs Q E hr h
  obtain ⟨i, F, rfl, ex, iI, l1, l2, q0, q1⟩ := h
  refine ⟨_, semS, ?_⟩
  have gd : Good (mDr K MC TC DC i) [some (Vl (.ref i.x)), none, none] [some (.ref i.x), none, none] F H := ⟨ex, iI, HoldsA.holds (Ts := [Vl (.ref i.x)]) (vs := [.ref i.x]) (k := 2) ⟨rfl, trivial⟩⟩
  refine go_stf (E := E) (o1 := thr i.d.ahead.isEmpty "nothingleft") (Γ' := fun _ => [some (Vl (.ref i.x)), none, none]) (s_ifraise (t_eq0M (a := i.al) hr (e_fldM T.cl_Deck T.na_Deck_ahead (e_var 0 rfl) fb_ahead) fun F H ⟨dx, bv, ev, ps, as, h1, h2, h3, _, _, t1, t2, t3⟩ => ⟨as, h3, empty_of t3⟩) T.e_NothingLeft hr rfl (takes_of rfl rfl rfl rfl)) gd ?_
  · rcases List.eq_nil_or_concat i.d.ahead with hp | ⟨as, e, hp⟩
    · have : thr i.d.ahead.isEmpty "nothingleft" = .error "nothingleft" := by rw [hp] <;> rfl
      rw [this]
      exact fun C d F' H' g ii e1 e2 => q0 hp C d F' H' g ii e1 e2
    · rw [List.concat_eq_append] at hp
      have : thr i.d.ahead.isEmpty "nothingleft" = .ok () := by
        have e0 : (as ++ [e]).isEmpty = false := by cases as <;> rfl
        rw [hp, e0] <;> rfl
      rw [this]
      intro σ1 F1 H1 g1 gd1
      obtain ⟨dx, bv, ev, psv, asv, h1, h2, h3, ⟨f1, f2, f3⟩, ne, t1, t2, t3⟩ := gd1.i
      rw [hp, List.map_append] at t3
      obtain ⟨us, v, rfl, t3, tv⟩ := holdsA_unsnoc t3
      have fx : FxI F1 DC i.x i.pl i.al dx (dkF bv ev i.pl i.al 0) psv (us ++ [v]) F1 H1 := ⟨Same.refl F1, h1, h2, h3, ne, f1, f2, f3⟩
      have gx : Good (mFx F1 DC i.x i.pl i.al dx (dkF bv ev i.pl i.al 0) psv (us ++ [v])) [some (Vl (.ref i.x)), none, none] σ1 F1 H1 := ⟨gd1.ex, fx, gd1.h⟩
      refine go_popM (a := i.al) (T := entT K MC TC e) (vs := us) (v := v) (m' := mFx F1 DC i.x i.pl i.al dx (dkF bv ev i.pl i.al 0) psv us) (e_fldM T.cl_Deck T.na_Deck_ahead (e_var 0 rfl) (fx_look lk_dkF.2.2.2.1 rfl)) gx (fun F H q => q.ha) tv (tg_tup (Ts := [Is K (.lst [e.1.d]), BookT K MC TC e.2]) rfl (tg_cons (tg_name 1 sc_Deck_redo.nd) (tg_cons (tg_name 2 sc_Deck_redo.nd) tg_nil)) fun v F p => p)
        (fun F' H' g' i' gg => gg.in_ (Same.refl _) (ex_at gg.ex i'.fa) i'.upa) (fun F2 H2 g2 i2 σ3 F3 H3 g3 gd3 => ?_)
      refine go_appM (a := i.pl) (Tv := entT K MC TC (e.1, i.d.b)) (vs := psv) (e_fldM T.cl_Deck T.na_Deck_past (e_var 0 rfl) (fx_look lk_dkF.2.2.1 rfl)) (e_tup (a_cons (e_var 1 rfl) (a_cons (e_fldM (P := BookT K MC TC i.d.b) T.cl_Deck T.na_Deck_book (e_var 0 rfl) (fx_look lk_dkF.1 t1)) a_nil)) (by show 2 ≤ sizeLine; decide) fun vs F p h1 h2 => ⟨p, vs, rfl, SqT.of h2, h1⟩) gd3 (fun F H q => q.hp) (by
        have := HoldsA.len t2
        rw [List.length_map] at this
        omega) fun v4 F4 H4 g4 i4 p4 => ?_
      have gd4 := gd3.next g4 i4
      have gd5 := gd4.in_ (m' := mFx F1 DC i.x i.pl i.al dx (dkF bv ev i.pl i.al 0) (psv ++ [v4]) us) (Same.refl _) (ex_at gd4.ex i4.fp) (i4.upp (ps' := psv ++ [v4]))
      have gr5 : Gr (mDr K MC TC DC i).U F1 H1 F4 (upd H4 i.pl (.lst (psv ++ [v4]))) := by
        refine Gr.at_ ?_ (.inr (.inl rfl)) (by rw [i4.hp]; simp) i4.fp
        exact (Gr.at_ g2 (.inr (.inr rfl)) (by rw [i2.ha]; simp) i2.fa).trans (g3.weak.trans g4)
      refine go_two (x := i.x) (dx := dx) (fs := dkF bv ev i.pl i.al 0) (T1 := BookT K MC TC i.d.b) (T2 := BookT K MC TC e.2) rfl T.cl_Deck T.na_Deck_elder T.na_Deck_book (e_fldM (P := BookT K MC TC i.d.b) T.cl_Deck T.na_Deck_book (e_var 0 rfl) (fx_look lk_dkF.1 t1)) (e_var 2 rfl) (e_var 0 rfl) (e_var 0 rfl) gd5 (fun F H (q : FxI _ _ _ _ _ _ _ _ _ F H) => ⟨q.hx, q.fx⟩) (by show 5 < 900; decide) (fun v => by rw [pt_elder]; show 5 < 900; decide) ?_
      intro v1 v2 F6 H6 F7 H7 F8 H8 g6 i6 p1 p2 g7 g8
      rw [pt_elder, pt_book]
      rw [pt_elder] at g8
      have i7 := (mFx F1 DC i.x i.pl i.al dx (dkF bv ev i.pl i.al 0) (psv ++ [v4]) us).st _ _ _ _ g7 i6
      have i7' : FxI F1 DC i.x i.pl i.al dx (dkF bv v1 i.pl i.al 0) (psv ++ [v4]) us F7 (upd H7 i.x (.ins DC dx (dkF bv v1 i.pl i.al 0))) := FxI.ux i7
      have i8 := (mFx F1 DC i.x i.pl i.al dx (dkF bv v1 i.pl i.al 0) (psv ++ [v4]) us).st _ _ _ _ g8 i7'
      have i9 : FxI F1 DC i.x i.pl i.al dx (dkF v2 v1 i.pl i.al 0) (psv ++ [v4]) us F8 (upd H8 i.x (.ins DC dx (dkF v2 v1 i.pl i.al 0))) := FxI.ux i8
      have gr9 : Gr (mDr K MC TC DC i).U F1 H1 F8 (upd H8 i.x (.ins DC dx (dkF v2 v1 i.pl i.al 0))) := by
        refine Gr.at_ ?_ (.inl rfl) (by rw [FxI.hx i8]; simp) (FxI.fx i8)
        refine Gr.trans (Gr.at_ (gr5.trans (g6.trans g7.weak)) (.inl rfl) (by rw [FxI.hx i7]; simp) (FxI.fx i7)) g8.weak
      have ff9 : Ex F6 F8 := g7.ff.trans g8.ff
      have gd9 : Good (mFx F1 DC i.x i.pl i.al dx (dkF v2 v1 i.pl i.al 0) (psv ++ [v4]) us) [some (Vl (.ref i.x)), some (Is K (.lst [e.1.d])), some (BookT K MC TC e.2)] σ3 F8 (upd H8 i.x (.ins DC dx (dkF v2 v1 i.pl i.al 0))) := gd5.in_ (g6.ff.trans ff9) gr9.fh i9
      refine go_retN (n_list (Ps := [Is K e.1.d]) T.n_list (EvE.imp (e_var 1 rfl) fun v F p => is_lst (ds := [e.1.d]) p)) gd9 fun a acc F' H' g' i' h0 f0 hl hA => ?_
      have gr' : Gr (mDr K MC TC DC i).U F H F' H' := (g1.trans gr9).trans g'
      refine q1 as e hp a acc F' H' gr' (FxI.dk i' ?_ ?_ ?_) ((g1.trans gr9).dm _ h0) f0 hl hA
      · exact (BookT K MC TC e.2).mono _ _ _ (ff9.trans g'.ff) p2
      · show HoldsA ((i.d.past ++ [(e.1, i.d.b)]).map (entT K MC TC)) _ _
        rw [List.map_append]
        exact holdsA_snoc1 (t2.mono (gr9.ff.trans g'.ff)) ((entT K MC TC (e.1, i.d.b)).mono _ _ _ ((g6.ff.trans ff9).trans g'.ff) p4)
      · exact t3.mono (gr9.ff.trans g'.ff)
end
end R60

set_option Elab.async false
set_option pp.maxSteps 400
set_option linter.all false
set_option maxRecDepth 100000
set_option maxHeartbeats 4000000
namespace R60
open PySem PySem.Spec PyProof.Rows L2
theorem Gr.transN {U U' : Addr → Prop} {F H F1 H1 F2 H2 : Hp} (a : Gr U F H F1 H1) (b : Gr U' F1 H1 F2 H2) (h : ∀ c, U' c → U c ∨ H c = none) : Gr U F H F2 H2 :=
  ⟨a.ff.trans b.ff, b.fh, fun c o n q => b.hh c o (fun z => (h c z).elim n fun e => by rw [e] at q; cases q) (a.hh c o n q), fun c q => a.dm c (b.dm c q), fun c q n => b.nw c (a.nw c q n) fun z => n (a.dm c z)⟩
section
variable {w : World} {K : PySem.W.Frag} {mg : Str → Option Value} {base : Heap} {MC TC DC : Addr}
structure DoH (b : Bk) (d : Deed) (n : Nat) : Prop where
  ok : BkOk b
  fit : d.fit
  few : b.length ≤ 100
  past : n ≤ 1000
def DoK (K : PySem.W.Frag) (mg : Str → Option Value) (MC TC DC : Addr) (i : DkR) (d : Deed) (F H : Hp) (Q : VK) (E : XK) : Prop :=
  (∀ b', afterO i.d.b d = .ok b' → ∀ al' F' H', Gr (mDr K MC TC DC i).U F H F' H' → H al' = none → (mDk K MC TC DC i.x i.pl al' ⟨b', i.d.past ++ [(d, i.d.b)], []⟩ 0).I F' H' → Q .non H') ∧
  (∀ z, afterO i.d.b d = .error z → ∀ C dd F' H', Gr (mDr K MC TC DC i).U F H F' H' → (mDr K MC TC DC i).I F' H' → ErrM K mg C → H' dd = some (errD z) → E (.ref C) (some dd) H')
def p_Deck_do_all (K : PySem.W.Frag) (mg : Str → Option Value) (MC TC DC : Addr) : Sp := fun vs H Q E => ∃ (i : DkR) (d : Deed) (F : Hp) (v : V), vs = [.ref i.x, v] ∧ Ex F H ∧ (mDr K MC TC DC i).I F H ∧ (Is K (.lst [d.d])).p v F ∧ DoH i.d.b d i.d.past.length ∧ DoK K mg MC TC DC i d F H Q E
theorem f_Deck_do_all (T : Txt w K mg MC TC DC) : MetX PG w K mg base 10 DC "do_all" (p_Deck_do_all K mg MC TC DC) := by
  refine met_of T.m_Deck_do_all sc_Deck_do_all bd_Deck_do_all (fun vs H Q E ⟨i, d, F, v, h, _⟩ => by rw [h] <;> rfl) ?_
  intro f cdv A outer s H vs Q E hr h
  obtain ⟨i, d, F, v, rfl, ex, iI, pv, hd, qok, qer⟩ := h
  refine ⟨_, semS, ?_⟩
  have gd : Good (mDr K MC TC DC i) [some (Vl (.ref i.x)), some (Is K (.lst [d.d])), none, none, none] [some (.ref i.x), some v, none, none, none] F H := ⟨ex, iI, HoldsA.holds (Ts := [Vl (.ref i.x), Is K (.lst [d.d])]) (vs := [.ref i.x, v]) (k := 3) ⟨rfl, pv, trivial⟩⟩
  refine go_set 2 (e_fldM T.cl_Deck T.na_Deck_book (e_var 0 rfl) fb_book) gd (fun v2 F2 H2 g2 i2 p2 gd2 => ?_) sc_Deck_do_all.nd
  refine go_set 3 e_non gd2 (fun v3 F3 H3 g3 i3 p3 gd3 => ?_) sc_Deck_do_all.nd
  obtain ⟨dx, bv, ev, psv, asv, h1, h2, h3, ⟨f1, f2, f3⟩, ne, t1, t2, t3⟩ := gd3.i
  have gx : Good (mFx F3 DC i.x i.pl i.al dx (dkF bv ev i.pl i.al 0) psv asv) [some (Vl (.ref i.x)), some (Is K (.lst [d.d])), some (BookT K MC TC i.d.b), some (Is K .non), none] _ F3 H3 := ⟨gd3.ex, ⟨Same.refl F3, h1, h2, h3, ne, f1, f2, f3⟩, gd3.h⟩
  refine go_augM (x := i.x) (dx := dx) (fs := dkF bv ev i.pl i.al 0) (n := 1) (i := 0) T.cl_Deck T.na_Deck_under e_int (e_var 0 rfl) gx (fun F H q => FxI.hx q) lk_dkF.2.2.2.2 (by show 5 < 900; decide) fun F4 H4 g4 i4 => ?_
  rw [pt_under]
  have i5 : FxI F3 DC i.x i.pl i.al dx (dkF bv ev i.pl i.al (0 + 1)) psv asv F4 (upd H4 i.x (.ins DC dx (dkF bv ev i.pl i.al (0 + 1)))) := FxI.ux i4
  have gr5 : Gr (mDr K MC TC DC i).U F3 H3 F4 (upd H4 i.x (.ins DC dx (dkF bv ev i.pl i.al (0 + 1)))) := Gr.at_ g4 (.inl rfl) (by rw [FxI.hx i4]; simp) (FxI.fx i4)
  have gd5 : Good (mFx F3 DC i.x i.pl i.al dx (dkF bv ev i.pl i.al (0 + 1)) psv asv) _ _ F4 _ := gx.in_ g4.ff gr5.fh i5
  have g05 := (g2.trans g3).trans gr5
  refine go_fin rfl rfl rfl (Wout := fun cls d _ H => E cls d H) (takes_of rfl rfl rfl rfl) fun pn xe tk po => ?_
  refine go_for1 (T := Is K d.d) (js := [4]) (Γ1 := [some (Vl (.ref i.x)), some (Is K (.lst [d.d])), some (BookT K MC TC i.d.b), some (Is K .non), some (Is K d.d)]) po rfl (EvE.imp (e_var 1 rfl) fun v F p => is_lst (ds := [d.d]) p) gd5 (tg_name 4 sc_Deck_do_all.nd) fun σ6 F6 H6 g6 gd6 N hN => ?_
  have i6 : FxI F3 DC i.x i.pl i.al dx (dkF bv ev i.pl i.al (0 + 1)) psv asv F6 H6 := gd6.i
  have gr6 : Gr (mDr K MC TC DC i).U F H F6 H6 := g05.trans g6
  refine go_fldC (m := mFx F3 DC i.x i.pl i.al dx (dkF bv ev i.pl i.al (0 + 1)) psv asv) (x := i.x) (dx := dx) (fs := dkF bv ev i.pl i.al (0 + 1)) ⟨(i.d.b, d), hd.ok, hd.fit, hd.few⟩ T.cl_Deck T.na_Deck_book (f_after T (f_is_event T)) hr (by decide) tk (a_cons (e_fldM (P := BookT K MC TC i.d.b) T.cl_Deck T.na_Deck_book (e_var 0 rfl) (fx_look lk_dkF.1 t1)) (a_cons (e_var 4 rfl) a_nil)) (e_var 0 rfl) gd6 (fun F H q => FxI.hx q) (by show 5 < 900; decide) (fun b' hb' v7 F7 H7 g7 i7 p7 => ?_) (fun z hz Cc dd F7 H7 g7 i7 em ed => ?_)
  · rw [pt_book]
    have i8 : FxI F3 DC i.x i.pl i.al dx (dkF v7 ev i.pl i.al (0 + 1)) psv asv F7 (upd H7 i.x (.ins DC dx (dkF v7 ev i.pl i.al (0 + 1)))) := FxI.ux i7
    have gr8 : Gr (mDr K MC TC DC i).U F6 H6 F7 (upd H7 i.x (.ins DC dx (dkF v7 ev i.pl i.al (0 + 1)))) := Gr.at_ g7 (.inl rfl) (by rw [FxI.hx i7]; simp) (FxI.fx i7)
    have gd8 : Good (mFx F3 DC i.x i.pl i.al dx (dkF v7 ev i.pl i.al (0 + 1)) psv asv) _ _ F7 _ := gd6.in_ g7.ff gr8.fh i8
    refine go_end (hN _ F7 _ g7.ff gr8.fh ?_)
    refine go_set 3 (e_bl (i := true)) gd8 (fun v9 F9 H9 g9 i9 p9 gd9 => ?_) sc_Deck_do_all.nd
    refine go_end ?_
    refine go_subM (x := i.x) (dx := dx) (fs := dkF v7 ev i.pl i.al (0 + 1)) (n := 1) (i := 0 + 1) T.cl_Deck T.na_Deck_under e_int (e_var 0 rfl) gd9 (fun F H q => FxI.hx q) lk_dkF.2.2.2.2 (by show 5 < 900; decide) fun F10 H10 g10 i10 => ?_
    rw [pt_under]
    have i11 : FxI F3 DC i.x i.pl i.al dx (dkF v7 ev i.pl i.al 0) psv asv F10 (upd H10 i.x (.ins DC dx (dkF v7 ev i.pl i.al 0))) := FxI.ux i10
    have gr11 : Gr (mDr K MC TC DC i).U F9 H9 F10 (upd H10 i.x (.ins DC dx (dkF v7 ev i.pl i.al 0))) := Gr.at_ g10 (.inl rfl) (by rw [FxI.hx i10]; simp) (FxI.fx i10)
    have gd11 : Good (mFx F3 DC i.x i.pl i.al dx (dkF v7 ev i.pl i.al 0) psv asv) _ _ F10 _ := gd9.in_ g10.ff gr11.fh i11
    have gA : Gr (mDr K MC TC DC i).U F H F10 _ := (gr6.trans gr8).trans (g9.trans gr11)
    refine go_if (t_isN (e_var 3 rfl)) gd11 (fun F12 H12 g12 i12 hk => nomatch hk) fun F12 H12 g12 i12 _ => go_end (go_end ?_)
    have gd12 : Good (mFx F3 DC i.x i.pl i.al dx (dkF v7 ev i.pl i.al 0) psv asv) [some (Vl (.ref i.x)), some (Is K (.lst [d.d])), some (BookT K MC TC i.d.b), some (Is K (.bl true)), some (Is K d.d)] _ F12 H12 := gd11.next g12 i12
    show tSemS (cxD PG w K mg base "Deck.do_all" s_Deck_do_all ["self", "deeds", "begun", "done", "deed"] f cdv A outer s H E) _ _ _ _
    refine go_if (S := Eq (decide ((0 : Int) < (([d.d] : List R60.D).length : Nat)))) (t_gt (e_lenL (ds := [d.d]) T.n_len (e_var 1 rfl)) e_int) gd12 (fun F13 H13 g13 i13 _ => ?_) (fun F13 H13 g13 i13 hk => absurd hk (by simp))
    have gd13 := gd12.next g13 i13
    refine go_appM (a := i.pl) (Tv := entT K MC TC (d, i.d.b)) (vs := psv) (e_fldM T.cl_Deck T.na_Deck_past (e_var 0 rfl) (fx_look lk_dkF.2.2.1 rfl)) (e_tup (a_cons (e_list (ds := [d.d]) T.n_list (e_var 1 rfl)) (a_cons (e_var 2 rfl) a_nil)) (by show 2 ≤ sizeLine; decide) fun vs F p h1 h2 => ⟨p, vs, rfl, SqT.of h2, h1⟩) gd13 (fun F H q => FxI.hp q) (by
      have := HoldsA.len t2
      rw [List.length_map] at this
      have := hd.past
      omega) fun v14 F14 H14 g14 i14 p14 => ?_
    have i15 : FxI F3 DC i.x i.pl i.al dx (dkF v7 ev i.pl i.al 0) (psv ++ [v14]) asv F14 (upd H14 i.pl (.lst (psv ++ [v14]))) := FxI.upp i14
    have gr15 : Gr (mDr K MC TC DC i).U F13 H13 F14 (upd H14 i.pl (.lst (psv ++ [v14]))) := Gr.at_ g14 (.inr (.inl rfl)) (by rw [FxI.hp i14]; simp) (FxI.fp i14)
    have gd15 : Good (mFx F3 DC i.x i.pl i.al dx (dkF v7 ev i.pl i.al 0) (psv ++ [v14]) asv) _ _ F14 _ := gd13.in_ g14.ff gr15.fh i15
    refine go_fldN (x := i.x) (dx := dx) (fs := dkF v7 ev i.pl i.al 0) T.cl_Deck T.na_Deck_ahead (n_lst a_nil (Nat.zero_le _)) (e_var 0 rfl) gd15 (fun F H q => FxI.hx q) (by show 5 < 900; decide) fun al' acc F16 H16 g16 i16 h016 f016 hl16 hA16 => ?_
    rw [pt_ahead]
    have i16 : FxI F3 DC i.x i.pl i.al dx (dkF v7 ev i.pl i.al 0) (psv ++ [v14]) asv F16 H16 := i16
    obtain rfl : acc = [] := by
      cases acc with
      | nil => rfl
      | cons _ _ => exact hA16.elim
    have gr16 := gr15.trans g16
    have gB : Gr (mDr K MC TC DC i).U F H F16 (upd H16 i.x (.ins DC dx (dkF v7 ev i.pl al' 0))) := Gr.at_ (((gA.trans g12).trans g13).trans gr16) (.inl rfl) (by rw [FxI.hx i16]; simp) (FxI.fx i16)
    have nx : al' ≠ i.x := fun z => by
      rw [z, FxI.hx i15] at h016
      cases h016
    have np : al' ≠ i.pl := fun z => by
      rw [z, FxI.hp i15] at h016
      cases h016
    have i17 : FxI F3 DC i.x i.pl al' dx (dkF v7 ev i.pl al' 0) (psv ++ [v14]) [] F16 (upd H16 i.x (.ins DC dx (dkF v7 ev i.pl al' 0))) := ⟨i16.e0, upd_same, by rw [upd_ne (Ne.symm i16.xp)]; exact i16.hp, by rw [upd_ne nx]; exact hl16, Ne.symm np, i16.fx, i16.fp, f016⟩
    have gd17 : Good (mFx F3 DC i.x i.pl al' dx (dkF v7 ev i.pl al' 0) (psv ++ [v14]) []) [some (Vl (.ref i.x)), some (Is K (.lst [d.d])), some (BookT K MC TC i.d.b), some (Is K (.bl true)), some (Is K d.d)] _ F16 _ := gd15.in_ g16.ff gB.fh i17
    have nw0 : H al' = none := (((gA.trans g12).trans g13).trans gr15).dm _ h016
    refine go_fldM (x := i.x) (dx := dx) (fs := dkF v7 ev i.pl al' 0) T.cl_Deck T.na_Deck_elder (e_var 2 rfl) (e_var 0 rfl) gd17 (fun F H q => FxI.hx q) (by show 5 < 900; decide) fun v18 F18 H18 g18 i18 p18 => go_end (go_end ?_)
    rw [pt_elder]
    have i19 : FxI F3 DC i.x i.pl al' dx (dkF v7 v18 i.pl al' 0) (psv ++ [v14]) [] F18 (upd H18 i.x (.ins DC dx (dkF v7 v18 i.pl al' 0))) := FxI.ux i18
    have gC : Gr (mDr K MC TC DC i).U F H F18 (upd H18 i.x (.ins DC dx (dkF v7 v18 i.pl al' 0))) := by
      refine Gr.at_ (Gr.transN gB g18 fun c hc => ?_) (.inl rfl) (by rw [FxI.hx i18]; simp) (FxI.fx i18)
      rcases hc with rfl | rfl | rfl
      · exact .inl (.inl rfl)
      · exact .inl (.inr (.inl rfl))
      · exact .inr nw0
    refine qok b' hb' al' F18 _ gC nw0 (FxI.dk i19 ?_ ?_ trivial)
    · exact (BookT K MC TC b').mono _ _ _ (g9.ff.trans (gr11.ff.trans (g12.ff.trans (g13.ff.trans (gr16.ff.trans g18.ff))))) p7
    · show HoldsA ((i.d.past ++ [(d, i.d.b)]).map (entT K MC TC)) _ _
      rw [List.map_append]
      exact holdsA_snoc1 (t2.mono i19.e0) ((entT K MC TC (d, i.d.b)).mono _ _ _ (g16.ff.trans g18.ff) p14)
  · have i7' : FxI F3 DC i.x i.pl i.al dx (dkF bv ev i.pl i.al (0 + 1)) psv asv F7 H7 := i7
    intro a pn
    refine go_subM (x := i.x) (dx := dx) (fs := dkF bv ev i.pl i.al (0 + 1)) (n := 1) (i := 0 + 1) T.cl_Deck T.na_Deck_under e_int (e_var 0 rfl) (gd6.next g7 i7) (fun F H q => FxI.hx q) lk_dkF.2.2.2.2 (by show 5 < 900; decide) fun F8 H8 g8 i8 => ?_
    rw [pt_under]
    have i9 : FxI F3 DC i.x i.pl i.al dx (dkF bv ev i.pl i.al 0) psv asv F8 (upd H8 i.x (.ins DC dx (dkF bv ev i.pl i.al 0))) := FxI.ux i8
    have gr9 : Gr (mDr K MC TC DC i).U F7 H7 F8 (upd H8 i.x (.ins DC dx (dkF bv ev i.pl i.al 0))) := Gr.at_ g8 (.inl rfl) (by rw [FxI.hx i8]; simp) (FxI.fx i8)
    have gd9 : Good (mFx F3 DC i.x i.pl i.al dx (dkF bv ev i.pl i.al 0) psv asv) [some (Vl (.ref i.x)), some (Is K (.lst [d.d])), some (BookT K MC TC i.d.b), some (Is K .non), some (Is K d.d)] _ F8 _ := (gd6.next g7 i7).in_ g8.ff gr9.fh i9
    refine go_if (S := Eq true) (t_isN (d := .non) (e_var 3 rfl)) gd9 (fun F10 H10 g10 i10 _ => ?_) (fun F10 H10 g10 i10 hk => nomatch hk)
    have gd10 := gd9.next g10 i10
    refine go_fldM (x := i.x) (dx := dx) (fs := dkF bv ev i.pl i.al 0) T.cl_Deck T.na_Deck_book (e_var 2 rfl) (e_var 0 rfl) gd10 (fun F H q => FxI.hx q) (by show 5 < 900; decide) fun v11 F11 H11 g11 i11 p11 => go_end ?_
    rw [pt_book]
    refine go_end ?_
    have i12 : FxI F3 DC i.x i.pl i.al dx (dkF v11 ev i.pl i.al 0) psv asv F11 (upd H11 i.x (.ins DC dx (dkF v11 ev i.pl i.al 0))) := FxI.ux i11
    have gr12 : Gr (mDr K MC TC DC i).U F10 H10 F11 (upd H11 i.x (.ins DC dx (dkF v11 ev i.pl i.al 0))) := Gr.at_ g11 (.inl rfl) (by rw [FxI.hx i11]; simp) (FxI.fx i11)
    refine qer z hz Cc dd F11 _ ((gr6.trans g7).trans ((gr9.trans g10).trans gr12)) (FxI.dk i12 p11 (t2.mono i12.e0) (t3.mono i12.e0)) em ?_
    have nU : ¬ (mDr K MC TC DC i).U dd := fun z => by
      rcases z with rfl | rfl | rfl
      · rw [FxI.hx i7] at ed
        cases ed
      · rw [FxI.hp i7] at ed
        cases ed
      · rw [FxI.ha i7] at ed
        cases ed
    exact (gr9.trans (g10.trans gr12)).hh _ _ nU ed
end
end R60

set_option Elab.async false
set_option pp.maxSteps 400
set_option linter.all false
set_option maxRecDepth 100000
set_option maxHeartbeats 4000000
namespace R60
open PySem PySem.Spec PyProof.Rows L2
section
variable {w : World} {K : PySem.W.Frag} {mg : Str → Option Value} {base : Heap} {MC TC DC : Addr}
def p_Deck_do (K : PySem.W.Frag) (mg : Str → Option Value) (MC TC DC : Addr) : Sp := fun vs H Q E => ∃ (i : DkR) (d : Deed) (F : Hp) (v : V), vs = [.ref i.x, v] ∧ Ex F H ∧ (mDr K MC TC DC i).I F H ∧ (Is K d.d).p v F ∧ DoH i.d.b d i.d.past.length ∧ DoK K mg MC TC DC i d F H Q E
theorem f_Deck_do (T : Txt w K mg MC TC DC) : MetX PG w K mg base 11 DC "do" (p_Deck_do K mg MC TC DC) := by
  refine met_of T.m_Deck_do sc_Deck_do bd_Deck_do (fun vs H Q E ⟨i, d, F, v, h, _⟩ => by rw [h] <;> rfl) ?_
  intro f cdv A outer s H vs Q E hr h
  obtain ⟨i, d, F, v, rfl, ex, iI, pv, hd, qok, qer⟩ := h
  refine ⟨_, semS, ?_⟩
  have gd : Good (mDr K MC TC DC i) [some (Vl (.ref i.x)), some (Is K d.d)] [some (.ref i.x), some v] F H := ⟨ex, iI, HoldsA.holds (Ts := [Vl (.ref i.x), Is K d.d]) (vs := [.ref i.x, v]) (k := 0) ⟨rfl, pv, trivial⟩⟩
  refine go_meth (x := i.x) (Ps := [Is K (.lst [d.d])]) (f_Deck_do_all T) hr (by decide) passE (e_var 0 rfl) (a_cons (e_lstD (ad_cons (e_var 1 rfl) ad_nil)) a_nil) gd (fun F H ⟨dx, bv, ev, ps, as, h1, _⟩ => ⟨dx, _, h1, lk_none (by decide +kernel)⟩) fun us F1 H1 g1 i1 p1 => ?_
  obtain ⟨u, rfl, p2⟩ := one_of p1
  exact ⟨i, d, F1, u, rfl, g1.fh, i1, p2, hd, fun b' hb al' F' H' g' h0 iI' => go_end (qok b' hb al' F' H' (g1.trans g') (g1.dm _ h0) iI'), fun z hz C dd F' H' g' i' em ed => qer z hz C dd F' H' (g1.trans g') i' em ed⟩
/-! a new deck -/
def mOne (DC x dx : Addr) (fs : List (Str × V)) : Mu where
  U b := b = x
  I F H := H x = some (.ins DC dx fs) ∧ F x = none
  st := fun F H F' H' g h => ⟨g.same _ _ h.1, g.nw _ h.2 (by rw [h.1]; simp)⟩
  up := fun F H b h hb => by rw [hb, h.1]; simp
  loc := fun F H H' q h => ⟨(q _ rfl).trans h.1, h.2⟩
  add := fun F H p o hp f0 h => ⟨h.1, by rw [upd_ne (fun z => hp z.symm)]; exact h.2⟩
def p_Deck_init (K : PySem.W.Frag) (MC TC DC : Addr) : Sp := fun vs H Q E => ∃ (x dx : Addr) (F : Hp), vs = [.ref x] ∧ Ex F H ∧ H x = some (.ins DC dx []) ∧ F x = none ∧
  (∀ pl al F' H', Gr (fun b => b = x) F H F' H' → H pl = none → H al = none → (mDk K MC TC DC x pl al ⟨[], [], []⟩ 0).I F' H' → Q .non H')
theorem pt_new {v : V} {f g : Str} {u : V} {r : List (Str × V)} (h : ¬ g = f) : putF f v ((g, u) :: r) = (g, u) :: putF f v r := if_neg h
theorem f_Deck_init (T : Txt w K mg MC TC DC) : MakX PG w K mg base 1 "Deck" DC (p_Deck_init K MC TC DC) [] := by
  obtain ⟨f, fd, hm, hk, hF⟩ := T.i_Deck
  refine ⟨f, fd, ["self"], [], hm, hk, hF.binds bd_Deck_init, .nil, hF.okX sc_Deck_init (fun vs H Q E ⟨x, dx, F, h, _⟩ => by rw [h] <;> rfl) fun cdv A outer s H vs Q E hr h => ?_⟩
  obtain ⟨x, dx, F, rfl, ex, hx, fx, q⟩ := h
  refine ⟨_, semS, ?_⟩
  have gd : Good (mOne DC x dx []) [some (Vl (.ref x))] [some (.ref x)] F H := ⟨ex, ⟨hx, fx⟩, HoldsA.holds (Ts := [Vl (.ref x)]) (vs := [.ref x]) (k := 0) ⟨rfl, trivial⟩⟩
  have stp : ∀ {fs fs' : List (Str × V)} {σ : L2.St} {F1 H1 F2 H2 : Hp}, Good (mOne DC x dx fs) [some (Vl (.ref x))] σ F1 H1 → Gr (fun b => b = x) F1 H1 F2 H2 → (mOne DC x dx fs).I F2 H2 → Gr (fun b => b = x) F1 H1 F2 (upd H2 x (.ins DC dx fs')) ∧ Good (mOne DC x dx fs') [some (Vl (.ref x))] σ F2 (upd H2 x (.ins DC dx fs')) := fun {fs fs' σ F1 H1 F2 H2} g g2 i2 => by
    have := Gr.at_ (U := fun b => b = x) (o := .ins DC dx fs') g2 rfl (by rw [i2.1]; simp) i2.2
    exact ⟨this, g.in_ g2.ff this.fh ⟨upd_same, i2.2⟩⟩
  refine go_fldM (x := x) (dx := dx) (fs := []) T.cl_Deck T.na_Deck_book e_dnew (e_var 0 rfl) gd (fun F H q => q.1) (by decide) fun v1 F1 H1 g1 i1 p1 => ?_
  obtain ⟨gr1, gd1⟩ := stp (fs' := putF "book" v1 []) gd g1 i1
  refine go_fldM (x := x) (dx := dx) (fs := putF "book" v1 []) T.cl_Deck T.na_Deck_elder e_dnew (e_var 0 rfl) gd1 (fun F H q => q.1) (by show 1 < 900; decide) fun v2 F2 H2 g2 i2 p2 => ?_
  obtain ⟨gr2, gd2⟩ := stp (fs' := putF "elder" v2 (putF "book" v1 [])) gd1 g2 i2
  have e2 : putF "elder" v2 (putF "book" v1 []) = [(("book" : Str), v1), ("elder", v2)] := pt_new (by decide +kernel)
  rw [e2] at gr2 gd2 ⊢
  refine go_fldN (x := x) (dx := dx) (fs := [(("book" : Str), v1), ("elder", v2)]) T.cl_Deck T.na_Deck_past (n_lst a_nil (Nat.zero_le _)) (e_var 0 rfl) gd2 (fun F H q => q.1) (by show 2 < 900; decide) fun pl acc F3 H3 g3 i3 h03 f03 hl3 hA3 => ?_
  obtain rfl : acc = [] := by
    cases acc with
    | nil => rfl
    | cons _ _ => exact hA3.elim
  have e3 : putF "past" (.ref pl) [(("book" : Str), v1), ("elder", v2)] = [(("book" : Str), v1), ("elder", v2), ("past", V.ref pl)] := by
    rw [pt_new (by decide +kernel), pt_new (by decide +kernel)] <;> rfl
  rw [e3]
  obtain ⟨gr3, gd3⟩ := stp (fs' := [(("book" : Str), v1), ("elder", v2), ("past", V.ref pl)]) gd2 g3 i3
  have nx3 : pl ≠ x := fun z => by
    rw [z, upd_same] at h03
    cases h03
  refine go_fldN (x := x) (dx := dx) (fs := [(("book" : Str), v1), ("elder", v2), ("past", V.ref pl)]) T.cl_Deck T.na_Deck_ahead (n_lst a_nil (Nat.zero_le _)) (e_var 0 rfl) gd3 (fun F H q => q.1) (by show 3 < 900; decide) fun al acc F4 H4 g4 i4 h04 f04 hl4 hA4 => ?_
  obtain rfl : acc = [] := by
    cases acc with
    | nil => rfl
    | cons _ _ => exact hA4.elim
  have e4 : putF "ahead" (.ref al) [(("book" : Str), v1), ("elder", v2), ("past", V.ref pl)] = [(("book" : Str), v1), ("elder", v2), ("past", V.ref pl), ("ahead", V.ref al)] := by
    rw [pt_new (by decide +kernel), pt_new (by decide +kernel), pt_new (by decide +kernel)] <;> rfl
  rw [e4]
  obtain ⟨gr4, gd4⟩ := stp (fs' := [(("book" : Str), v1), ("elder", v2), ("past", V.ref pl), ("ahead", V.ref al)]) gd3 g4 i4
  have nx4 : al ≠ x := fun z => by
    rw [z, upd_same] at h04
    cases h04
  have h3p : upd H3 x (.ins DC dx [(("book" : Str), v1), ("elder", v2), ("past", V.ref pl)]) pl = some (.lst []) := by rw [upd_ne nx3]; exact hl3
  have ne : pl ≠ al := fun z => by
    rw [← z, h3p] at h04
    cases h04
  refine go_fldM (x := x) (dx := dx) (fs := [(("book" : Str), v1), ("elder", v2), ("past", V.ref pl), ("ahead", V.ref al)]) T.cl_Deck T.na_Deck_under (e_int (i := 0)) (e_var 0 rfl) gd4 (fun F H q => q.1) (by show 4 < 900; decide) fun v5 F5 H5 g5 i5 p5 => go_end ?_
  have e5 : putF "under" v5 [(("book" : Str), v1), ("elder", v2), ("past", V.ref pl), ("ahead", V.ref al)] = dkF v1 v2 pl al 0 := by
    rw [pt_new (by decide +kernel), pt_new (by decide +kernel), pt_new (by decide +kernel), pt_new (by decide +kernel), show v5 = .int 0 from DAt.i p5] <;> rfl
  rw [e5]
  obtain ⟨gr5, gd5⟩ := stp (fs' := dkF v1 v2 pl al 0) gd4 g5 i5
  have nU3 : ¬ (fun b => b = x) pl := nx3
  have nU4 : ¬ (fun b => b = x) al := nx4
  have h4p := gr4.hh pl _ nU3 h3p
  have h5p := gr5.hh pl _ nU3 h4p
  have h4a : upd H4 x (.ins DC dx [(("book" : Str), v1), ("elder", v2), ("past", V.ref pl), ("ahead", V.ref al)]) al = some (.lst []) := by rw [upd_ne nx4]; exact hl4
  have h5a := gr5.hh al _ nU4 h4a
  have f3p : F5 pl = none := gr5.nw _ (gr4.nw _ f03 (by rw [h3p]; simp)) (by rw [h4p]; simp)
  have f4a : F5 al = none := gr5.nw _ f04 (by rw [h4a]; simp)
  refine q pl al F5 _ (gr1.trans (gr2.trans (gr3.trans (gr4.trans gr5)))) (gr1.dm _ (gr2.dm _ h03)) (gr1.dm _ (gr2.dm _ (gr3.dm _ h04))) ?_
  exact ⟨dx, v1, v2, [], [], upd_same, h5p, h5a, ⟨i5.2, f3p, f4a⟩, ne, (DicT []).mono _ _ _ (gr2.ff.trans (gr3.ff.trans (gr4.ff.trans gr5.ff))) p1, trivial, trivial⟩
end
end R60

set_option Elab.async false
set_option pp.maxSteps 400
set_option linter.all false
set_option maxRecDepth 100000
set_option maxHeartbeats 1000000
namespace R60
open PySem PySem.Spec PyProof.Rows L2
/-! ### len of an own thing -/
section
variable {X : Cx} {x C : Addr} {k j n : Nat} {ι : Type} {mi : ι → Mu} {Ts : ι → List Ty}
theorem call_lenOwn {cnt : ι → Nat} {m : Mu} (i : ι) (c : MetX X.prog X.w X.K X.mg X.base k C "__len__" (spG (α := Unit) X.K X.mg mi Ts (fun _ => .ok ()) (fun i _ => Is X.K (.int (cnt i : Nat))))) (hr : Room j X.A) (hk : k + 1 ≤ j) (hl : cnt i ≤ 1000) :
    CallR X (.builtin "len") (fun xs H Q => ∃ x dx fs F, xs = [.ref x] ∧ H x = some (.ins C dx fs) ∧ Ex F H ∧ (mi i).I F H ∧ HoldsA (Ts i) [.ref x] F ∧ ∀ F' H', Gr (mi i).U F H F' H' → (mi i).I F' H' → Q (.int (cnt i : Nat)) H') := by
  intro pins s σ H xs us Q I rv ⟨x, dx, fs, F, ex, hx, eF, iI, hA, q⟩
  subst ex
  obtain rfl := Vals.ref1 rv
  obtain ⟨f, fd, ps, c1, c2, c3, c4⟩ := c
  obtain ⟨mA, J, _⟩ := ins_get I.hok hx
  obtain ⟨od, J, _⟩ := J.look
  obtain ⟨m, hF⟩ := I.fr
  refine PySem.W.len_K hF I.ok.mod.kin J c2.at_ c2.fn ?_
  have hsp : spG (α := Unit) X.K X.mg mi Ts (fun _ => .ok ()) (fun i _ => Is X.K (.int (cnt i : Nat))) [.ref x] H (fun v H' => v = .int (cnt i : Nat) ∧ Q (.int (cnt i : Nat)) H') (fun _ _ _ => False) :=
    ⟨i, F, eF, iI, hA, fun v F' H' g i' p => ⟨DAt.i p, q F' H' g i'⟩⟩
  have e0 : Env0 X.prog X.w X.K X.mg X.base X.A.in1 X.stack s H := I.env0.in1
  have hl' := c4.len _ _ _ _ hsp
  have r2 : Vals [V.ref x] [Value.ref x] := .cons rfl .nil
  refine wpAny_call (codeAny_mono (c4.run X.A.in1 X.stack s H ⟨[.ref x], []⟩ [.ref x] [.ref x] _ _ ((hr.mono hk).in1) e0 (by
    have := c3 s [.ref x] I.kIn (by simpa using hl')
    simpa using this) r2 hsp) fun r s' hq => ?_)
  cases r with
  | error e => exact passL pins σ H s e s' I hq
  | ok fl =>
    cases fl with
    | next => exact hq.elim
    | brk => exact hq.elim
    | cont => exact hq.elim
    | ret u =>
      obtain ⟨z, H', I', rz, ez, q'⟩ := I.after hq
      subst ez
      obtain ⟨t, rfl⟩ := (show ∃ t, u = Value.int (cnt i : Nat) t from rz)
      refine ⟨⟨by omega, by omega⟩, ?_⟩
      exact ⟨.int (cnt i : Nat), H', I'.tok _, ⟨_, rfl⟩, q'⟩
/-- len(o), o an own thing whose state m tells -/
theorem e_lenOwn {Γ : Gam} {m : Mu} {o : Expr} {pos p : Pos} {cnt : ι → Nat} (i : ι) (c : MetX X.prog X.w X.K X.mg X.base k C "__len__" (spG (α := Unit) X.K X.mg mi Ts (fun _ => .ok ()) (fun i _ => Is X.K (.int (cnt i : Nat))))) (hr : Room j X.A) (hk : k + 1 ≤ j) (hl : cnt i ≤ 1000) (sb : Sub (mi i) m) (hT : Ts i = [Vl (.ref x)]) (hI : ∀ F H, m.I F H → ∃ dx fs, H x = some (.ins C dx fs)) (hm : X.mg "len" = none) (ho : EvE X m Γ o (Vl (.ref x)))
    (hg : Gl X "len" := by rfl) (hs : starEach [o] X.env = [(false, eval o X.env)] := by rfl) (hpl : (backTo pos (starEach [] X.env)).any (·.1) = false := by rfl) : EvE X m Γ (.Call (.Name "len" p) [o] [] pos) (Is X.K (.int (cnt i : Nat))) :=
  EvE.of (pe_callB (call_lenOwn (m := m) i c hr hk hl) hg hm (by decide +kernel) semA (by decide) (by decide) hs hpl) fun σ F H Q g q => (a_cons ho a_nil hs) σ F H g _ fun vs F1 H1 g1 i1 p1 => by
    obtain ⟨v, rfl, p2⟩ := one_of p1
    obtain rfl : v = .ref x := p2
    obtain ⟨dx, fs, hx⟩ := hI F1 H1 i1
    exact ⟨x, dx, fs, F1, rfl, hx, g1.fh, sb.i _ _ i1, by rw [hT]; exact ⟨rfl, trivial⟩, fun F' H' g' i' => q _ F' H' (g1.trans (sb.g _ _ _ _ g' i1 i').1) (sb.g _ _ _ _ g' i1 i').2 (.int .nil)⟩
end
end R60

set_option Elab.async false
set_option pp.maxSteps 400
set_option linter.all false
set_option maxRecDepth 100000
set_option maxHeartbeats 1000000
namespace R60
open PySem PySem.Spec PyProof.Rows L2
section
variable {X : Cx} {m : Mu} {E : XK} {Γ : Gam} {e a b c o : Expr} {P : Ty} {pos pos' p2 : Pos} {i j l : Int} {z z' : Str} {φ ψ χ : Int → Prop} {rest : List Stmt} {D : Ends} {σ : L2.St} {F H : Hp} {d : Addr}
theorem e_modI (ha : EvE X m Γ a (Is X.K (.int i))) (hb : EvE X m Γ b (Is X.K (.int j))) (h : 0 < j) : EvE X m Γ (.BinOp a .Mod b pos) (Is X.K (.int (i % j))) :=
  e_bin op_mod ha hb fun v u F H Q ex p1 p2 q => ⟨i, j, DAt.i p1, DAt.i p2, h, q _ F H (Gr.refl ex) (.int .nil)⟩
theorem e_fdivI (ha : EvE X m Γ a (Is X.K (.int i))) (hb : EvE X m Γ b (Is X.K (.int j))) (h : 0 < j ∧ j < 1073741824) : EvE X m Γ (.BinOp a .FloorDiv b pos) (Is X.K (.int (i / j))) :=
  e_bin op_fdiv ha hb fun v u F H Q ex p1 p2 q => ⟨i, j, DAt.i p1, DAt.i p2, h, q _ F H (Gr.refl ex) (.int .nil)⟩
theorem e_powI {n : Nat} (ha : EvE X m Γ a (Is X.K (.int i))) (hb : EvE X m Γ b (Is X.K (.int n))) (h : n ≤ 1000000 ∧ i.natAbs < 2 ^ 64) : EvE X m Γ (.BinOp a .Pow b pos) (Is X.K (.int (i ^ n))) :=
  e_bin op_pow ha hb fun v u F H Q ex p1 p2 q => ⟨i, n, DAt.i p1, DAt.i p2, ⟨by omega, by omega, h.2⟩, q _ F H (Gr.refl ex) (by
    show (Is X.K _).p (V.int (i ^ (n : Int).toNat)) F
    rw [Int.toNat_natCast]
    exact .int .nil)⟩
theorem e_mulI (ha : EvE X m Γ a (Is X.K (.int i))) (hb : EvE X m Γ b (Is X.K (.int j))) (h : -(2 ^ 64) < i ∧ i < 2 ^ 64) : EvE X m Γ (.BinOp a .Mult b pos) (Is X.K (.int (i * j))) :=
  e_bin op_mul ha hb fun v u F H Q ex p1 p2 q => ⟨i, j, DAt.i p1, DAt.i p2, .inl h, q _ F H (Gr.refl ex) (.int .nil)⟩
theorem e_mulT {n : Int} (ha : EvE X m Γ a (Is X.K (.str z))) (hb : EvE X m Γ b (Is X.K (.int n))) (h : 0 ≤ n ∧ n ≤ 1000) (hl : z.length ≤ 1000) : EvE X m Γ (.BinOp a .Mult b pos) (Is X.K (.str (Txt.mul z n))) :=
  e_bin op_mulS ha hb fun v u F H Q ex p1 p2 q => ⟨z, n, DAt.s p1, DAt.i p2, h.1, h.2, hl, q _ F H (Gr.refl ex) (.str .nil)⟩
/-- o[i], o a list that may change -/
theorem e_ixM (ho : EvE X m Γ o (Vl (.ref d))) (hb : EvE X m Γ b (Is X.K (.int i))) (hI : ∀ F H, m.I F H → ∃ vs v, H d = some (.lst vs) ∧ atI vs i = some v ∧ P.p v F) (hs : PlainIx b := by exact fun _ _ => rfl) : EvE X m Γ (.Subscript o b pos) P :=
  EvE.of (pe_ix ix_list sem sem hs) fun σ F H Q g q => ev_two ho hb g fun v u F1 H1 g1 gg p1 p2 => by
    obtain ⟨vs, w, e1, e2, e3⟩ := hI F1 H1 gg.i
    exact ⟨d, vs, i, w, p1, DAt.i p2, SqL.of e1, e2, q w F1 H1 g1 gg.i e3⟩
/-- o[j] = v, o a list that may change -/
theorem go_lsetM {acc : List V} {j : Nat} {value ix : Expr} {Tv : Ty} (hv : EvE X m Γ value Tv) (ho : EvE X m Γ o (Vl (.ref d))) (hi : EvE X m Γ ix (Is X.K (.int j))) (g : Good m Γ σ F H) (hl : ∀ F H, m.I F H → H d = some (.lst acc)) (hj : j < acc.length)
    (k : ∀ v F' H', Gr m.U F H F' H' → m.I F' H' → Tv.p v F' → tSemS X rest D σ (L2.upd H' d (.lst (acc.set j v)))) (hs : swapsWithSole [.Subscript o ix pos'] value pos.line X.env = pure false := by rfl) (hw : swappedStores [.Subscript o ix pos'] value X.env = pure none := by rfl)
    (h1 : (assignEach [.Subscript o ix pos'] X.env).map (·.2) = [assign (.Subscript o ix pos') X.env] := by rfl) (hG : L2.PG X (.Subscript o ix pos') (gSub (tSem X o) (tSem X ix) rSetL) := by exact pg_sub sem sem set_list) : tSemS X (.Assign [.Subscript o ix pos'] value pos :: rest) D σ H := fun pins s I =>
  (pss_cons (ps_asg sem hG hs hw h1) semS).run pins s σ H D I (hv σ F H g _ fun v F1 H1 g1 i1 p1 => ho σ F1 H1 (g.next g1 i1) _ fun u F2 H2 g2 i2 p2 => hi σ F2 H2 ((g.next g1 i1).next g2 i2) _ fun w3 F3 H3 g3 i3 p3 =>
    ⟨d, acc, (j : Int), j, p2, DAt.i p3, hl _ _ i3, by
      unfold ixN
      rw [if_pos (by omega), if_pos (by omega)]
      simp, k v F3 H3 (Gr.trans (Gr.trans g1 g2) g3) i3 (Tv.mono _ _ _ (g2.ff.trans g3.ff) p1)⟩)
theorem tSemS.mono {D D' : Ends} {st : List Stmt} (h : tSemS X st D σ H) (nx : ∀ σ H, D.nx σ H → D'.nx σ H) (rt : ∀ v H, D.rt v H → D'.rt v H) (bk : ∀ σ H, D.bk σ H → D'.bk σ H) (ct : ∀ σ H, D.ct σ H → D'.ct σ H) : tSemS X st D' σ H := fun pins s I =>
  wpAny_mono (h pins s I) (fun f s1 q => by
    cases f with
    | next =>
      obtain ⟨σ', H', J, q⟩ := q
      exact ⟨σ', H', J, nx _ _ q⟩
    | brk =>
      obtain ⟨σ', H', J, q⟩ := q
      exact ⟨σ', H', J, bk _ _ q⟩
    | cont =>
      obtain ⟨σ', H', J, q⟩ := q
      exact ⟨σ', H', J, ct _ _ q⟩
    | ret u =>
      obtain ⟨v, σ', H', J, r, q⟩ := q
      exact ⟨v, σ', H', J, r, rt _ _ q⟩) fun _ _ q => q
/-- an if whose ways meet at J -/
theorem go_ifJ (J : L2.St → Hp → Prop) {S : Bool → Prop} {body orelse : List Stmt} (h : EvT X m Γ c S) (g : Good m Γ σ F H) (k1 : ∀ F' H', Gr m.U F H F' H' → m.I F' H' → S true → tSemS X body { D with nx := J } σ H') (k2 : ∀ F' H', Gr m.U F H F' H' → m.I F' H' → S false → tSemS X orelse { D with nx := J } σ H') (kJ : ∀ σ H, J σ H → tSemS X rest D σ H) :
    tSemS X (.If c body orelse pos :: rest) D σ H :=
  go_if h g (fun F' H' a b c => (k1 F' H' a b c).mono kJ (fun _ _ q => q) (fun _ _ q => q) fun _ _ q => q) (fun F' H' a b c => (k2 F' H' a b c).mono kJ (fun _ _ q => q) (fun _ _ q => q) fun _ _ q => q)
end
/-! ### the draws -/
structure DS where
  cl : Addr
  cs : List Int
  i : Nat
  rest : Int
  seed : Int
  cnt : Int
def DS.vs (s : DS) : List V := [.ref s.cl, .int s.i, .int s.rest, .int s.seed, .int s.cnt]
structure DS.ok (s : DS) : Prop where
  r : 0 ≤ s.rest
  s0 : 0 ≤ s.seed
  s1 : s.seed < 1000000007
  n : s.cs.length ≤ 1000
/-- where the draws are kept, and their cells -/
structure Dr where
  a : Addr
  cl : Addr
instance : CoeOut Dr Addr := ⟨Dr.a⟩
def DrI (d : Dr) (F H : Hp) : Prop := ∃ s : DS, H d.a = some (.lst s.vs) ∧ F d.a = none ∧ s.ok ∧ F s.cl = some (.lst (s.cs.map .int)) ∧ s.cl = d.cl
def mDraw (d : Dr) : Mu where
  U b := b = d.a
  I := DrI d
  st := fun F H F' H' g ⟨s, h1, h2, h3, h4, h5⟩ => ⟨s, g.same _ _ h1, g.nw _ h2 (by rw [h1]; simp), h3, g.ff _ _ h4, h5⟩
  up := fun F H b ⟨s, h1, _⟩ hb => by rw [hb, h1]; simp
  loc := fun F H H' q ⟨s, h1, h2, h3, h4⟩ => ⟨s, (q _ rfl).trans h1, h2, h3, h4⟩
  add := fun F H p o hp f0 ⟨s, h1, h2, h3, h4, h5⟩ => ⟨s, h1, by rw [upd_ne (fun z => hp z.symm)]; exact h2, h3, by rw [upd_ne (ne_of_none h4 f0)]; exact h4, h5⟩
/-- .. as they stand -/
def mDs (d : Addr) (s : DS) : Mu where
  U b := b = d
  I F H := H d = some (.lst s.vs) ∧ F d = none ∧ F s.cl = some (.lst (s.cs.map .int))
  st := fun F H F' H' g ⟨h1, h2, h4⟩ => ⟨g.same _ _ h1, g.nw _ h2 (by rw [h1]; simp), g.ff _ _ h4⟩
  up := fun F H b ⟨h1, _⟩ hb => by rw [hb, h1]; simp
  loc := fun F H H' q ⟨h1, h2, h4⟩ => ⟨(q _ rfl).trans h1, h2, h4⟩
  add := fun F H p o hp f0 ⟨h1, h2, h4⟩ => ⟨h1, by rw [upd_ne (fun z => hp z.symm)]; exact h2, by rw [upd_ne (ne_of_none h4 f0)]; exact h4⟩
end R60

set_option Elab.async false
set_option pp.maxSteps 400
set_option linter.all false
set_option maxRecDepth 100000
set_option maxHeartbeats 4000000
namespace R60
open PySem PySem.Spec PyProof.Rows L2
section
variable {w : World} {K : PySem.W.Frag} {mg : Str → Option Value} {base : Heap} {MC TC DC : Addr}
def p_Deck_len (K : PySem.W.Frag) (mg : Str → Option Value) (MC TC DC : Addr) : Sp := spG (ι := DkR) (α := Unit) K mg (fun i => mDr K MC TC DC i) (fun i => [Vl (.ref i.x)]) (fun _ => .ok ()) (fun i _ => Is K (.int (i.d.b.length : Nat)))
theorem f_Deck_len (T : Txt w K mg MC TC DC) : MetX PG w K mg base 1 DC "__len__" (p_Deck_len K mg MC TC DC) := by
  refine met_blk T.m_Deck_len sc_Deck_len bd_Deck_len (fun _ => rfl) (fun _ => rfl) ?_
  rintro i f cdv A outer s H E hr
  refine b_retD (v := ()) (e_lenD (kts := tk i.d.b (TapeT K MC TC)) T.n_len (e_fldM (P := BookT K MC TC i.d.b) T.cl_Deck T.na_Deck_book (e_var 0 rfl) fb_book)) rfl ?_
  show Is K (.int _) = Is K (.int _)
  congr 2
  unfold tk
  rw [List.length_map]
/-! the draws -/
theorem das_ints {F : Hp} : ∀ ns : List Int, DAs K F (ns.map .int) (ns.map .int)
  | [] => .nil
  | n :: ns => .int (das_ints ns)
abbrev Many := { n : Int // 1 ≤ n ∧ n < 1073741824 }
def p_pick (K : PySem.W.Frag) (mg : Str → Option Value) : Sp := spG (ι := Dr × Many) (α := Unit) K mg (fun i => mDraw i.1) (fun i => [Vl (.ref i.1.a), Is K (.int i.2.1)]) (fun _ => .ok ()) (fun i _ => IntS fun r => 0 ≤ r ∧ r < i.2.1)
theorem at_m {vs : List V} {i : Int} {v : V} (h : atI vs i = some v) {d : Addr} {P : Ty} {s : DS} (hs : s.vs = vs) (hp : ∀ F : Hp, F s.cl = some (.lst (s.cs.map .int)) → P.p v F) : ∀ F H, (mDs d s).I F H → ∃ vs v, H d = some (.lst vs) ∧ atI vs i = some v ∧ P.p v F :=
  fun F H ⟨h1, _, h4⟩ => ⟨vs, v, by rw [← hs]; exact h1, h, hp F h4⟩
theorem f_pick (T : Txt w K mg MC TC DC) : CalX PG w K mg base 1 "_law_pick" (p_pick K mg) := by
  refine cal_of T.d_Lpick sc_Lpick bd_Lpick (len_spG fun _ => rfl) ?_
  intro f cdv A outer s H vs Q E hr h
  obtain ⟨⟨d, many, hm1, hm2⟩, F, ex, ⟨s0, h1, h2, h3, h4, h5⟩, hA, q⟩ := h
  obtain ⟨v, u, rfl, p1, p2⟩ := two_of hA
  refine ⟨_, semS, ?_⟩
  have stp : ∀ {s1 : DS} {Γ : Gam} {σ : L2.St} {F1 H1 F2 H2 : Hp} (s2 : DS), Good (mDs d.a s1) Γ σ F1 H1 → Gr (mDs d.a s1).U F1 H1 F2 H2 → (mDs d.a s1).I F2 H2 → s2.cl = s1.cl → s2.cs = s1.cs → Gr (mDraw d).U F1 H1 F2 (upd H2 d.a (.lst s2.vs)) ∧ Good (mDs d.a s2) Γ σ F2 (upd H2 d.a (.lst s2.vs)) := fun {s1 Γ σ F1 H1 F2 H2} s2 g g2 i2 e1 e2 => by
    have gr := Gr.at_ (U := (mDraw d).U) (o := .lst s2.vs) g2 rfl (by rw [i2.1]; simp) i2.2.1
    exact ⟨gr, g.in_ g2.ff gr.fh ⟨upd_same, i2.2.1, by rw [e1, e2]; exact i2.2.2⟩⟩
  have gd : Good (mDs d.a s0) [some (Vl (.ref d.a)), some (Is K (.int many)), none, none] [some v, some u, none, none] F H := ⟨ex, ⟨h1, h2, h4⟩, HoldsA.holds (Ts := [Vl (.ref d.a), Is K (.int many)]) (vs := [v, u]) (k := 2) ⟨p1, p2, trivial⟩⟩
  have atc : ∀ s1 : DS, ∀ F H, (mDs d.a s1).I F H → ∃ vs v, H d.a = some (.lst vs) ∧ atI vs 0 = some v ∧ (Is K (.lst (s1.cs.map .int))).p v F := fun s1 => at_m rfl rfl fun F h => .lst h (das_ints _) .nil
  have ati : ∀ s1 : DS, ∀ F H, (mDs d.a s1).I F H → ∃ vs v, H d.a = some (.lst vs) ∧ atI vs 1 = some v ∧ (Is K (.int s1.i)).p v F := fun s1 => at_m rfl rfl fun F h => .int .nil
  have atr : ∀ s1 : DS, ∀ F H, (mDs d.a s1).I F H → ∃ vs v, H d.a = some (.lst vs) ∧ atI vs 2 = some v ∧ (Is K (.int s1.rest)).p v F := fun s1 => at_m rfl rfl fun F h => .int .nil
  have ats : ∀ s1 : DS, ∀ F H, (mDs d.a s1).I F H → ∃ vs v, H d.a = some (.lst vs) ∧ atI vs 3 = some v ∧ (Is K (.int s1.seed)).p v F := fun s1 => at_m rfl rfl fun F h => .int .nil
  have atn : ∀ s1 : DS, ∀ F H, (mDs d.a s1).I F H → ∃ vs v, H d.a = some (.lst vs) ∧ atI vs 4 = some v ∧ (Is K (.int s1.cnt)).p v F := fun s1 => at_m rfl rfl fun F h => .int .nil
  let J : L2.St → Hp → Prop := fun σ H1 => ∃ s1 F1 T2, Gr (mDraw d).U F H F1 H1 ∧ Good (mDs d.a s1) [some (Vl (.ref d.a)), some (Is K (.int many)), T2, none] σ F1 H1 ∧ s1.ok ∧ s1.cl = d.cl
  refine go_ifJ J (S := Eq (decide (s0.rest < many) && decide ((s0.i : Int) < (s0.cs.length : Nat)))) (EvT.eq (EvW.toT (w_andB (t_lt (e_ixM (e_var 0 rfl) e_int (atr s0)) (e_var 1 rfl)) fun _ => w_and1 (t_lt (e_ixM (e_var 0 rfl) e_int (ati s0)) (e_lenL (ds := s0.cs.map .int) T.n_len (e_ixM (e_var 0 rfl) e_int (atc s0)))))) (by rw [List.length_map])) gd (fun F1 H1 g1 i1 hb => ?_) (fun F1 H1 g1 i1 _ => go_end ⟨s0, F1, none, g1, gd.next g1 i1, h3, h5⟩) ?_
  · have hb : (decide (s0.rest < many) && decide ((s0.i : Int) < (s0.cs.length : Nat))) = true := hb
    rw [Bool.and_eq_true] at hb
    have hi : s0.i < s0.cs.length := by
      have := of_decide_eq_true hb.2
      omega
    have gd1 := gd.next g1 i1
    have hat : atI (s0.cs.map R60.D.int) (s0.i : Int) = some (.int s0.cs[s0.i]) := by
      unfold atI ixN
      rw [if_pos (by omega), if_pos (by rw [List.length_map]; omega)]
      simp [hi]
    refine go_set 2 (e_ixL (ds := s0.cs.map .int) (e_ixM (e_var 0 rfl) e_int (atc s0)) (e_ixM (e_var 0 rfl) e_int (ati s0)) hat) gd1 (fun v2 F2 H2 g2 i2 p2 gd2 => ?_) sc_Lpick.nd
    refine go_lsetM (d := d.a) (acc := s0.vs) (j := 1) (Tv := Is K (.int ((s0.i : Int) + 1))) (e_add (e_ixM (e_var 0 rfl) e_int (ati s0)) e_int) (e_var 0 rfl) e_int gd2 (fun F H q => q.1) (by show 1 < 5; decide) fun v3 F3 H3 g3 i3 p3 => ?_
    obtain ⟨gr3, gd3⟩ := stp { s0 with i := s0.i + 1 } gd2 g3 i3 rfl rfl
    rw [show s0.vs.set 1 v3 = ({ s0 with i := s0.i + 1 } : DS).vs by rw [show v3 = .int ((s0.i : Int) + 1) from DAt.i p3]; rfl]
    refine go_lsetM (d := d.a) (acc := ({ s0 with i := s0.i + 1 } : DS).vs) (j := 2) (Tv := Is K (.int 0)) e_int (e_var 0 rfl) e_int gd3 (fun F H q => q.1) (by show 2 < 5; decide) fun v4 F4 H4 g4 i4 p4 => ?_
    obtain ⟨gr4, gd4⟩ := stp { s0 with i := s0.i + 1, rest := 0 } gd3 g4 i4 rfl rfl
    rw [show ({ s0 with i := s0.i + 1 } : DS).vs.set 2 v4 = ({ s0 with i := s0.i + 1, rest := 0 } : DS).vs by rw [show v4 = .int 0 from DAt.i p4]; rfl]
    have gA : Gr (mDraw d).U F H F4 _ := (g1.trans g2).trans (gr3.trans gr4)
    refine go_if (S := Eq (decide ((10 ^ 18 : Int) ≤ s0.cs[s0.i]))) (t_ge (e_var 2 rfl) (e_powI (i := 10) (n := 18) e_int e_int (by decide))) gd4 (fun F5 H5 g5 i5 hk => ?_) (fun F5 H5 g5 i5 hk => ?_)
    · have hk : (10 ^ 18 : Int) ≤ s0.cs[s0.i] := of_decide_eq_true hk
      have gd5 := gd4.next g5 i5
      refine go_lsetM (d := d.a) (acc := ({ s0 with i := s0.i + 1, rest := 0 } : DS).vs) (j := 2) (Tv := Is K (.int s0.cs[s0.i])) (e_var 2 rfl) (e_var 0 rfl) e_int gd5 (fun F H q => q.1) (by show 2 < 5; decide) fun v6 F6 H6 g6 i6 p6 => ?_
      obtain ⟨gr6, gd6⟩ := stp { s0 with i := s0.i + 1, rest := s0.cs[s0.i] } gd5 g6 i6 rfl rfl
      rw [show ({ s0 with i := s0.i + 1, rest := 0 } : DS).vs.set 2 v6 = ({ s0 with i := s0.i + 1, rest := s0.cs[s0.i] } : DS).vs by rw [show v6 = .int s0.cs[s0.i] from DAt.i p6]; rfl]
      exact go_end (go_end ⟨_, F6, _, gA.trans (g5.trans gr6), gd6, ⟨by show 0 ≤ s0.cs[s0.i]; omega, h3.s0, h3.s1, h3.n⟩, h5⟩)
    · have gd5 := gd4.next g5 i5
      refine go_lsetM (d := d.a) (acc := ({ s0 with i := s0.i + 1, rest := 0 } : DS).vs) (j := 3) (Tv := Is K (.int ((s0.seed + s0.cs[s0.i]) % 1000000007))) (e_modI (e_add (e_ixM (e_var 0 rfl) e_int (ats { s0 with i := s0.i + 1, rest := 0 })) (e_var 2 rfl)) e_int (by decide)) (e_var 0 rfl) e_int gd5 (fun F H q => q.1) (by show 3 < 5; decide) fun v6 F6 H6 g6 i6 p6 => ?_
      obtain ⟨gr6, gd6⟩ := stp { s0 with i := s0.i + 1, rest := 0, seed := (s0.seed + s0.cs[s0.i]) % 1000000007 } gd5 g6 i6 rfl rfl
      rw [show ({ s0 with i := s0.i + 1, rest := 0 } : DS).vs.set 3 v6 = ({ s0 with i := s0.i + 1, rest := 0, seed := (s0.seed + s0.cs[s0.i]) % 1000000007 } : DS).vs by rw [show v6 = .int _ from DAt.i p6]; rfl]
      exact go_end (go_end ⟨_, F6, _, gA.trans (g5.trans gr6), gd6, ⟨Int.le_refl 0, Int.emod_nonneg _ (by decide), Int.emod_lt_of_pos _ (by decide), h3.n⟩, h5⟩)
  · rintro σ H1 ⟨s1, F1, T2, g1, gd1, ok1, cl1⟩
    have fin : ∀ (s2 : DS) F2 H2 v, Gr (mDraw d).U F H F2 H2 → (mDs d.a s2).I F2 H2 → s2.ok → s2.cl = d.cl → (IntS fun r => 0 ≤ r ∧ r < many).p v F2 → Q v H2 := fun s2 F2 H2 v g i ok cl p => q v F2 H2 g ⟨s2, i.1, i.2.1, ok, i.2.2, cl⟩ p
    refine go_if (S := Eq (decide (many ≤ s1.rest))) (t_ge (e_ixM (e_var 0 rfl) e_int (atr s1)) (e_var 1 rfl)) gd1 (fun F2 H2 g2 i2 hk => ?_) (fun F2 H2 g2 i2 hk => go_end ?_)
    · have gd2 := gd1.next g2 i2
      refine go_set 3 (e_modI (e_ixM (e_var 0 rfl) e_int (atr s1)) (e_var 1 rfl) (by omega)) gd2 (fun v3 F3 H3 g3 i3 p3 gd3 => ?_) sc_Lpick.nd
      refine go_lsetM (d := d.a) (acc := s1.vs) (j := 2) (Tv := Is K (.int (s1.rest / many))) (e_fdivI (e_ixM (e_var 0 rfl) e_int (atr s1)) (e_var 1 rfl) (by omega)) (e_var 0 rfl) e_int gd3 (fun F H q => q.1) (by show 2 < 5; decide) fun v4 F4 H4 g4 i4 p4 => ?_
      obtain ⟨gr4, gd4⟩ := stp { s1 with rest := s1.rest / many } gd3 g4 i4 rfl rfl
      rw [show s1.vs.set 2 v4 = ({ s1 with rest := s1.rest / many } : DS).vs by rw [show v4 = .int _ from DAt.i p4]; rfl]
      refine go_ret (P := Is K (.int (s1.rest % many))) (e_var 3 rfl) gd4 fun v5 F5 H5 g5 i5 p5 => ?_
      refine fin { s1 with rest := s1.rest / many } F5 H5 v5 ((g1.trans g2).trans (g3.trans (gr4.trans g5))) i5 ⟨Int.ediv_nonneg ok1.r (by omega), ok1.s0, ok1.s1, ok1.n⟩ cl1 ⟨_, DAt.i p5, Int.emod_nonneg _ (by omega), Int.emod_lt_of_pos _ (by omega)⟩
    · have gd2 := gd1.next g2 i2
      refine go_lsetM (d := d.a) (acc := s1.vs) (j := 4) (Tv := Is K (.int (s1.cnt + 1))) (e_add (e_ixM (e_var 0 rfl) e_int (atn s1)) e_int) (e_var 0 rfl) e_int gd2 (fun F H q => q.1) (by show 4 < 5; decide) fun v4 F4 H4 g4 i4 p4 => ?_
      obtain ⟨gr4, gd4⟩ := stp { s1 with cnt := s1.cnt + 1 } gd2 g4 i4 rfl rfl
      rw [show s1.vs.set 4 v4 = ({ s1 with cnt := s1.cnt + 1 } : DS).vs by rw [show v4 = .int _ from DAt.i p4]; rfl]
      have hs := ok1.s0
      have hs' := ok1.s1
      refine go_lsetM (d := d.a) (acc := ({ s1 with cnt := s1.cnt + 1 } : DS).vs) (j := 3) (Tv := Is K (.int ((s1.seed ^ 3 + 40503 * (s1.cnt + 1) + 17) % 1000000007))) (e_modI (e_add (e_add (e_powI (n := 3) (e_ixM (e_var 0 rfl) e_int (ats { s1 with cnt := s1.cnt + 1 })) e_int ⟨by decide, by show s1.seed.natAbs < 2 ^ 64; omega⟩) (e_mulI e_int (e_ixM (e_var 0 rfl) e_int (atn { s1 with cnt := s1.cnt + 1 })) (by decide))) e_int) e_int (by decide)) (e_var 0 rfl) e_int gd4 (fun F H q => q.1) (by show 3 < 5; decide) fun v6 F6 H6 g6 i6 p6 => ?_
      obtain ⟨gr6, gd6⟩ := stp { s1 with cnt := s1.cnt + 1, seed := (s1.seed ^ 3 + 40503 * (s1.cnt + 1) + 17) % 1000000007 } gd4 g6 i6 rfl rfl
      rw [show ({ s1 with cnt := s1.cnt + 1 } : DS).vs.set 3 v6 = ({ s1 with cnt := s1.cnt + 1, seed := (s1.seed ^ 3 + 40503 * (s1.cnt + 1) + 17) % 1000000007 } : DS).vs by rw [show v6 = .int _ from DAt.i p6]; rfl]
      refine go_ret (e_modI (e_fdivI (e_ixM (e_var 0 rfl) e_int (ats _)) e_int (by decide)) (e_var 1 rfl) (by omega)) gd6 fun v7 F7 H7 g7 i7 p7 => ?_
      exact fin _ F7 H7 v7 ((g1.trans g2).trans (gr4.trans (gr6.trans g7))) i7 ⟨ok1.r, Int.emod_nonneg _ (by decide), Int.emod_lt_of_pos _ (by decide), ok1.n⟩ cl1 ⟨_, DAt.i p7, Int.emod_nonneg _ (by omega), Int.emod_lt_of_pos _ (by omega)⟩
end
end R60

set_option Elab.async false
set_option pp.maxSteps 400
set_option linter.all false
set_option maxRecDepth 100000
set_option maxHeartbeats 1000000
namespace R60
open PySem PySem.Spec PyProof.Rows L2
/-! ### lists and tuples of n things of one kind -/
def LsP (P : Ty) (n : Nat) : Ty := ⟨fun v F => ∃ a vs, v = .ref a ∧ F a = some (.lst vs) ∧ vs.length = n ∧ ∀ u ∈ vs, P.p u F, fun v F F' e ⟨a, vs, h1, h2, h3, h4⟩ => ⟨a, vs, h1, e _ _ h2, h3, fun u hu => P.mono _ _ _ e (h4 u hu)⟩⟩
def TuP (K : PySem.W.Frag) (P : Ty) (n : Nat) : Ty := ⟨fun v F => ∃ a vs, v = .ref a ∧ SqT K F a vs ∧ vs.length = n ∧ ∀ u ∈ vs, P.p u F, fun v F F' e ⟨a, vs, h1, h2, h3, h4⟩ => ⟨a, vs, h1, ex_sqt e h2, h3, fun u hu => P.mono _ _ _ e (h4 u hu)⟩⟩
theorem all_holds {P : Ty} {F : Hp} : ∀ {Ts : List Ty} {vs : List V}, HoldsA Ts vs F → (∀ T ∈ Ts, ∀ v F, T.p v F → P.p v F) → ∀ u ∈ vs, P.p u F
  | [], [], _, _, u, hu => nomatch hu
  | T :: Ts, v :: vs, h, k, u, hu => by
    rcases List.mem_cons.mp hu with rfl | hu
    · exact k T List.mem_cons_self _ _ h.1
    · exact all_holds h.2 (fun S hS => k S (List.mem_cons_of_mem _ hS)) u hu
section
variable {X : Cx} {m : Mu} {E : XK} {Γ : Gam} {e a b c o : Expr} {es : List Expr} {P : Ty} {Ts : List Ty} {pos p : Pos} {n k : Nat}
theorem lsP_of {v : V} {F : Hp} (h : (LsT Ts).p v F) (k : ∀ T ∈ Ts, ∀ v F, T.p v F → P.p v F) (hn : Ts.length = n) : (LsP P n).p v F := by
  obtain ⟨a, vs, h1, h2, h3⟩ := h
  exact ⟨a, vs, h1, h2, by rw [h3.len, hn], all_holds h3 k⟩
theorem e_lsP (h : EvE X m Γ e (LsT Ts)) (k : ∀ T ∈ Ts, ∀ v F, T.p v F → P.p v F) (hn : Ts.length = n) : EvE X m Γ e (LsP P n) := h.imp fun v F p => lsP_of p k hn
theorem e_tuP {j} (ha : EvA X m Γ es Ts) (k : ∀ T ∈ Ts, ∀ v F, T.p v F → P.p v F) (hn : Ts.length = n) (hl : n ≤ 1000) : EvE X m Γ (.Tuple es j pos) (TuP X.K P n) :=
  e_tup ha (by rw [hn]; exact Nat.le_trans hl (by decide)) fun vs F p h1 h2 => ⟨p, vs, rfl, SqT.of h2, by rw [h1.len, hn], all_holds h1 k⟩
theorem e_liP (ha : EvA X m Γ es Ts) (k : ∀ T ∈ Ts, ∀ v F, T.p v F → P.p v F) (hn : Ts.length = n) (hl : n ≤ 1000) : EvE X m Γ (.List es pos) (LsP P n) :=
  e_lst ha (by rw [hn]; exact Nat.le_trans hl (by decide)) fun vs F p h1 h2 => ⟨p, vs, rfl, h2, by rw [h1.len, hn], all_holds h1 k⟩
theorem ap_nil : EvA X m Γ [] (List.replicate 0 P) := a_nil
theorem ap_cons (h : EvE X m Γ e P) (r : EvA X m Γ es (List.replicate n P)) (hs : starEach (e :: es) X.env = (false, eval e X.env) :: starEach es X.env := by rfl) : EvA X m Γ (e :: es) (List.replicate (n + 1) P) := a_cons h r hs
theorem e_liA (ha : EvA X m Γ es (List.replicate n P)) (hl : n ≤ 1000 := by decide) : EvE X m Γ (.List es pos) (LsP P n) := e_liP ha (fun T hT v F p => by rw [List.eq_of_mem_replicate hT] at p; exact p) List.length_replicate hl
theorem e_tuA {j} (ha : EvA X m Γ es (List.replicate n P)) (hl : n ≤ 1000 := by decide) : EvE X m Γ (.Tuple es j pos) (TuP X.K P n) := e_tuP ha (fun T hT v F p => by rw [List.eq_of_mem_replicate hT] at p; exact p) List.length_replicate hl
theorem at_in {vs : List V} {r : Int} (h : 0 ≤ r ∧ r < vs.length) : ∃ v ∈ vs, atI vs r = some v := by
  refine ⟨vs[r.toNat]'(by omega), List.getElem_mem _, ?_⟩
  unfold atI ixN
  rw [if_pos h.1, if_pos h.2]
  simp
theorem e_ixLP (ha : EvE X m Γ a (LsP P n)) (hb : EvE X m Γ b (IntS fun r => 0 ≤ r ∧ r < n)) (hs : PlainIx b := by exact fun _ _ => rfl) : EvE X m Γ (.Subscript a b pos) P :=
  e_ix ix_list ha hb (fun v u F H Q ex ⟨a, vs, e1, e2, e3, e4⟩ ⟨r, e5, e6⟩ q => by
    obtain ⟨w, hw, h⟩ := at_in (vs := vs) (r := r) (by rw [e3]; exact e6)
    exact ⟨a, vs, r, w, e1, e5, SqL.of (ex _ _ e2), h, q _ F H (Gr.refl ex) (e4 w hw)⟩) hs
theorem e_ixTP (ha : EvE X m Γ a (TuP X.K P n)) (hb : EvE X m Γ b (IntS fun r => 0 ≤ r ∧ r < n)) (hs : PlainIx b := by exact fun _ _ => rfl) : EvE X m Γ (.Subscript a b pos) P :=
  e_ix ix_tup ha hb (fun v u F H Q ex ⟨a, vs, e1, e2, e3, e4⟩ ⟨r, e5, e6⟩ q => by
    obtain ⟨w, hw, h⟩ := at_in (vs := vs) (r := r) (by rw [e3]; exact e6)
    exact ⟨a, vs, r, w, e1, e5, ex_sqt ex e2, h, q _ F H (Gr.refl ex) (e4 w hw)⟩) hs
theorem e_lenP (hm : X.mg "len" = none) (ha : EvE X m Γ e (LsP P n)) (hg : Gl X "len" := by rfl) (hs : starEach [e] X.env = [(false, eval e X.env)] := by rfl) (hpl : (backTo pos (starEach [] X.env)).any (·.1) = false := by rfl) : EvE X m Γ (.Call (.Name "len" p) [e] [] pos) (Is X.K (.int n)) :=
  e_blt call_len hm (a_cons ha a_nil hs) (fun vs F H Q ex h q => by
    obtain ⟨v, rfl, a, us, rfl, h2, h3, h4⟩ := one_of h
    exact ⟨_, us.length, rfl, .inl ⟨us, SqL.of (ex _ _ h2), rfl⟩, q _ F H (Gr.refl ex) (by rw [h3]; exact .int .nil)⟩) PySem.boot_len hg (by decide) (by decide) hs hpl
theorem e_catP {k : Nat} (ha : EvE X m Γ a (LsP P n)) (hb : EvE X m Γ b (LsP P k)) (hl : n + k ≤ 100000) : EvE X m Γ (.BinOp a .Add b pos) (LsP P (n + k)) :=
  e_bin op_cat ha hb fun v u F H Q ex p1 p2 q => by
    obtain ⟨a, xs, e1, h2, h3, h4⟩ := p1
    obtain ⟨b, ys, e2, h5, h6, h7⟩ := p2
    refine ⟨a, b, xs, ys, e1, e2, ex _ _ h2, ex _ _ h5, by rw [h3, h6]; exact Nat.le_trans hl (by decide), fun p hp => ?_⟩
    have gn : Gr0 F H (upd F p (.lst (xs ++ ys))) (upd H p (.lst (xs ++ ys))) := Gr.new ex hp
    refine q _ _ _ gn ⟨p, _, rfl, upd_same, by rw [List.length_append, h3, h6], fun u hu => ?_⟩
    rcases List.mem_append.mp hu with hu | hu
    · exact P.mono _ _ _ gn.ff (h4 u hu)
    · exact P.mono _ _ _ gn.ff (h7 u hu)
end
end R60

set_option Elab.async false
set_option pp.maxSteps 400
set_option linter.all false
set_option maxRecDepth 100000
set_option maxHeartbeats 4000000
namespace R60
open PySem PySem.Spec PyProof.Rows L2
abbrev InR (lo hi : Int) : Ty := IntS fun r => lo ≤ r ∧ r ≤ hi
section
variable {w : World} {K : PySem.W.Frag} {mg : Str → Option Value} {base : Heap} {MC TC DC : Addr}
/-- _law_pick(draw, n) in any text that lets draw change -/
theorem e_pick {X : Cx} {m : Mu} {Γ : Gam} {a b : Expr} {pos p : Pos} {j : Nat} {d : Dr} {n : Int} (c : CalX X.prog X.w X.K X.mg X.base 1 "_law_pick" (p_pick X.K X.mg)) (hr : Room j X.A) (hk : 1 ≤ j) (sb : Sub (mDraw d) m) (hn : 1 ≤ n ∧ n < 1073741824) (ha : EvE X m Γ a (Vl (.ref d.a))) (hb : EvE X m Γ b (Is X.K (.int n)))
    (hg : Gl X "_law_pick" := by rfl) (h1 : starEach [a, b] X.env = (false, eval a X.env) :: starEach [b] X.env := by rfl) (h2 : starEach [b] X.env = [(false, eval b X.env)] := by rfl) (hpl : (backTo pos (starEach [b] X.env)).any (·.1) = false := by rfl) : EvE X m Γ (.Call (.Name "_law_pick" p) [a, b] [] pos) (IntS fun r => 0 ≤ r ∧ r < n) :=
  e_call (ι := Dr × Many) (α := Unit) (v := ()) (d, ⟨n, hn⟩) c hr hk sb rfl (a_cons ha (a_cons hb a_nil h2) h1) rfl hg (by decide) h1 hpl
def p_one (K : PySem.W.Frag) (mg : Str → Option Value) : Sp := spG (ι := Dr × Ty × { n : Nat // 1 ≤ n ∧ n ≤ 1000 }) (α := Unit) K mg (fun i => mDraw i.1) (fun i => [Vl (.ref i.1.a), LsP i.2.1 i.2.2.1]) (fun _ => .ok ()) (fun i _ => i.2.1)
theorem fl_one (T : Txt w K mg MC TC DC) : CalX PG w K mg base 2 "_law_one" (p_one K mg) := by
  refine cal_blk T.d_Lone sc_Lone bd_Lone (fun _ => rfl) (fun _ => rfl) ?_
  rintro ⟨d, P, n, h1, h2⟩ f cdv A outer s H E hr
  exact b_retP (v := ()) (e_ixLP (n := n) (e_var 1 rfl) (e_pick (f_pick T) hr (by decide) Sub.refl (by omega) (e_var 0 rfl) (e_lenP T.n_len (e_var 1 rfl)))) rfl (fun u F p => p)
theorem e_onE {X : Cx} {m : Mu} {Γ : Gam} {a b : Expr} {pos p : Pos} {j : Nat} {d : Dr} {n : Nat} {P : Ty} (c : CalX X.prog X.w X.K X.mg X.base 2 "_law_one" (p_one X.K X.mg)) (hr : Room j X.A) (hk : 2 ≤ j) (sb : Sub (mDraw d) m) (ha : EvE X m Γ a (Vl (.ref d.a))) (hb : EvE X m Γ b (LsP P n)) (hn : 1 ≤ n ∧ n ≤ 1000)
    (hg : Gl X "_law_one" := by rfl) (h1 : starEach [a, b] X.env = (false, eval a X.env) :: starEach [b] X.env := by rfl) (h2 : starEach [b] X.env = [(false, eval b X.env)] := by rfl) (hpl : (backTo pos (starEach [b] X.env)).any (·.1) = false := by rfl) : EvE X m Γ (.Call (.Name "_law_one" p) [a, b] [] pos) P :=
  e_call (ι := Dr × Ty × { n : Nat // 1 ≤ n ∧ n ≤ 1000 }) (α := Unit) (v := ()) (d, P, ⟨n, hn⟩) c hr hk sb rfl (a_cons ha (a_cons hb a_nil h2) h1) rfl hg (by decide) h1 hpl
theorem e_inR {X : Cx} {m : Mu} {Γ : Gam} {e : Expr} {i lo hi : Int} (h : EvE X m Γ e (Is X.K (.int i))) (hi' : lo ≤ i ∧ i ≤ hi) : EvE X m Γ e (InR lo hi) := h.imp fun v F p => ⟨i, DAt.i p, hi'⟩
theorem is_inR {K : PySem.W.Frag} {i lo hi : Int} (h : lo ≤ i ∧ i ≤ hi) : ∀ v F, (Is K (.int i)).p v F → (InR lo hi).p v F := fun v F p => ⟨i, DAt.i p, h⟩
theorem inR_to {φ : Int → Prop} {lo hi : Int} (h : ∀ r, φ r → lo ≤ r ∧ r ≤ hi) : ∀ v F, (IntS φ).p v F → (InR lo hi).p v F := fun v F ⟨i, e, p⟩ => ⟨i, e, h i p⟩
abbrev p_drawR (K : PySem.W.Frag) (mg : Str → Option Value) (P : Ty) : Sp := spG (ι := Dr) (α := Unit) K mg (fun i => mDraw i) (fun i => [Vl (.ref i.a)]) (fun _ => .ok ()) (fun _ _ => P)
theorem fl_beat (T : Txt w K mg MC TC DC) : CalX PG w K mg base 3 "_law_beat" (p_drawR K mg (InR 1 960)) := by
  refine cal_blk T.d_Lbeat sc_Lbeat bd_Lbeat (fun _ => rfl) (fun _ => rfl) ?_
  rintro d f cdv A outer s H E hr
  exact b_retP (v := ()) (e_onE (n := 6) (P := InR 1 960) (fl_one T) hr (by decide) Sub.refl (e_var 0 rfl) (e_liA (ap_cons (e_inR e_int (by decide)) (ap_cons (e_inR e_int (by decide)) (ap_cons (e_inR e_int (by decide)) (ap_cons (e_addS (φ := fun i => i = 1) (χ := fun r => 1 ≤ r ∧ r ≤ 960) (e_is e_int) (e_pick (n := 960) (f_pick T) hr (by decide) Sub.refl (by decide) (e_var 0 rfl) e_int) fun i j h1 h2 => (by omega)) (ap_cons (e_inR e_int (by decide)) (ap_cons (e_inR e_int (by decide)) ap_nil))))))) (by decide)) rfl (fun u F p => p)
theorem fl_tick (T : Txt w K mg MC TC DC) : CalX PG w K mg base 2 "_law_tick" (p_drawR K mg (InR 0 999999)) := by
  refine cal_blk T.d_Ltick sc_Ltick bd_Ltick (fun _ => rfl) (fun _ => rfl) ?_
  rintro d f cdv A outer s H E hr
  exact b_retP (v := ()) (e_ixTP (n := 4) (P := InR 0 999999) (e_tuA (ap_cons ((e_pick (n := 30) (f_pick T) hr (by decide) Sub.refl (by decide) (e_var 0 rfl) e_int).imp (inR_to fun r h => (by omega))) (ap_cons ((e_pick (n := 1000) (f_pick T) hr (by decide) Sub.refl (by decide) (e_var 0 rfl) e_int).imp (inR_to fun r h => (by omega))) (ap_cons ((e_pick (n := 10 ^ 6) (f_pick T) hr (by decide) Sub.refl (by decide) (e_var 0 rfl) (e_powI (n := 6) e_int e_int (by decide))).imp (inR_to fun r h => (by omega))) (ap_cons (e_inR e_int (by decide)) ap_nil))))) (e_pick (n := 4) (f_pick T) hr (by decide) Sub.refl (by decide) (e_var 0 rfl) e_int)) rfl (fun u F p => p)
theorem fl_channel (T : Txt w K mg MC TC DC) : CalX PG w K mg base 2 "_law_channel" (p_drawR K mg (InR 0 15)) := by
  refine cal_blk T.d_Lchannel sc_Lchannel bd_Lchannel (fun _ => rfl) (fun _ => rfl) ?_
  rintro d f cdv A outer s H E hr
  exact b_retP (v := ()) (e_ixTP (n := 2) (P := InR 0 15) (e_tuA (ap_cons ((e_pick (n := 3) (f_pick T) hr (by decide) Sub.refl (by decide) (e_var 0 rfl) e_int).imp (inR_to fun r h => (by omega))) (ap_cons ((e_pick (n := 16) (f_pick T) hr (by decide) Sub.refl (by decide) (e_var 0 rfl) e_int).imp (inR_to fun r h => (by omega))) ap_nil))) (e_pick (n := 2) (f_pick T) hr (by decide) Sub.refl (by decide) (e_var 0 rfl) e_int)) rfl (fun u F p => p)
theorem fl_key (T : Txt w K mg MC TC DC) : CalX PG w K mg base 2 "_law_key" (p_drawR K mg (InR 0 127)) := by
  refine cal_blk T.d_Lkey sc_Lkey bd_Lkey (fun _ => rfl) (fun _ => rfl) ?_
  rintro d f cdv A outer s H E hr
  exact b_retP (v := ()) (e_ixTP (n := 2) (P := InR 0 127) (e_tuA (ap_cons (e_addS (φ := fun i => i = 60) (χ := fun r => 0 ≤ r ∧ r ≤ 127) (e_is e_int) (e_pick (n := 3) (f_pick T) hr (by decide) Sub.refl (by decide) (e_var 0 rfl) e_int) fun i j h1 h2 => (by omega)) (ap_cons ((e_pick (n := 128) (f_pick T) hr (by decide) Sub.refl (by decide) (e_var 0 rfl) e_int).imp (inR_to fun r h => (by omega))) ap_nil))) (e_pick (n := 2) (f_pick T) hr (by decide) Sub.refl (by decide) (e_var 0 rfl) e_int)) rfl (fun u F p => p)
end
end R60

set_option Elab.async false
set_option pp.maxSteps 400
set_option linter.all false
set_option maxRecDepth 100000
set_option maxHeartbeats 1000000
namespace R60
open PySem PySem.Spec PyProof.Rows L2
/-! ### comprehensions over a range whose length is not known -/
def LsE (P : Ty) (N : Nat) : Ty := ⟨fun v F => ∃ n, n ≤ N ∧ (LsP P n).p v F, fun v F F' e ⟨n, h, p⟩ => ⟨n, h, (LsP P n).mono v F F' e p⟩⟩
def PIxE (X : Cx) (m : Mu) (Γ : Gam) (tg iter : Expr) (N : Nat) : Prop := ∃ wi, PI X tg iter wi ∧ ∀ σ F H, Good m Γ σ F H → ∀ R : It → Hp → Prop, (∀ n, n ≤ N → ∀ J F1 H1, Gr m.U F H F1 H1 → m.I F1 H1 → Wk m J (List.range n).length F1 (YL (List.range n) fun k => Is X.K (.int k)) → R J H1) → wi σ H R
section
variable {X : Cx} {m : Mu} {E : XK} {Γ : Gam} {e a b c o elt tg iter : Expr} {P : Ty} {pos p : Pos} {N : Nat} {scope : Scope} {own : List (Str × Nat)}
theorem i_rangeE (hm : X.mg "range" = none) (h : EvE X m Γ a (IntS fun r => 0 ≤ r ∧ r ≤ N)) (hn : N ≤ 1000000) (hg : Gl X "range" := by rfl) (hs : starEach [a] X.env = [(false, eval a X.env)] := by rfl) : PIxE X m Γ tg (.Call (.Name "range" p) [a] [] pos) N :=
  ⟨_, pi_range1 hg hm semA hs, fun σ F H g R q => (show EvA X m Γ [a] [IntS fun r => 0 ≤ r ∧ r ≤ N] from a_cons h a_nil hs) σ F H g _ fun vs F1 H1 g1 i1 p1 => by
    obtain ⟨v, rfl, r, rfl, h0, h1⟩ := one_of p1
    obtain ⟨n, rfl⟩ := Int.eq_ofNat_of_zero_le h0
    refine ⟨(n : Int), rfl, by omega, by omega, q n (by omega) _ F1 H1 g1 i1 ?_⟩
    have e : (n : Int).toNat = n := by omega
    rw [e]
    refine ⟨fun F' H' a1 a2 aI i hi => ?_, fun F' H' a1 a2 aI => ?_, fun F' H' a1 a2 aI i x H2 hi y => ?_⟩
    · show i < n
      simpa using hi
    · show n ≤ _
      simp
    · obtain ⟨rfl, rfl⟩ := y
      refine ⟨F', Gr.refl a2, ?_⟩
      rw [yl_at (x := i) (by rw [List.getElem?_range (by simpa using hi)])]
      rw [Int.zero_add]
      exact .int .nil⟩
theorem e_lcE (Γ1 : Nat → Gam) (js : List Nat) (hcl : X.calm = true) (hN : X.N.Nodup) (hi : PIxE X m Γ tg iter N) (hn : N ≤ 1000) (ok : BlkOk X.N X.env.scope scope own)
    (ht : ∀ (x : Nat) s0 H0 C cl fp, TgT (blkX X scope s0 H0 C cl fp) m tg (Is X.K (.int ((x : Nat) : Int))) (lost Γ (own.map (·.2))) (Γ1 x) js)
    (he : ∀ x : Nat, ∀ s0 H0 C cl fp, EvE (blkX X scope s0 H0 C cl fp) m (Γ1 x) elt P) (hj : ∀ j ∈ js, j ∈ own.map (·.2) := by decide) (hs : ∀ x, foldedSetIterable iter X.env x = pure x := by intro _; rfl) :
    EvE X m Γ (.ListComp elt [⟨tg, iter, [], 0⟩] scope pos) (LsE P N) := by
  obtain ⟨wi, PW, ri⟩ := hi
  intro σ F H g Q q pins s I
  refine (pe_lc (g := gB X scope tg) (tt := tYes) (te := eB X scope elt) hcl hN PW ok (fun _ _ _ _ _ => ⟨fun pins s σ H v u Q I r h => h _ _ _ _ _ pins s u I r⟩) (fun _ _ _ _ _ => pts_nil) (fun _ _ _ _ _ => ⟨fun pins s σ H Q I h => h _ _ _ _ _ pins s I⟩) hs).run pins s σ H Q I ?_
  refine ri σ F H g _ fun n hn' J F1 H1 g1 i1 wk => ?_
  have := lc_read (xs := List.range n) (wi := fun _ _ R => R J H1) (tt := tYes) (ifs := []) (Γ1 := Γ1) (js := js) (bx := fun _ => true) (fx := fun _ => P) (elt := elt) (tg := tg) (scope := scope) (X := X) (vs := own.map (·.2)) (Q := Q) (fun R k => k J F1 H1 g1 i1 wk) g (by rw [List.length_range]; omega) .nil hj (fun i x hx s0 H0 C cl fp => ?_) (fun _ _ => rfl) (fun x _ _ => he x) (newL_of g.i fun v F' H' g' i' p => q v F' H' g' i' ⟨n, hn', ?_⟩)
  · exact this
  · rw [yl_at hx]
    exact ht x s0 H0 C cl fp
  · rw [List.filter_eq_self.mpr (fun _ _ => rfl)] at p
    exact lsP_of p (fun T hT v F p => by
      obtain ⟨_, _, rfl⟩ := List.mem_map.mp hT
      exact p) (by rw [List.length_map, List.length_range])
end
/-! ### what a slot holds, looked at -/
section
variable {X : Cx} {m : Mu} {E : XK} {Γ : Gam} {e a b c o : Expr} {P : Ty} {pos p apos cpos : Pos} {rest : List Stmt} {α : Type} {oc : Except Str α} {enc : α → Ty} {F H : Hp} {σ : L2.St}
theorem set_self {α : Type} : ∀ {l : List α} {i : Nat} {x : α}, l[i]? = some x → l.set i x = l
  | [], i, x, h => by simp at h
  | y :: l, 0, x, h => by
    simp at h
    rw [h] <;> rfl
  | y :: l, i + 1, x, h => by
    rw [List.set_cons_succ, set_self (by simpa using h)]
theorem Good.open_ {T : Ty} {i : Nat} {v : V} (g : Good m Γ σ F H) (hs : σ[i]? = some (some v)) (p : T.p v F) : Good m (Γ.set i (some T)) σ F H := ⟨g.ex, g.i, by
  have := g.h.set (i := i) (T := T) (v := v) (List.getElem?_eq_some_iff.mp hs).1 p
  rw [set_self hs] at this
  exact this⟩
theorem b_openS (i : Nat) {φ : Str → Prop} (hΓ : Γ[i]? = some (some (StrS φ))) (h : ∀ z, φ z → Blk X m E (Γ.set i (some (Is X.K (.str z)))) rest oc enc) : Blk X m E Γ rest oc enc := fun σ F H g => by
  obtain ⟨v, hs, z, rfl, hz⟩ := g.h i _ hΓ
  exact h z hz σ F H (g.open_ hs (.str .nil))
theorem b_openI (i : Nat) {φ : Int → Prop} (hΓ : Γ[i]? = some (some (IntS φ))) (h : ∀ n, φ n → Blk X m E (Γ.set i (some (Is X.K (.int n)))) rest oc enc) : Blk X m E Γ rest oc enc := fun σ F H g => by
  obtain ⟨v, hs, z, rfl, hz⟩ := g.h i _ hΓ
  exact h z hz σ F H (g.open_ hs (.int .nil))
theorem b_openT {β : Type} (i : Nat) {Q : β → Prop} {T : β → Ty} (P : Ty) (hΓ : Γ[i]? = some (some P)) (hP : ∀ v F, P.p v F → ∃ b, Q b ∧ (T b).p v F) (h : ∀ b, Q b → Blk X m E (Γ.set i (some (T b))) rest oc enc) : Blk X m E Γ rest oc enc := fun σ F H g => by
  obtain ⟨v, hs, p⟩ := g.h i _ hΓ
  obtain ⟨b, hb, q⟩ := hP v F p
  exact h b hb σ F H (g.open_ hs q)
/-! ### texts -/
theorem e_ixSS {z : Str} (ha : EvE X m Γ a (Is X.K (.str z))) (hb : EvE X m Γ b (IntS fun r => 0 ≤ r ∧ r < z.length)) (hl : z.length ≤ 1000) (hs : PlainIx b := by exact fun _ _ => rfl) : EvE X m Γ (.Subscript a b pos) (StrS fun y => y.length = 1) :=
  e_ix ix_str ha hb (fun v u F H Q ex p1 ⟨r, e5, e6⟩ q => by
    have hz : z.length = z.cps.toList.length := by simp [PySem.Str.length]
    refine ⟨z, r, z.cps.toList[r.toNat]'(by omega), DAt.s p1, e5, Nat.le_trans hl (by decide), ?_, q _ F H (Gr.refl ex) ⟨_, rfl, rfl⟩⟩
    unfold atI ixN
    rw [if_pos e6.1, if_pos (by omega)]
    simp) hs
theorem e_joinE {N : Nat} {z : Str} (ho : EvE X m Γ o (Is X.K (.str z))) (he : EvE X m Γ e (LsE (StrS fun y => y.length = 1) N)) (hz : z.length = 0) (hN : N ≤ 1000) (hlen : ∀ ys : List Str, ys.length ≤ N → (∀ y ∈ ys, y.length = 1) → (Txt.join z ys).length ≤ 1000)
    (hs : starEach [e] X.env = [(false, eval e X.env)] := by rfl) (hbase : attributeBase o "join" X.env (eval o X.env) = eval o X.env := by rfl) (hline : (apos.endLine == pos.line) = true := by rfl) : EvE X m Γ (.Call (.Attribute o "join" apos) [e] [] pos) (StrS fun y => y.length ≤ 1000) :=
  EvE.of (pe_join sem sem hs hbase hline) fun σ F H Q g q => ho σ F H g _ fun v F0 H0 g0 i0 p1 => ⟨⟨z, DAt.s p1⟩, he σ F0 H0 (g.next g0 i0) _ fun u F1 H1 g1 i1 ⟨n, hn, a, vs, e1, e2, e3, e4⟩ => by
    have hv : ∃ ys : List Str, vs = ys.map V.str ∧ ∀ y ∈ ys, y.length = 1 := by
      clear e2 e3
      induction vs with
      | nil => exact ⟨[], rfl, fun y hy => nomatch hy⟩
      | cons v vs ih =>
        obtain ⟨ys, rfl, h⟩ := ih fun u hu => e4 u (List.mem_cons_of_mem _ hu)
        obtain ⟨y, rfl, hy⟩ := e4 v List.mem_cons_self
        refine ⟨y :: ys, rfl, fun x hx => ?_⟩
        rcases List.mem_cons.mp hx with rfl | hx
        · exact hy
        · exact h x hx
    obtain ⟨ys, rfl, hy⟩ := hv
    rw [List.length_map] at e3
    have hsum : (ys.map (·.length)).sum = ys.length := by
      clear e2 e4 e3
      induction ys with
      | nil => rfl
      | cons y ys ih =>
        rw [List.map_cons, List.sum_cons, ih fun x hx => hy x (List.mem_cons_of_mem _ hx), hy y List.mem_cons_self, List.length_cons]
        omega
    exact ⟨z, a, ys, DAt.s p1, by rw [e1], .inl (SqL.of (g1.fh _ _ e2)), by rw [hsum, hz]; omega, q _ F1 H1 (g0.trans g1) i1 ⟨_, rfl, hlen ys (by omega) hy⟩⟩⟩
end
end R60

set_option Elab.async false
set_option pp.maxSteps 400
set_option linter.all false
set_option maxRecDepth 100000
set_option maxHeartbeats 4000000
namespace R60
open PySem PySem.Spec PyProof.Rows L2
section
variable {w : World} {K : PySem.W.Frag} {mg : Str → Option Value} {base : Heap} {MC TC DC : Addr}
theorem fl_pace (T : Txt w K mg MC TC DC) : CalX PG w K mg base 3 "_law_pace" (p_drawR K mg (InR 1 16777215)) := by
  refine cal_blk T.d_Lpace sc_Lpace bd_Lpace (fun _ => rfl) (fun _ => rfl) ?_
  rintro d f cdv A outer s H E hr
  exact b_retP (v := ()) (e_onE (n := 6) (P := InR 1 16777215) (fl_one T) hr (by decide) Sub.refl (e_var 0 rfl) (e_liA (ap_cons (e_inR e_int (by decide)) (ap_cons (e_inR e_int (by decide)) (ap_cons (e_inR e_int (by decide)) (ap_cons (e_addS (φ := fun i => i = 1) (χ := fun r => 1 ≤ r ∧ r ≤ 16777215) (e_is e_int) (e_pick (n := 16777215) (f_pick T) hr (by decide) Sub.refl (by decide) (e_var 0 rfl) e_int) fun i j h1 h2 => (by omega)) (ap_cons (e_addS (φ := fun i => i = 1) (χ := fun r => 1 ≤ r ∧ r ≤ 16777215) (e_is e_int) (e_pick (n := 9) (f_pick T) hr (by decide) Sub.refl (by decide) (e_var 0 rfl) e_int) fun i j h1 h2 => (by omega)) (ap_cons (e_inR e_int (by decide)) ap_nil))))))) (by decide)) rfl (fun u F p => p)
theorem e_mulTS {X : Cx} {m : Mu} {Γ : Gam} {a b : Expr} {pos : Pos} {N : Nat} (ha : EvE X m Γ a (StrS fun y => y.length = 1)) (hb : EvE X m Γ b (IntS fun r => 0 ≤ r ∧ r ≤ N)) (hN : N ≤ 1000) (hl : ∀ (z : Str) (n : Int), z.length = 1 → 0 ≤ n → n ≤ 1000 → (Txt.mul z n).length ≤ 1000) : EvE X m Γ (.BinOp a .Mult b pos) (StrS fun y => y.length ≤ 1000) :=
  e_bin op_mulS ha hb fun v u F H Q ex ⟨z, e1, hz⟩ ⟨n, e2, h0, h1⟩ q => ⟨z, n, e1, e2, h0, by omega, by omega, q _ F H (Gr.refl ex) ⟨_, rfl, hl z n hz h0 (by omega)⟩⟩
abbrev StrL : Ty := StrS fun y => y.length ≤ 1000
theorem mul_le (z : Str) (n : Int) (h : z.length = 1) (h0 : 0 ≤ n) (h1 : n ≤ 1000) : (Txt.mul z n).length ≤ 1000 := by
  have fl : ∀ (k : Nat) (a acc : Array Nat), ((List.replicate k a).foldl (· ++ ·) acc).size = acc.size + k * a.size := fun k a => by
    induction k with
    | zero => intro acc; simp
    | succ k ih =>
      intro acc
      rw [List.replicate_succ, List.foldl_cons, ih, Array.size_append, Nat.succ_mul]
      omega
  unfold Txt.mul
  by_cases c : n < 1
  · rw [if_pos c]
    exact Nat.zero_le _
  · rw [if_neg c]
    by_cases c2 : (n == 1 || z.length == 0) = true
    · rw [if_pos c2]
      omega
    · rw [if_neg c2]
      show ((List.replicate n.toNat z.cps).foldl (· ++ ·) #[]).size ≤ 1000
      rw [fl, show z.cps.size = 1 from h]
      simp
      omega
theorem join_le (ys : List Str) (h : ys.length ≤ 12) (h1 : ∀ y ∈ ys, y.length = 1) : (Txt.join "" ys).length ≤ 1000 := by
  have key : ∀ l : List (List Nat), (∀ x ∈ l, x.length = 1) → (TL.joinL [] l).length = l.length := fun l => by
    induction l with
    | nil => intro _; rfl
    | cons p r ih =>
      intro hx
      cases r with
      | nil => exact hx p List.mem_cons_self
      | cons q r =>
        show (p ++ ([] ++ TL.joinL [] (q :: r))).length = _
        rw [List.nil_append, List.length_append, ih fun x hm => hx x (List.mem_cons_of_mem _ hm), hx p List.mem_cons_self, List.length_cons, List.length_cons, List.length_cons]
        omega
  rw [TL.join_eq, TL.len_tl, TL.tl_join, show TL.tl ("" : Str) = [] from by decide, key]
  · rw [List.length_map]
    omega
  · intro x hx
    obtain ⟨y, hy, rfl⟩ := List.mem_map.mp hx
    rw [← TL.len_tl]
    exact h1 y hy
def p_word (K : PySem.W.Frag) (mg : Str → Option Value) : Sp := spG (ι := Dr) (α := Unit) K mg (fun i => mDraw i) (fun i => [Vl (.ref i), Is K (.int 12)]) (fun _ => .ok ()) (fun _ _ => StrL)
theorem fl_word (T : Txt w K mg MC TC DC) : CalX PG w K mg base 2 "_law_word" (p_word K mg) := by
  refine cal_blk T.d_Lword sc_Lword bd_Lword (fun _ => rfl) (fun _ => rfl) ?_
  rintro d f cdv A outer s H E hr
  refine b_set 2 (P := Is K (.str signs)) e_str ?_ sc_Lword.nd
  refine b_if (S := fun _ => True) (t_anyEq (e_pick (n := 2) (f_pick T) hr (by decide) Sub.refl (by decide) (e_var 0 rfl) e_int) (e_is e_int)) (fun _ => ?_) (fun _ => ?_)
  · exact b_retP (v := ()) (e_mulTS (N := 12) (e_ixSS (z := signs) (e_var 2 rfl) ((e_pick (n := 37) (f_pick T) hr (by decide) Sub.refl (by decide) (e_var 0 rfl) e_int).imp fun v F ⟨r, e, h⟩ => ⟨r, e, h⟩) (by decide)) ((e_pick (n := 12 + 1) (f_pick T) hr (by decide) Sub.refl (by decide) (e_var 0 rfl) (e_add (e_var 1 rfl) e_int)).imp fun v F ⟨r, e, h⟩ => ⟨r, e, by omega⟩) (by decide) mul_le) rfl (fun u F p => p)
  · refine b_retP (v := ()) (e_joinE (N := 12) (z := "") e_str (e_lcE (fun x => [some (Vl (.ref d.a)), some (Is K (.int 12)), some (Is K (.str signs)), some (Is K (.int x))]) [3] rfl sc_Lword.nd (i_rangeE T.n_range ((e_pick (n := 12 + 1) (f_pick T) hr (by decide) Sub.refl (by decide) (e_var 0 rfl) (e_add (e_var 1 rfl) e_int)).imp fun v F ⟨r, e, h⟩ => ⟨r, e, by omega⟩) (by decide)) (by decide)
      (blkOk_by (own := [("_law_k", 3)]) (N := ["_law_draw", "_law_most", "_law_signs", "_law_k"]) (sc := defScope s_Lword) (by decide +kernel)) (fun x _ _ _ _ _ => tg_name 3 sc_Lword.nd) (fun x _ _ _ _ _ => e_ixSS (z := signs) (e_var 2 rfl) ((e_pick (n := 37) (f_pick T) (by exact hr) (by decide) Sub.refl (by decide) (e_var 0 rfl) e_int).imp fun v F ⟨r, e, h⟩ => ⟨r, e, h⟩) (by decide))) rfl (by decide) join_le) rfl (fun u F p => p)
end
end R60

set_option Elab.async false
set_option pp.maxSteps 400
set_option linter.all false
set_option maxRecDepth 100000
set_option maxHeartbeats 4000000
namespace R60
open PySem PySem.Spec PyProof.Rows L2
abbrev StrN (n : Nat) : Ty := StrS fun y => y.length ≤ n
section
variable {X : Cx} {m : Mu} {Γ : Gam} {e a b : Expr} {pos p2 : Pos} {z : Str} {n k : Nat}
theorem cut_le {z : Str} {kl kh : Option Int} : (cutS z kl kh).length ≤ z.length := by
  unfold cutS
  simp [PySem.Str.length]
  omega
theorem e_slSS {lo hi : Option Expr} {kl kh : Option Int} (ha : EvE X m Γ a (Is X.K (.str z))) (hlo : EvO X m Γ lo kl) (hhi : EvO X m Γ hi kh) (hz : z.length ≤ n) (hn : n ≤ 1000) : EvE X m Γ (.Subscript a (.Slice lo hi none p2) pos) (StrN n) :=
  (e_slS ha hlo hhi (Nat.le_trans hz hn)).imp fun v F p => ⟨_, DAt.s p, Nat.le_trans cut_le hz⟩
theorem e_addSS {φ ψ : Str → Prop} (ha : EvE X m Γ a (StrS φ)) (hb : EvE X m Γ b (StrS ψ)) (h1 : ∀ y, φ y → y.length ≤ n) (h2 : ∀ y, ψ y → y.length ≤ k) (hl : n + k ≤ 1000) : EvE X m Γ (.BinOp a .Add b pos) (StrN (n + k)) :=
  e_bin op_add_str ha hb fun v u F H Q ex ⟨z, e1, hz⟩ ⟨y, e2, hy⟩ q => by
    have q1 := h1 z hz
    have q2 := h2 y hy
    have hlen : (z ++ y).length = z.length + y.length := by
      rw [TL.len_tl, TL.tl_append, List.length_append, ← TL.len_tl, ← TL.len_tl]
    exact ⟨z, y, e1, e2, Nat.le_trans (by omega : z.length + y.length ≤ 1000) (by decide), q _ F H (Gr.refl ex) ⟨_, rfl, by show (z ++ y).length ≤ n + k; rw [hlen]; omega⟩⟩
end
section
variable {w : World} {K : PySem.W.Frag} {mg : Str → Option Value} {base : Heap} {MC TC DC : Addr}
theorem two_let : (Txt.mul "abcdefghijklmnopqrstuvwxyz" 2).length = 52 := by decide +kernel
theorem e_inS {X : Cx} {m : Mu} {Γ : Gam} {e : Expr} {z : Str} {n : Nat} (h : EvE X m Γ e (Is X.K (.str z))) (hz : z.length ≤ n) : EvE X m Γ e (StrN n) := h.imp fun v F p => ⟨z, DAt.s p, hz⟩
theorem fl_names (T : Txt w K mg MC TC DC) : CalX PG w K mg base 2 "_law_names" (p_drawR K mg (LsP (StrN 15) 8)) := by
  refine cal_blk T.d_Lnames sc_Lnames bd_Lnames (fun _ => rfl) (fun _ => rfl) ?_
  rintro d f cdv A outer s H E hr
  refine b_set 1 (P := StrN 7) (e_ixTP (n := 6) (e_tuA (ap_cons (e_inS e_str (by decide +kernel)) (ap_cons (e_inS e_str (by decide +kernel)) (ap_cons (e_inS e_str (by decide +kernel)) (ap_cons (e_inS e_str (by decide +kernel)) (ap_cons (e_inS e_str (by decide +kernel)) (ap_cons (e_inS e_str (by decide +kernel)) ap_nil))))))) (e_pick (n := 6) (f_pick T) hr (by decide) Sub.refl (by decide) (e_var 0 rfl) e_int)) ?_ sc_Lnames.nd
  refine b_openS 1 rfl fun z hz => ?_
  refine b_set 2 (P := IntS fun r => 0 ≤ r ∧ r < (z.length : Int) + 1) (e_pick (n := (z.length : Int) + 1) (f_pick T) hr (by decide) Sub.refl (by omega) (e_var 0 rfl) (e_add (e_lenS T.n_len (by omega) (e_var 1 rfl)) e_int)) ?_ sc_Lnames.nd
  refine b_openI 2 rfl fun at_ hat => ?_
  refine b_set 3 (P := IntS fun r => 0 ≤ r ∧ r < 26) (e_pick (n := 26) (f_pick T) hr (by decide) Sub.refl (by decide) (e_var 0 rfl) e_int) ?_ sc_Lnames.nd
  refine b_openI 3 rfl fun fi hfi => ?_
  refine b_set 4 (P := Is K (.str (Txt.mul "abcdefghijklmnopqrstuvwxyz" 2))) (e_mulT (n := 2) e_str e_int (by decide) (by decide +kernel)) ?_ sc_Lnames.nd
  refine b_retP (v := ()) (e_lsP (P := StrN 15) (e_lc (xs := List.range 8) (Y := YL (List.range 8) fun k => Is K (.int k)) (fun k => [some (Vl (.ref d.a)), some (Is K (.str z)), some (Is K (.int at_)), some (Is K (.int fi)), some (Is K (.str (Txt.mul "abcdefghijklmnopqrstuvwxyz" 2))), some (Is K (.int k))]) [5] (fun _ => true) (fun _ => StrN 15) rfl sc_Lnames.nd (i_range (n := 8) T.n_range e_int (by decide)) (by decide)
    (blkOk_by (own := [("_law_k", 5)]) (N := ["_law_draw", "_law_stem", "_law_at", "_law_first", "_law_letters", "_law_k"]) (sc := defScope s_Lnames) (by decide +kernel)) .nil (by decide) (fun i x hx _ _ _ _ _ => tgY hx (tg_name 5 sc_Lnames.nd)) (fun _ _ => rfl) (fun x hx _ _ _ _ _ _ => ?_)) ?_ ?_) rfl (fun u F p => p)
  · have hx : x < 8 := List.mem_range.mp hx
    refine e_addSS (n := 8) (k := 7) (e_addSS (n := 7) (k := 1) (e_slSS (n := 7) (e_var 1 rfl) evo_none (evo_some (e_var 2 rfl)) hz (by decide)) (e_ixSS (z := Txt.mul "abcdefghijklmnopqrstuvwxyz" 2) (e_var 4 rfl) (e_addS (φ := fun r => 0 ≤ r ∧ r < 26) (ψ := fun r => 0 ≤ r ∧ r ≤ 21) ?_ (e_mulS (φ := fun r => r = 3) (ψ := fun r => 0 ≤ r ∧ r ≤ 7) (e_is e_int) ?_ ?_ ?_) ?_) (by decide +kernel)) (fun y h => h) (fun y h => Nat.le_of_eq h) (by decide)) (e_slSS (n := 7) (e_var 1 rfl) (evo_some (e_var 2 rfl)) evo_none hz (by decide)) (fun y h => h) (fun y h => h) (by decide)
    · exact (e_var 3 rfl : EvE _ _ _ _ (Is K (.int fi))).imp fun v F p => ⟨fi, DAt.i p, hfi⟩
    · exact (e_var 5 rfl : EvE _ _ _ _ (Is K (.int x))).imp fun v F p => ⟨x, DAt.i p, by omega⟩
    · intro i hi
      omega
    · intro i j hi hj
      subst hi
      omega
    · intro i j hi hj
      rw [two_let]
      omega
  · intro S hS v F p
    obtain ⟨_, _, rfl⟩ := List.mem_map.mp hS
    exact p
  · rfl
end
end R60

set_option Elab.async false
set_option pp.maxSteps 400
set_option linter.all false
set_option maxRecDepth 100000
set_option maxHeartbeats 4000000
namespace R60
open PySem PySem.Spec PyProof.Rows L2
/-- some word and things behind it -/
structure Th where
  k : Kd
  xs : List At
def Th.d (t : Th) : R60.D := .tup (.str t.k.s :: t.xs.map At.d)
structure Th.fit (t : Th) : Prop where
  n : t.xs.length ≤ 3
  p : 0 < t.xs.length
  z : ∀ a ∈ t.xs, ∀ z, a = .s z → z.length ≤ 1000
def ThS (K : PySem.W.Frag) : Ty := ⟨fun v F => ∃ t : Th, t.fit ∧ (Is K t.d).p v F, fun v F F' e ⟨t, h, p⟩ => ⟨t, h, (Is K t.d).mono v F F' e p⟩⟩
def AllI : List Ty → Prop
  | [] => True
  | T :: r => (∃ φ, T = IntS φ) ∧ AllI r
theorem AllI.mem : ∀ {P : List Ty}, AllI P → ∀ T ∈ P, ∃ φ, T = IntS φ
  | S :: r, h, T, hT => by
    rcases List.mem_cons.mp hT with rfl | hT
    · exact h.1
    · exact h.2.mem T hT
/-- three whole numbers behind a word -/
theorem th_ints {K : PySem.W.Frag} {F : Hp} {k : Kd} {v : V} {P : List Ty} (hP : ∀ T ∈ P, ∃ φ, T = IntS φ) (hl : P.length ≤ 3) (h0 : 0 < P.length) (h : (TuT K (Is K (.str k.s) :: P)).p v F) : (ThS K).p v F := by
  obtain ⟨a, vs, rfl, h1, h2⟩ := h
  cases vs with
  | nil => exact h2.elim
  | cons u us =>
    obtain ⟨p1, p2⟩ := h2
    have key : ∀ {P : List Ty} {us : List V}, (∀ T ∈ P, ∃ φ, T = IntS φ) → HoldsA P us F → ∃ ns : List Int, us = ns.map V.int ∧ ns.length = P.length := by
      intro P
      induction P with
      | nil => intro us _ h; cases us with
        | nil => exact ⟨[], rfl, rfl⟩
        | cons _ _ => exact h.elim
      | cons T P ih => intro us hP h; cases us with
        | nil => exact h.elim
        | cons u us =>
          obtain ⟨φ, rfl⟩ := hP T List.mem_cons_self
          obtain ⟨n, rfl, _⟩ := h.1
          obtain ⟨ns, rfl, hn⟩ := ih (fun S hS => hP S (List.mem_cons_of_mem _ hS)) h.2
          exact ⟨n :: ns, rfl, by rw [List.length_cons, List.length_cons, hn]⟩
    obtain ⟨ns, rfl, hn⟩ := key hP p2
    refine ⟨⟨k, ns.map At.i⟩, ⟨by rw [List.length_map]; omega, by rw [List.length_map]; omega, fun a ha z hz => ?_⟩, ?_⟩
    · obtain ⟨n, _, rfl⟩ := List.mem_map.mp ha
      cases hz
    · refine .tup h1 ?_ .nil
      show DAs K F (.str k.s :: (ns.map At.i).map At.d) (u :: ns.map V.int)
      rw [List.map_map]
      exact .cons p1 (DAs.ints ns)
section
variable {w : World} {K : PySem.W.Frag} {mg : Str → Option Value} {base : Heap} {MC TC DC : Addr}
theorem e_tuT {X : Cx} {m : Mu} {Γ : Gam} {es : List Expr} {pos : Pos} {j : Nat} {Ps : List Ty} (ha : EvA X m Γ es Ps) (hl : Ps.length ≤ 1000 := by exact Nat.le_of_ble_eq_true rfl) : EvE X m Γ (.Tuple es j pos) (TuT X.K Ps) := e_tup ha (Nat.le_trans hl (by decide)) fun vs F p h1 h2 => ⟨p, vs, rfl, SqT.of h2, h1⟩
theorem th_mark {K : PySem.W.Frag} {F : Hp} {v : V} (h : (TuT K [Is K (.str Kd.mark.s), StrL]).p v F) : (ThS K).p v F := by
  obtain ⟨a, vs, rfl, h1, h2⟩ := h
  obtain ⟨u1, u2, rfl, p1, z, rfl, hz⟩ := two_of h2
  refine ⟨⟨.mark, [.s z]⟩, ⟨Nat.le_of_ble_eq_true rfl, Nat.le_of_ble_eq_true rfl, fun a ha y hy => ?_⟩, .tup h1 (.cons p1 (.str .nil)) .nil⟩
  rw [List.mem_singleton.mp ha] at hy
  cases hy
  exact hz
theorem fl_thing (T : Txt w K mg MC TC DC) : CalX PG w K mg base 3 "_law_thing" (p_drawR K mg (ThS K)) := by
  refine cal_blk T.d_Lthing sc_Lthing bd_Lthing (fun _ => rfl) (fun _ => rfl) ?_
  rintro d f cdv A outer s H E hr
  refine b_set 1 (P := IntS fun r => 0 ≤ r ∧ r < 12) (e_pick (n := 12) (f_pick T) hr (by decide) Sub.refl (by decide) (e_var 0 rfl) e_int) ?_ sc_Lthing.nd
  refine b_openI 1 rfl fun kd hkd => ?_
  refine b_set 2 (P := InR 0 15) (e_call (ι := Dr) (α := Unit) (v := ()) d (fl_channel T) hr (by decide) Sub.refl rfl (a_cons (e_var 0 rfl) a_nil) rfl) ?_ sc_Lthing.nd
  refine b_if (t_lt (e_var 1 rfl) e_int) (fun _ => ?_) fun _ => ?_
  · exact b_retP (v := ()) (e_tuT (Ps := [Is K (.str Kd.on.s), InR 0 15, InR 0 127, InR 1 127]) (a_cons e_str (a_cons (e_var 2 rfl) (a_cons (e_call (ι := Dr) (α := Unit) (v := ()) d (fl_key T) hr (by decide) Sub.refl rfl (a_cons (e_var 0 rfl) a_nil) rfl) (a_cons (e_addS (φ := fun i => i = 1) (χ := fun r => 1 ≤ r ∧ r ≤ 127) (e_is e_int) (e_pick (n := 127) (f_pick T) hr (by decide) Sub.refl (by decide) (e_var 0 rfl) e_int) fun i j h1 h2 => (by omega)) a_nil))))) rfl fun u F p => th_ints (AllI.mem (by repeat (first | exact trivial | refine ⟨⟨_, rfl⟩, ?_⟩))) (Nat.le_of_ble_eq_true rfl) (Nat.le_of_ble_eq_true rfl) p
  refine b_if (t_lt (e_var 1 rfl) e_int) (fun _ => ?_) fun _ => ?_
  · exact b_retP (v := ()) (e_tuT (Ps := [Is K (.str Kd.off.s), InR 0 15, InR 0 127, InR 0 127]) (a_cons e_str (a_cons (e_var 2 rfl) (a_cons (e_call (ι := Dr) (α := Unit) (v := ()) d (fl_key T) hr (by decide) Sub.refl rfl (a_cons (e_var 0 rfl) a_nil) rfl) (a_cons (e_ixTP (n := 2) (P := InR 0 127) (e_tuA (ap_cons (e_inR e_int (by decide)) (ap_cons ((e_pick (n := 128) (f_pick T) hr (by decide) Sub.refl (by decide) (e_var 0 rfl) e_int).imp (inR_to fun r h => (by omega))) ap_nil))) (e_pick (n := 2) (f_pick T) hr (by decide) Sub.refl (by decide) (e_var 0 rfl) e_int)) a_nil))))) rfl fun u F p => th_ints (AllI.mem (by repeat (first | exact trivial | refine ⟨⟨_, rfl⟩, ?_⟩))) (Nat.le_of_ble_eq_true rfl) (Nat.le_of_ble_eq_true rfl) p
  refine b_if (t_lt (e_var 1 rfl) e_int) (fun _ => ?_) fun _ => ?_
  · exact b_retP (v := ()) (e_tuT (Ps := [Is K (.str Kd.knob.s), InR 0 15, InR 0 127, InR 0 127]) (a_cons e_str (a_cons (e_var 2 rfl) (a_cons (e_ixTP (n := 2) (P := InR 0 127) (e_tuA (ap_cons ((e_pick (n := 3) (f_pick T) hr (by decide) Sub.refl (by decide) (e_var 0 rfl) e_int).imp (inR_to fun r h => (by omega))) (ap_cons ((e_pick (n := 128) (f_pick T) hr (by decide) Sub.refl (by decide) (e_var 0 rfl) e_int).imp (inR_to fun r h => (by omega))) ap_nil))) (e_pick (n := 2) (f_pick T) hr (by decide) Sub.refl (by decide) (e_var 0 rfl) e_int)) (a_cons ((e_pick (n := 128) (f_pick T) hr (by decide) Sub.refl (by decide) (e_var 0 rfl) e_int).imp (inR_to fun r h => (by omega))) a_nil))))) rfl fun u F p => th_ints (AllI.mem (by repeat (first | exact trivial | refine ⟨⟨_, rfl⟩, ?_⟩))) (Nat.le_of_ble_eq_true rfl) (Nat.le_of_ble_eq_true rfl) p
  refine b_if (t_eqi (e_var 1 rfl) e_int) (fun _ => ?_) fun _ => ?_
  · exact b_retP (v := ()) (e_tuT (Ps := [Is K (.str Kd.voice.s), InR 0 15, InR 0 127]) (a_cons e_str (a_cons (e_var 2 rfl) (a_cons ((e_pick (n := 128) (f_pick T) hr (by decide) Sub.refl (by decide) (e_var 0 rfl) e_int).imp (inR_to fun r h => (by omega))) a_nil)))) rfl fun u F p => th_ints (AllI.mem (by repeat (first | exact trivial | refine ⟨⟨_, rfl⟩, ?_⟩))) (Nat.le_of_ble_eq_true rfl) (Nat.le_of_ble_eq_true rfl) p
  · exact b_retP (v := ()) (e_tuT (Ps := [Is K (.str Kd.mark.s), StrL]) (a_cons e_str (a_cons (e_call (ι := Dr) (α := Unit) (v := ()) d (fl_word T) hr (by decide) Sub.refl rfl (a_cons (e_var 0 rfl) (a_cons e_int a_nil)) rfl) a_nil))) rfl fun u F p => th_mark p
end
end R60

set_option Elab.async false
set_option pp.maxSteps 400
set_option linter.all false
set_option maxRecDepth 100000
set_option maxHeartbeats 4000000
namespace R60
open PySem PySem.Spec PyProof.Rows L2
/-- some event -/
def EvS (K : PySem.W.Frag) : Ty := ⟨fun v F => ∃ e : Ev, e.fit ∧ (Is K e.d).p v F, fun v F F' e ⟨t, h, p⟩ => ⟨t, h, (Is K t.d).mono v F F' e p⟩⟩
structure Ev.fat (e : Ev) : Prop where
  n : e.xs.length ≤ 3
  p : 0 < e.xs.length
  z : ∀ a ∈ e.xs, ∀ z, a = .s z → z.length ≤ 1000
def EvF (K : PySem.W.Frag) : Ty := ⟨fun v F => ∃ e : Ev, e.fat ∧ (Is K e.d).p v F, fun v F F' e ⟨t, h, p⟩ => ⟨t, h, (Is K t.d).mono v F F' e p⟩⟩
abbrev IntA : Ty := IntS fun _ => True
section
variable {X : Cx} {m : Mu} {Γ : Gam} {a b : Expr} {pos : Pos}
theorem e_neg {i : Int} (ha : EvE X m Γ a (Is X.K (.int i))) : EvE X m Γ (.UnaryOp .USub a pos) (Is X.K (.int (-i))) := EvE.of (pe_un un_neg sem) fun σ F H Q g q => ha σ F H g _ fun v F1 H1 g1 i1 p => ⟨i, DAt.i p, q _ F1 H1 g1 i1 (.int .nil)⟩
theorem f_end {E : XK} {Γ' : Gam} (w : ∀ σ F, Holds Γ σ F → Holds Γ' σ F) : StFs X m E Γ [] (.ok ()) (fun _ : Unit => Γ') := fun σ F H g D q => go_end (q σ F H (Gr.refl g.ex) ⟨g.ex, g.i, w σ F g.h⟩)
theorem e_catTh (ha : EvE X m Γ a (TuT X.K [IntA])) (hb : EvE X m Γ b (ThS X.K)) : EvE X m Γ (.BinOp a .Add b pos) (EvF X.K) :=
  e_bin op_catA ha hb fun v u F H Q ex p1 p2 q => by
    obtain ⟨a, xs, e1, h2, h3⟩ := p1
    obtain ⟨w, rfl, n, rfl, _⟩ := one_of h3
    obtain ⟨t, ht, p2⟩ := p2
    obtain ⟨b, ys, e2, h4, h5⟩ := DAt.t p2
    have hl : ys.length = t.xs.length + 1 := by
      have := h5.length
      simpa using this.symm
    have hn := ht.n
    refine ⟨a, b, _, ys, e1, e2, ex_sqt ex h2, ex_sqt ex h4, by rw [hl]; show 1 + (t.xs.length + 1) ≤ _; exact Nat.le_trans (by omega : 1 + (t.xs.length + 1) ≤ 5) (by decide), fun hx => absurd hx (by simp), fun hx hy => ?_, fun hx hy p hp => ?_⟩
    · rw [hy] at hl
      simp at hl
    · have gn : Gr0 F H (upd F p (.tup ([V.int n] ++ ys))) (upd H p (.tup ([V.int n] ++ ys))) := Gr.new ex hp
      refine q _ _ _ gn ⟨⟨n, t.k, t.xs⟩, ⟨ht.n, ht.p, ht.z⟩, .tup (SqT.of upd_same) ?_ .nil⟩
      exact .int (h5.mono gn.ff)
end
section
variable {w : World} {K : PySem.W.Frag} {mg : Str → Option Value} {base : Heap} {MC TC DC : Addr}
theorem cut_init {ds : List R60.D} : cutD ds none (some (-1)) = ds.dropLast := by
  unfold cutD
  rw [HT.sIx_none, List.drop_zero, List.dropLast_eq_take]
  congr 1
  have h : HT.sIx ds.length ds.length (some (-1)) = (-1 + (ds.length : Int)).toNat := by
    show (if (-1 : Int) < 0 then ((-1 : Int) + (ds.length : Int)).toNat else min (-1 : Int).toNat ds.length) = _
    rw [if_pos (by decide)]
  rw [h]
  omega
theorem fat_fit {e : Ev} (h : e.fat) : e.fit := ⟨Nat.le_trans h.n (by decide), h.z⟩
/-- [event[0] for event in track] -/
def ticksE : Expr := match defBody s_Lsome_event with
  | .Assign _ (.BinOp a _ _ _) _ :: _ => a
  | _ => .Name "x" ⟨0, 0, 0, 0⟩
/-- _law_some_event(draw, track) -/
def p_some_event (K : PySem.W.Frag) (mg : Str → Option Value) : Sp := spG (ι := Dr × { t : Tr // t.length ≤ 900 }) (α := Unit) K mg (fun i => mDraw i.1) (fun i => [Vl (.ref i.1.a), Is K (trD i.2.1)]) (fun _ => .ok ()) (fun _ _ => EvS K)
theorem fl_some_event (T : Txt w K mg MC TC DC) : CalX PG w K mg base 4 "_law_some_event" (p_some_event K mg) := by
  refine cal_blk T.d_Lsome_event sc_Lsome_event bd_Lsome_event (fun _ => rfl) (fun _ => rfl) ?_
  rintro ⟨d, t, ht⟩ f cdv A outer s H E hr
  replace ht : t.length ≤ 900 := ht
  have hlc : EvE (cxD PG w K mg base "_law_some_event" s_Lsome_event ["_law_draw", "_law_track", "_law_event", "_law_ticks"] f cdv A outer s H E) (mDraw d) [some (Vl (.ref d.a)), some (Is K (trD t)), none, none] (ticksE) (LsP IntA t.length) := by
    refine e_lsP (P := IntA) (e_lc (xs := t) (fun (e : Ev) => [some (Vl (.ref d.a)), some (Is K (trD t)), some (Is K e.d), none]) [2] (fun _ => true) (fun _ => IntA) rfl sc_Lsome_event.nd (i_list (e_ls (e_var 1 rfl))) (Nat.le_trans ht (by decide))
      (blkOk_by (own := [("_law_event", 2)]) (N := ["_law_draw", "_law_track", "_law_event", "_law_ticks"]) (sc := defScope s_Lsome_event) (by decide +kernel)) .nil (by decide) (fun i e he _ _ _ _ _ => tgY he (tg_name 2 sc_Lsome_event.nd)) (fun _ _ => rfl) (fun e he _ _ _ _ _ _ => (e_ixT (ds := .int e.t :: .str e.k.s :: e.xs.map At.d) (e_var 2 rfl) e_int at_0).imp fun v F p => ⟨e.t, DAt.i p, trivial⟩)) (fun S hS v F p => ?_) ?_
    · obtain ⟨_, _, rfl⟩ := List.mem_map.mp hS
      exact p
    · rw [List.filter_eq_self.mpr (fun _ _ => rfl), List.length_map]
  refine b_set 3 (P := LsP IntA (t.length + 3)) (e_catP hlc (e_liA (n := 3) (ap_cons ((e_is e_int).imp fun v F ⟨i, e, _⟩ => ⟨i, e, trivial⟩) (ap_cons ((e_pick (n := 60) (f_pick T) hr (by decide) Sub.refl (by decide) (e_var 0 rfl) e_int).imp fun v F ⟨i, e, _⟩ => ⟨i, e, trivial⟩) (ap_cons ((e_call (ι := Dr) (α := Unit) (v := ()) d (fl_tick T) hr (by decide) Sub.refl rfl (a_cons (e_var 0 rfl) a_nil) rfl : EvE _ _ _ _ (InR 0 999999)).imp fun v F ⟨i, e, _⟩ => ⟨i, e, trivial⟩) ap_nil)))) (by omega)) ?_ sc_Lsome_event.nd
  refine b_set 2 (P := EvF K) (e_catTh (e_tuT (Ps := [IntA]) (a_cons (e_onE (n := t.length + 3) (P := IntA) (fl_one T) hr (by decide) Sub.refl (e_var 0 rfl) (e_var 3 rfl) (by omega)) a_nil)) (e_call (ι := Dr) (α := Unit) (v := ()) d (fl_thing T) hr (by decide) Sub.refl rfl (a_cons (e_var 0 rfl) a_nil) rfl)) ?_ sc_Lsome_event.nd
  refine b_openT (β := Ev) 2 (Q := Ev.fat) (T := fun e => Is K e.d) (EvF K) rfl (fun v F p => p) fun e he => ?_
  refine b_stf (s_if (S := fun _ => True) (o := .ok ()) (Γ' := fun _ => [some (Vl (.ref d.a)), some (Is K (trD t)), some (EvS K), some (LsP IntA (t.length + 3))]) (t_anyEq (e_pick (n := 14) (f_pick T) hr (by decide) Sub.refl (by decide) (e_var 0 rfl) e_int) (e_is e_int)) (fun _ => f_one ?_) (fun _ => ?_)) (fun z h => nomatch h) fun _ _ => b_retP (v := ()) (e_var 2 rfl) rfl fun u F p => p
  · refine s_set 2 (P := EvS K) (e_onE (n := 4) (P := EvS K) (fl_one T) hr (by decide) Sub.refl (e_var 0 rfl) (e_liA (n := 4) (ap_cons ?_ (ap_cons ?_ (ap_cons ?_ (ap_cons ?_ ap_nil))))) (by decide)) sc_Lsome_event.nd
    · refine EvE.imp (e_slT (ds := .int e.t :: .str e.k.s :: e.xs.map At.d) (kl := none) (kh := some (-1)) (e_var 2 rfl) evo_none (evo_some (e_neg e_int))) fun v F p => ⟨⟨e.t, e.k, e.xs.dropLast⟩, ⟨by rw [List.length_dropLast]; have := he.n; show e.xs.length - 1 ≤ 10; omega, fun a ha => he.z a (List.dropLast_subset _ ha)⟩, ?_⟩
      have hc : cutD (R60.D.int e.t :: .str e.k.s :: e.xs.map At.d) none (some (-1)) = .int e.t :: .str e.k.s :: e.xs.dropLast.map At.d := by
        have hp := he.p
        cases hx : e.xs with
        | nil =>
          rw [hx] at hp
          cases hp
        | cons x r =>
          rw [cut_init, List.dropLast_cons_of_ne_nil (by simp), List.dropLast_cons_of_ne_nil (by simp), List.map_dropLast]
      rw [hc] at p
      exact p
    · refine EvE.imp (e_catT (ds := [.int (0 - 1)]) (e_tupD (ad_cons (e_sub e_int e_int) ad_nil)) (e_slT (ds := .int e.t :: .str e.k.s :: e.xs.map At.d) (kl := some 1) (kh := none) (e_var 2 rfl) (evo_some e_int) evo_none) ?_) fun v F p => ⟨⟨0 - 1, e.k, e.xs⟩, fat_fit ⟨he.n, he.p, he.z⟩, ?_⟩
      · rw [cut_1]
        have := he.n
        simp
        omega
      · rw [cut_1] at p
        exact p
    · refine EvE.imp (e_catT (ds := [.int (10 ^ 6)]) (e_tupD (ad_cons (e_powI (n := 6) e_int e_int (by decide)) ad_nil)) (e_slT (ds := .int e.t :: .str e.k.s :: e.xs.map At.d) (kl := some 1) (kh := none) (e_var 2 rfl) (evo_some e_int) evo_none) ?_) fun v F p => ⟨⟨10 ^ 6, e.k, e.xs⟩, fat_fit ⟨he.n, he.p, he.z⟩, ?_⟩
      · rw [cut_1]
        have := he.n
        simp
        omega
      · rw [cut_1] at p
        exact p
    · refine EvE.imp (e_tupD (ad_cons (e_int (i := 3)) (ad_cons e_str (ad_cons (e_int (i := 16)) (ad_cons (e_int (i := 1)) (ad_cons (e_int (i := 1)) ad_nil)))))) fun v F p => ⟨⟨3, .on, [.i 16, .i 1, .i 1]⟩, ⟨by decide, fun a ha z hz => ?_⟩, p⟩
      simp at ha
      rcases ha with rfl | rfl | rfl <;> cases hz
  · exact f_end fun σ F h i S hi => by
      match i, hi with
      | 0, hi => exact h 0 _ hi
      | 1, hi => exact h 1 _ hi
      | 3, hi => exact h 3 _ hi
      | 2, hi =>
        cases hi
        obtain ⟨v, e1, e2⟩ := h 2 _ rfl
        exact ⟨v, e1, e, fat_fit he, e2⟩
      | n + 4, hi => simp at hi
end
end R60

set_option Elab.async false
set_option pp.maxSteps 400
set_option linter.all false
set_option maxRecDepth 100000
set_option maxHeartbeats 4000000
namespace R60
open PySem PySem.Spec PyProof.Rows L2
section
variable {w : World} {K : PySem.W.Frag} {mg : Str → Option Value} {base : Heap} {MC TC DC : Addr}
def p_within (K : PySem.W.Frag) (mg : Str → Option Value) : Sp := spG (ι := At × Int × Int) (α := Unit) K mg (fun _ => m0) (fun i => [Is K i.1.d, Is K (.int i.2.1), Is K (.int i.2.2)]) (fun _ => .ok ()) (fun i _ => Is K (.bl (inR i.2.1 i.2.2 i.1)))
theorem fl_within (T : Txt w K mg MC TC DC) : CalX PG w K mg base 1 "_law_within" (p_within K mg) := by
  refine cal_blk T.d_Lwithin sc_Lwithin bd_Lwithin (fun _ => rfl) (fun _ => rfl) ?_
  rintro ⟨a, lo, hi⟩ f cdv A outer s H E hr
  cases a with
  | i n => exact b_retD (v := ()) (e_and (e_isi T.n_isinstance T.n_int (e_var 0 rfl) kb_int_int) fun _ => e_one (e_lele (e_var 1 rfl) (e_var 0 rfl) (e_var 2 rfl))) rfl rfl
  | s z => exact b_retD (v := ()) (e_and (k' := false) (e_isi T.n_isinstance T.n_int (e_var 0 rfl) kb_str_int) fun h => nomatch h) rfl rfl
end
end R60

set_option Elab.async false
set_option pp.maxSteps 400
set_option linter.all false
set_option maxRecDepth 100000
set_option maxHeartbeats 1000000
namespace R60
open PySem PySem.Spec PyProof.Rows L2
section
variable {X : Cx} {m : Mu} {E : XK} {Γ : Gam} {e a b c o f k : Expr} {P P0 : Ty} {pos p apos cpos : Pos} {j : Nat}
/-- o == {} -/
theorem t_eqD0 {kts : List (L2.Key × Ty)} {dp : Pos} (hr : Room j X.A) (ho : EvE X m Γ o (DicT kts)) (hm : behindInMarks .Eq (.Dict [] [] dp) = false := by rfl) : EvT X m Γ (.Compare o [.Eq] [.Dict [] [] dp] pos) (Eq kts.isEmpty) :=
  EvT.of (pt_cmpR (op_eqD0 (Nat.lt_of_succ_lt (hu_of hr))) sem sem hm) fun σ F H Q g q => ev_two ho e_dnew g fun v u F1 H1 g1 gg ⟨a, vs, e1, e2, e3⟩ ⟨b, us, e4, e5, e6⟩ => by
    obtain rfl : us = [] := by
      cases us with
      | nil => rfl
      | cons _ _ => exact e6.elim
    refine ⟨a, b, vs, e1, e4, gg.ex _ _ e2, gg.ex _ _ e5, _, rfl, q _ F1 H1 g1 gg.i ?_⟩
    cases kts <;> cases vs <;> first | rfl | exact e3.elim
/-- o.get(k, f) -/
theorem e_dgetO {kts : List (L2.Key × Ty)} {ky : L2.Key} (hr : Room j X.A) (ho : EvE X m Γ o (DicT kts)) (hk : EvE X m Γ k (Is X.K (keyD ky))) (hf : EvE X m Γ f P0) (h1 : ∀ T, atK kts ky = some T → ∀ v F, T.p v F → P.p v F) (h2 : atK kts ky = none → ∀ v F, P0.p v F → P.p v F) (mm : M2 X o "get" apos k f cpos := by exact ⟨rfl, rfl, rfl, rfl⟩) :
    EvE X m Γ (.Call (.Attribute o "get" apos) [k, f] [] cpos) P :=
  EvE.of (pe_dget2 (hu_of hr) sem sem sem mm) fun σ F H Q g q => ho σ F H g _ fun v F1 H1 g1 i1 ⟨a, vs, e1, e2, e3⟩ => ⟨a, e1, .inl ⟨vs, .inl (g1.fh _ _ e2)⟩, hk σ F1 H1 (g.next g1 i1) _ fun y F2 H2 g2 i2 p2 => hf σ F2 H2 ((g.next g1 i1).next g2 i2) _ fun z F3 H3 g3 i3 p3 => by
    have e2' := g3.fh _ _ (g3.ff _ _ (g2.ff _ _ e2))
    have e3' := (e3.mono g2.ff).mono g3.ff
    refine ⟨valV vs ky, by rw [key_v p2]; exact DGet.k e2', q _ F3 H3 ((g1.trans g2).trans g3) i3 ?_⟩
    cases hT : atK kts ky with
    | some T =>
      obtain ⟨u, q1, q2⟩ := e3'.has hT
      rw [q1]
      exact h1 T hT _ _ q2
    | none =>
      have := e3'.isSome (k := ky)
      rw [hT] at this
      cases hv : valV vs ky with
      | none => exact h2 hT _ _ p3
      | some u =>
        rw [hv] at this
        cases this⟩
end
end R60

set_option Elab.async false
set_option pp.maxSteps 400
set_option linter.all false
set_option maxRecDepth 100000
set_option maxHeartbeats 1000000
namespace R60
open PySem PySem.Spec PyProof.Rows L2
section
variable {X : Cx} {m : Mu} {E : XK} {Γ : Gam} {e a b c o f k : Expr} {P P0 T : Ty} {Ts : List Ty} {pos p apos cpos : Pos} {j : Nat} {α : Type}
/-- a[k], a list of known kinds -/
theorem e_ixAt {k : Nat} (ha : EvE X m Γ a (LsT Ts)) (hb : EvE X m Γ b (Is X.K (.int k))) (hk : Ts[k]? = some T) (hs : PlainIx b := by exact fun _ _ => rfl) : EvE X m Γ (.Subscript a b pos) T :=
  e_ix ix_list ha hb (fun v u F H Q ex ⟨a, vs, e1, e2, e3⟩ p2 q => by
    have hl : k < vs.length := by
      rw [e3.len]
      exact (List.getElem?_eq_some_iff.mp hk).1
    obtain ⟨S, h1, h2⟩ := holdsA_get e3 (i := k) (v := vs[k]) (by simp [hl])
    rw [hk] at h1
    cases h1
    refine ⟨a, vs, k, vs[k], e1, DAt.i p2, SqL.of (ex _ _ e2), ?_, q _ F H (Gr.refl ex) h2⟩
    unfold atI ixN
    rw [if_pos (by omega), if_pos (by omega)]
    simp [hl]) hs
/-- a == [], a != [] of fixed lists -/
theorem t_eq0 {n : Nat} {lp : Pos} {ds : List D} (hr : Room j X.A) (ho : EvE X m Γ o (Is X.K (.lst ds))) (hm : behindInMarks .Eq (.List [] lp) = false := by rfl) : EvT X m Γ (.Compare o [.Eq] [.List [] lp] pos) (Eq ds.isEmpty) :=
  EvT.of (pt_cmpR (op_eq0 (Nat.lt_of_succ_lt (hu_of hr))) sem sem hm) fun σ F H Q g q => ev_two ho (e_lstD ad_nil) g fun v u F1 H1 g1 gg p1 p2 => by
    obtain ⟨a, vs, rfl, e1, e2⟩ := DAt.l p1
    obtain ⟨l, xs, rfl, h2, h3⟩ := DAt.l p2
    obtain rfl := h3.nl
    refine ⟨a, l, vs, rfl, rfl, gg.ex _ _ e1, gg.ex _ _ h2, _, rfl, q _ F1 H1 g1 gg.i ?_⟩
    have := e2.length
    cases ds <;> cases vs <;> first | rfl | simp at this
theorem t_ne0 {lp : Pos} {ds : List D} (hr : Room j X.A) (ho : EvE X m Γ o (Is X.K (.lst ds))) (hm : behindInMarks .NotEq (.List [] lp) = false := by rfl) : EvT X m Γ (.Compare o [.NotEq] [.List [] lp] pos) (Eq (!ds.isEmpty)) :=
  EvT.of (pt_cmpR (op_ne0 (Nat.lt_of_succ_lt (hu_of hr))) sem sem hm) fun σ F H Q g q => ev_two ho (e_lstD ad_nil) g fun v u F1 H1 g1 gg p1 p2 => by
    obtain ⟨a, vs, rfl, e1, e2⟩ := DAt.l p1
    obtain ⟨l, xs, rfl, h2, h3⟩ := DAt.l p2
    obtain rfl := h3.nl
    refine ⟨a, l, vs, rfl, rfl, gg.ex _ _ e1, gg.ex _ _ h2, _, rfl, q _ F1 H1 g1 gg.i ?_⟩
    have := e2.length
    cases ds <;> cases vs <;> first | rfl | simp at this
/-- a slot's kind is made weaker -/
theorem holds_weak {σ : L2.St} {F : Hp} {i : Nat} {S : Ty} (h : Holds Γ σ F) (hi : Γ[i]? = some (some S)) (w : ∀ v F, S.p v F → T.p v F) : Holds (Γ.set i (some T)) σ F := by
  obtain ⟨v, hs, p⟩ := h i S hi
  have := h.set (i := i) (T := T) (v := v) (List.getElem?_eq_some_iff.mp hs).1 (w v F p)
  rw [set_self hs] at this
  exact this
end
end R60

set_option Elab.async false
set_option pp.maxSteps 400
set_option linter.all false
set_option maxRecDepth 100000
set_option maxHeartbeats 4000000
namespace R60
open PySem PySem.Spec PyProof.Rows L2
/-- the law's own book: name -> [beat, known, tracks] -/
def LtT (K : PySem.W.Frag) (p : Tp) : Ty := LsT [Is K (.int p.b), KnT K p.ps, Is K (trsD p.ts)]
def LbT (K : PySem.W.Frag) (b : Bk) : Ty := DicT (tk b (LtT K))
def DeedS (K : PySem.W.Frag) : Ty := ⟨fun v F => ∃ d : Deed, d.fit ∧ (Is K d.d).p v F, fun v F F' e ⟨t, h, p⟩ => ⟨t, h, (Is K t.d).mono v F F' e p⟩⟩
structure LkOk (b : Bk) : Prop where
  ok : BkOk b
  nm : ∀ q ∈ b, q.1.length ≤ 8
  n : b.length ≤ 6
section
variable {w : World} {K : PySem.W.Frag} {mg : Str → Option Value} {base : Heap} {MC TC DC : Addr}
/-- some tape of the law -/
def LtS (K : PySem.W.Frag) : Ty := ⟨fun v F => ∃ p : Tp, TpOk p ∧ (LtT K p).p v F, fun v F F' e ⟨t, h, p⟩ => ⟨t, h, (LtT K t).mono v F F' e p⟩⟩
def tp0 : Tp := ⟨96, [], [[]]⟩
theorem tp0_ok : TpOk tp0 := ⟨by decide, ⟨by decide, by decide, (fun q hq => nomatch hq), (fun q hq => nomatch hq)⟩, by decide, fun t ht => by
  rw [List.mem_singleton.mp ht]
  exact ⟨by decide, (fun e he => nomatch he), List.Pairwise.nil⟩⟩
theorem atK_tk {K : PySem.W.Frag} {b : Bk} {n : Str} {U : Ty} (h : atK (tk b (LtT K)) (Sum.inr n) = some U) : ∃ p, (n, p) ∈ b ∧ U = LtT K p := by
  unfold tk at h
  rw [atK_map] at h
  cases hp : atK b n with
  | none => rw [hp] at h; cases h
  | some p =>
    rw [hp] at h
    cases h
    exact ⟨p, atK_mem hp, rfl⟩
def p_slim_deed (K : PySem.W.Frag) (mg : Str → Option Value) : Sp := spG (ι := Dr × { b : Bk // LkOk b }) (α := Unit) K mg (fun i => mDraw i.1) (fun i => [Vl (.ref i.1.a), LbT K i.2.1, LsP (StrN 15) 8]) (fun _ => .ok ()) (fun _ _ => DeedS K)
theorem ds_new {F : Hp} {v : V} (h : (TuT K [Is K (.str "new"), StrN 15, IntA]).p v F) : (DeedS K).p v F := by
  obtain ⟨a, vs, rfl, h1, h2⟩ := h
  match vs, h2 with
  | [u1, u2, u3], ⟨p1, ⟨z, e2, hz⟩, ⟨n, e3, _⟩, _⟩ =>
    subst e2 e3
    exact ⟨.new z n, ⟨Nat.le_trans hz (by decide), trivial⟩, .tup h1 (.cons p1 (.str (.int .nil))) .nil⟩
theorem ds_put {F : Hp} {v : V} {nm : Str} {n2 : Int} (hn : nm.length ≤ 1000) (h : (TuT K [Is K (.str "put"), Is K (.str nm), Is K (.int n2), EvS K]).p v F) : (DeedS K).p v F := by
  obtain ⟨a, vs, rfl, h1, h2⟩ := h
  match vs, h2 with
  | [u1, u2, u3, u4], ⟨p1, p2, p3, ⟨e, he, p4⟩, _⟩ => exact ⟨.put nm n2 e, ⟨hn, he⟩, .tup h1 (.cons p1 (.cons p2 (.cons p3 p4))) .nil⟩
theorem ds_ii {F : Hp} {v : V} {w nm : Str} {i : Int} (f : Int → Deed) (hd : ∀ j, (f j).d = .tup [.str w, .str nm, .int i, .int j]) (hf : ∀ j, (f j).fit) (h : (TuT K [Is K (.str w), Is K (.str nm), Is K (.int i), IntA]).p v F) : (DeedS K).p v F := by
  obtain ⟨a, vs, rfl, h1, h2⟩ := h
  match vs, h2 with
  | [u1, u2, u3, u4], ⟨p1, p2, p3, ⟨j, e4, _⟩, _⟩ =>
    subst e4
    refine ⟨f j, hf j, ?_⟩
    rw [hd j]
    exact .tup h1 (.cons p1 (.cons p2 (.cons p3 (.int .nil)))) .nil
theorem ds_one {F : Hp} {v : V} {w nm : Str} (th : Deed) (hd : th.d = .tup [.str w, .str nm]) (hf : th.fit) (h : (TuT K [Is K (.str w), Is K (.str nm)]).p v F) : (DeedS K).p v F := ⟨th, hf, by
  rw [hd]
  exact tut_is h⟩
abbrev NS : List Str := ["_law_draw", "_law_book", "_law_names_here", "_law_beat_here", "_law_name", "_law_m", "_law_number", "_law_track", "_law_kind", "_law_first", "_law_tick_here"]
theorem fl_slim_deed (T : Txt w K mg MC TC DC) : CalX PG w K mg base 5 "_law_slim_deed" (p_slim_deed K mg) := by
  refine cal_blk T.d_Lslim_deed sc_Lslim_deed bd_Lslim_deed (fun _ => rfl) (fun _ => rfl) ?_
  rintro ⟨d, b, hb⟩ f cdv A outer s H E hr
  have pkA : ∀ {v F} {φ : Int → Prop}, (IntS φ).p v F → IntA.p v F := fun {v F φ} ⟨i, e, _⟩ => ⟨i, e, trivial⟩
  refine b_if (S := fun k => k = false → b ≠ []) (EvW.toT (w_or (S := Eq (tk b (LtT K)).isEmpty) (S' := fun _ => True) (t_eqD0 hr (e_var 1 rfl)) (fun _ => w_or1 (t_anyEq (e_pick (n := 12) (f_pick T) hr (by decide) Sub.refl (by decide) (e_var 0 rfl) e_int) (e_is e_int))) (fun _ h => nomatch h) fun k h _ _ hb0 => by
    rw [hb0] at h
    exact nomatch h)) (fun _ => ?_) (fun hne => ?_)
  · refine b_set 3 (P := IntA) (e_onE (n := 5) (fl_one T) hr (by decide) Sub.refl (e_var 0 rfl) (e_liA (n := 5) (ap_cons ((e_call (ι := Dr) (α := Unit) (v := ()) d (fl_beat T) hr (by decide) Sub.refl rfl (a_cons (e_var 0 rfl) a_nil) rfl : EvE _ _ _ _ (InR 1 960)).imp fun v F p => pkA p) (ap_cons ((e_call (ι := Dr) (α := Unit) (v := ()) d (fl_beat T) hr (by decide) Sub.refl rfl (a_cons (e_var 0 rfl) a_nil) rfl : EvE _ _ _ _ (InR 1 960)).imp fun v F p => pkA p) (ap_cons ((e_is e_int).imp fun v F p => pkA p) (ap_cons ((e_is e_int).imp fun v F p => pkA p) (ap_cons ((e_is e_int).imp fun v F p => pkA p) ap_nil)))))) (by decide)) ?_ sc_Lslim_deed.nd
    exact b_retP (v := ()) (e_tuT (Ps := [Is K (.str "new"), StrN 15, IntA]) (a_cons e_str (a_cons (e_onE (n := 8 + 2) (P := StrN 15) (fl_one T) hr (by decide) Sub.refl (e_var 0 rfl) (e_catP (e_var 2 rfl) (e_liA (n := 2) (ap_cons (e_inS e_str (by decide +kernel)) (ap_cons (e_inS e_str (by decide +kernel)) ap_nil))) (by decide)) (by decide)) (a_cons (e_var 3 rfl) a_nil)))) rfl fun u F p => ds_new p
  · replace hne : b ≠ [] := hne rfl
    have hbl : 1 ≤ b.length := by cases b with
      | nil => exact absurd rfl hne
      | cons _ _ => simp
    have hnl : (namesOf b).length = b.length := by unfold namesOf; rw [List.length_map]
    refine b_set 4 (P := StrS fun z => z ∈ namesOf b) (e_onE (n := b.length) (fl_one T) hr (by decide) Sub.refl (e_var 0 rfl) (EvE.imp (e_sortS (ns := namesOf b) T.n_sorted (by have := hb.n; omega) (EvE.eq (e_listD (kts := tk b (LtT K)) rfl T.n_list (e_var 1 rfl)) ?_)) fun v F p => ?_) ⟨hbl, by have := hb.n; omega⟩) ?_ sc_Lslim_deed.nd
    · unfold tk namesOf
      rw [List.map_map, List.map_map] <;> rfl
    · refine lsP_of (Ts := (srtS (namesOf b)).map fun z => Is K (.str z)) ?_ (fun S hS v F p => ?_) ?_
      · have := is_lst p
        rw [List.map_map] at this
        exact this
      · obtain ⟨z, hz, rfl⟩ := List.mem_map.mp hS
        exact ⟨z, DAt.s p, (srtBy_perm (namesOf b)).mem_iff.mp hz⟩
      · rw [List.length_map]
        exact (srtBy_perm (namesOf b)).length_eq.trans hnl
    · refine b_stf (s_if (S := fun _ => True) (o := .ok ()) (Γ' := fun _ => [some (Vl (.ref d.a)), some (LbT K b), some (LsP (StrN 15) 8), none, some (StrN 15), none, none, none, none, none, none]) (t_anyEq (e_pick (n := 14) (f_pick T) hr (by decide) Sub.refl (by decide) (e_var 0 rfl) e_int) (e_is e_int)) (fun _ => f_one (s_set 4 (e_onE (n := 8) (P := StrN 15) (fl_one T) hr (by decide) Sub.refl (e_var 0 rfl) (e_var 2 rfl) (by decide)) sc_Lslim_deed.nd)) (fun _ => f_end fun σ F h => ?_)) (fun z h => nomatch h) fun _ _ => ?_
      · refine holds_weak (i := 4) (T := StrN 15) h rfl fun v F ⟨z, e, hz⟩ => ⟨z, e, ?_⟩
        obtain ⟨q, hq, rfl⟩ := List.mem_map.mp hz
        exact Nat.le_trans (hb.nm q hq) (by decide)
      · refine b_openS 4 rfl fun nm hnm => ?_
        refine b_set 5 (P := LtS K) (e_dgetO (kts := tk b (LtT K)) (ky := .inr nm) (P0 := LtT K tp0) hr (e_var 1 rfl) (e_var 4 rfl) (e_lst (a_cons e_int (a_cons (e_dnew.imp fun v F p => p) (a_cons (e_lstD (ad_cons (e_lstD ad_nil) ad_nil)) a_nil))) (by show 3 ≤ sizeLine; decide) fun vs F p h1 h2 => ⟨p, vs, rfl, h2, h1⟩) (fun U hU v F p => ?_) (fun _ v F p => ⟨tp0, tp0_ok, p⟩)) ?_ sc_Lslim_deed.nd
        · obtain ⟨q, hq, rfl⟩ := atK_tk hU
          exact ⟨q, hb.ok _ hq, p⟩
        · refine b_openT (β := Tp) 5 (Q := TpOk) (T := LtT K) (LtS K) rfl (fun v F p => p) fun q hq => ?_
          have m2 : ∀ {Γ : Gam} {m : Mu} {p1 p2 p3 : Pos} {k : Nat}, Γ[5]? = some (some (LtT K q)) → EvE (cxD PG w K mg base "_law_slim_deed" s_Lslim_deed NS f cdv A outer s H E) m Γ (.Subscript (.Name "_law_m" p1) (.Constant (.int 2) k p2) p3) (Is K (trsD q.ts)) := fun h => e_ixAt (k := 2) (e_var 5 h) e_int rfl
          refine b_set 6 (P := IntS fun r => 0 ≤ r ∧ r < ((q.ts.map trD).length : Nat)) (e_pick (n := ((q.ts.map trD).length : Nat)) (f_pick T) hr (by decide) Sub.refl (by rw [List.length_map]; have := hq.n; omega) (e_var 0 rfl) (e_lenL (ds := q.ts.map trD) T.n_len (m2 rfl))) ?_ sc_Lslim_deed.nd
          refine b_openI 6 rfl fun nu hnu => ?_
          have hlt : nu.toNat < q.ts.length := by
            rw [List.length_map] at hnu
            omega
          have hat : atI (q.ts.map trD) nu = some (trD q.ts[nu.toNat]) := by
            unfold atI ixN
            rw [if_pos hnu.1, if_pos hnu.2]
            simp [hlt]
          have htr : TrOk q.ts[nu.toNat] := hq.ts _ (List.getElem_mem _)
          generalize q.ts[nu.toNat] = tr at hat htr
          refine b_set 7 (P := Is K (trD tr)) (e_ixL (ds := q.ts.map trD) (m2 rfl) (e_var 6 rfl) hat) ?_ sc_Lslim_deed.nd
          refine b_stf (s_if (S := fun _ => True) (o := .ok ()) (Γ' := fun _ => [some (Vl (.ref d.a)), some (LbT K b), some (LsP (StrN 15) 8), none, some (Is K (.str nm)), some (LtT K q), some IntA, some (Is K (trD tr)), none, none, none]) (t_anyEq (e_pick (n := 14) (f_pick T) hr (by decide) Sub.refl (by decide) (e_var 0 rfl) e_int) (e_is e_int)) (fun _ => f_one (s_set 6 (e_onE (n := 3) (P := IntA) (fl_one T) hr (by decide) Sub.refl (e_var 0 rfl) (e_liA (n := 3) (ap_cons ((e_is (e_sub e_int e_int)).imp fun v F p => pkA p) (ap_cons ((e_is (e_lenL (ds := q.ts.map trD) T.n_len (m2 rfl))).imp fun v F p => pkA p) (ap_cons ((e_is e_int).imp fun v F p => pkA p) ap_nil)))) (by decide)) sc_Lslim_deed.nd)) (fun _ => f_end fun σ F h => ?_)) (fun z h => nomatch h) fun _ _ => ?_
          · exact holds_weak (i := 6) (T := IntA) h rfl fun v F p => ⟨nu, DAt.i p, trivial⟩
          refine b_openI 6 rfl fun n2 _ => ?_
          refine b_set 8 (P := IntS fun r => 0 ≤ r ∧ r < 14) (e_pick (n := 14) (f_pick T) hr (by decide) Sub.refl (by decide) (e_var 0 rfl) e_int) ?_ sc_Lslim_deed.nd
          refine b_openI 8 rfl fun kd _ => ?_
          have hnl1 : nm.length ≤ 1000 := Nat.le_trans hnm (by decide)
          have hfit : ∀ {th : Deed}, th.n = nm → (∀ n i e, th = .put n i e → e.fit) → th.fit := fun {th} h1 h2 => ⟨by rw [h1]; exact Nat.le_trans hnm (by decide), by
            cases th with
            | put n i e => exact h2 n i e rfl
            | _ => trivial⟩
          refine b_if (t_lt (e_var 8 rfl) e_int) (fun _ => ?_) fun _ => ?_
          · exact b_retP (v := ()) (e_tuT (Ps := [Is K (.str "put"), Is K (.str nm), Is K (.int n2), EvS K]) (a_cons e_str (a_cons (e_var 4 rfl) (a_cons (e_var 6 rfl) (a_cons (e_call (ι := Dr × { t : Tr // t.length ≤ 900 }) (α := Unit) (v := ()) (d, ⟨tr, Nat.le_trans htr.n (by decide)⟩) (fl_some_event T) hr (by decide) Sub.refl rfl (a_cons (e_var 0 rfl) (a_cons (e_var 7 rfl) a_nil)) rfl) a_nil))))) rfl fun u F p => ds_put hnl1 p
          refine b_if (t_eqi (e_var 8 rfl) e_int) (fun _ => ?_) fun _ => ?_
          · exact b_retP (v := ()) (e_tuT (Ps := [Is K (.str "take"), Is K (.str nm), Is K (.int n2), IntA]) (a_cons e_str (a_cons (e_var 4 rfl) (a_cons (e_var 6 rfl) (a_cons (e_subS (φ := fun r => 0 ≤ r ∧ r < ((tr.map Ev.d).length : Nat) + 2) (ψ := (· = 1)) (e_pick (n := ((tr.map Ev.d).length : Nat) + 2) (f_pick T) hr (by decide) Sub.refl (by rw [List.length_map]; have := htr.n; omega) (e_var 0 rfl) (e_add (e_lenL (ds := tr.map Ev.d) T.n_len (e_var 7 rfl)) e_int)) (e_is e_int) fun _ _ _ _ => trivial) a_nil))))) rfl fun u F p => ds_ii (.take nm n2) (fun _ => rfl) (fun _ => hfit rfl fun _ _ _ h => nomatch h) p
          refine b_if (t_eqi (e_var 8 rfl) e_int) (fun _ => ?_) fun _ => ?_
          · refine b_set 9 (P := IntA) (e_if (t_ne0 hr (ds := tr.map Ev.d) (e_var 7 rfl)) (fun h => ?_) fun _ => (e_is e_int).imp fun v F p => pkA p) ?_ sc_Lslim_deed.nd
            · cases tr with
              | nil => exact nomatch h
              | cons e r => exact (e_ixT (ds := .int e.t :: .str e.k.s :: e.xs.map At.d) (d := .int e.t) (e_ixL (ds := e.d :: r.map Ev.d) (d := e.d) (e_var 7 rfl) e_int at_0) e_int at_0).imp fun v F p => ⟨e.t, DAt.i p, trivial⟩
            refine b_openI 9 rfl fun fi _ => ?_
            exact b_retP (v := ()) (e_tuT (Ps := [Is K (.str "later"), Is K (.str nm), Is K (.int n2), IntA]) (a_cons e_str (a_cons (e_var 4 rfl) (a_cons (e_var 6 rfl) (a_cons (e_onE (n := 5) (P := IntA) (fl_one T) hr (by decide) Sub.refl (e_var 0 rfl) (e_liA (n := 5) (ap_cons ((e_is e_int).imp fun v F p => pkA p) (ap_cons ((e_is (e_sub e_int (e_var 9 rfl))).imp fun v F p => pkA p) (ap_cons ((e_is (e_sub (e_sub e_int (e_var 9 rfl)) e_int)).imp fun v F p => pkA p) (ap_cons ((e_pick (n := 2000) (f_pick T) hr (by decide) Sub.refl (by decide) (e_var 0 rfl) e_int).imp fun v F p => pkA p) (ap_cons ((e_is (e_powI (n := 6) e_int e_int (by decide))).imp fun v F p => pkA p) ap_nil)))))) (by decide)) a_nil))))) rfl fun u F p => ds_ii (.later nm n2) (fun _ => rfl) (fun _ => hfit rfl fun _ _ _ h => nomatch h) p
          refine b_if (t_eqi (e_var 8 rfl) e_int) (fun _ => ?_) fun _ => ?_
          · exact b_retP (v := ()) (e_tuT (Ps := [Is K (.str "part"), Is K (.str nm), Is K (.int n2), IntA]) (a_cons e_str (a_cons (e_var 4 rfl) (a_cons (e_var 6 rfl) (a_cons (e_onE (n := 4) (P := IntA) (fl_one T) hr (by decide) Sub.refl (e_var 0 rfl) (e_liA (n := 4) (ap_cons ((e_call (ι := Dr) (α := Unit) (v := ()) d (fl_channel T) hr (by decide) Sub.refl rfl (a_cons (e_var 0 rfl) a_nil) rfl : EvE _ _ _ _ (InR 0 15)).imp fun v F p => pkA p) (ap_cons ((e_call (ι := Dr) (α := Unit) (v := ()) d (fl_channel T) hr (by decide) Sub.refl rfl (a_cons (e_var 0 rfl) a_nil) rfl : EvE _ _ _ _ (InR 0 15)).imp fun v F p => pkA p) (ap_cons ((e_is e_int).imp fun v F p => pkA p) (ap_cons ((e_is (e_sub e_int e_int)).imp fun v F p => pkA p) ap_nil))))) (by decide)) a_nil))))) rfl fun u F p => ds_ii (.part nm n2) (fun _ => rfl) (fun _ => hfit rfl fun _ _ _ h => nomatch h) p
          refine b_if (t_lt (e_var 8 rfl) e_int) (fun _ => ?_) fun _ => ?_
          · have hps := hq.ps.n
            refine b_set 10 (P := IntA) (e_onE (n := q.ps.length + 3) (P := IntA) (fl_one T) hr (by decide) Sub.refl (e_var 0 rfl) (e_catP (e_lsP (P := IntA) (EvE.imp (e_listD (kts := q.ps.map fun q => (Sum.inl q.1, Is K (.int q.2))) rfl T.n_list (e_ixAt (k := 1) (e_var 5 rfl) e_int rfl)) fun v F p => is_lst p) (fun S hS v F p => ?_) ?_) (e_liA (n := 3) (ap_cons ((e_call (ι := Dr) (α := Unit) (v := ()) d (fl_tick T) hr (by decide) Sub.refl rfl (a_cons (e_var 0 rfl) a_nil) rfl : EvE _ _ _ _ (InR 0 999999)).imp fun v F p => pkA p) (ap_cons ((e_pick (n := 200) (f_pick T) hr (by decide) Sub.refl (by decide) (e_var 0 rfl) e_int).imp fun v F p => pkA p) (ap_cons ((e_is (e_powI (n := 6) e_int e_int (by decide))).imp fun v F p => pkA p) ap_nil)))) (by omega)) (by omega)) ?_ sc_Lslim_deed.nd
            · rw [List.map_map, List.map_map] at hS
              obtain ⟨x, _, rfl⟩ := List.mem_map.mp hS
              exact ⟨x.1, DAt.i p, trivial⟩
            · rw [List.length_map, List.length_map, List.length_map]
            refine b_openI 10 rfl fun ti _ => ?_
            exact b_retP (v := ()) (e_tuT (Ps := [Is K (.str "pace"), Is K (.str nm), Is K (.int ti), IntA]) (a_cons e_str (a_cons (e_var 4 rfl) (a_cons (e_var 10 rfl) (a_cons (e_onE (n := 3) (P := IntA) (fl_one T) hr (by decide) Sub.refl (e_var 0 rfl) (e_liA (n := 3) (ap_cons ((e_call (ι := Dr) (α := Unit) (v := ()) d (fl_pace T) hr (by decide) Sub.refl rfl (a_cons (e_var 0 rfl) a_nil) rfl : EvE _ _ _ _ (InR 1 16777215)).imp fun v F p => pkA p) (ap_cons ((e_call (ι := Dr) (α := Unit) (v := ()) d (fl_pace T) hr (by decide) Sub.refl rfl (a_cons (e_var 0 rfl) a_nil) rfl : EvE _ _ _ _ (InR 1 16777215)).imp fun v F p => pkA p) (ap_cons ((e_is e_int).imp fun v F p => pkA p) ap_nil)))) (by decide)) a_nil))))) rfl fun u F p => ds_ii (.pace nm ti) (fun _ => rfl) (fun _ => hfit rfl fun _ _ _ h => nomatch h) p
          · exact b_retP (v := ()) (e_if (S := fun _ => True) (t_anyEq (e_pick (n := 7) (f_pick T) hr (by decide) Sub.refl (by decide) (e_var 0 rfl) e_int) (e_is e_int)) (fun _ => EvE.imp (P := TuT K [Is K (.str "drop"), Is K (.str nm)]) (e_tuT (a_cons e_str (a_cons (e_var 4 rfl) a_nil))) fun v F p => ds_one (.drop nm) rfl (hfit rfl fun _ _ _ h => nomatch h) p) fun _ => EvE.imp (P := TuT K [Is K (.str "add"), Is K (.str nm)]) (e_tuT (a_cons e_str (a_cons (e_var 4 rfl) a_nil))) fun v F p => ds_one (.add nm) rfl (hfit rfl fun _ _ _ h => nomatch h) p) rfl fun u F p => p
end
end R60

set_option Elab.async false
set_option pp.maxSteps 400
set_option linter.all false
set_option maxRecDepth 100000
set_option maxHeartbeats 1000000
namespace R60
open PySem PySem.Spec PyProof.Rows L2
/-! ### displayed dicts, in a tuple of texts -/
theorem merge_new : ∀ (more acc : List (L2.Key × V)), (more.map (·.1)).Nodup → (∀ p ∈ more, ∀ q ∈ acc, q.1 ≠ p.1) → mergeK acc more = acc ++ more
  | [], acc, _, _ => by rw [List.append_nil] <;> rfl
  | p :: r, acc, hd, hn => by
    rw [List.map_cons] at hd
    show mergeK (putK acc p.1 p.2) r = _
    rw [putK_new fun q hq => hn p List.mem_cons_self q hq, merge_new r _ (List.nodup_cons.mp hd).2 fun q hq s hs => ?_]
    · simp
    · rcases List.mem_append.mp hs with h | h
      · exact hn q (List.mem_cons_of_mem _ hq) s h
      · rw [List.mem_singleton.mp h]
        exact fun e => (List.nodup_cons.mp hd).1 (by rw [show p.1 = q.1 from e]; exact List.mem_map_of_mem hq)
theorem kv_ints {K : PySem.W.Frag} {F : Hp} : ∀ kvs : List (Str × Int), KvT (kvs.map fun q => ((Sum.inr q.1 : L2.Key), Is K (.int q.2))) (kvs.map fun kv => ((Sum.inr kv.1 : L2.Key), V.int kv.2)) F
  | [] => trivial
  | q :: r => ⟨rfl, .int .nil, kv_ints r⟩
section
variable {X : Cx} {m : Mu} {E : XK} {Γ : Gam} {e a b c o f k : Expr} {P T : Ty} {pos p apos cpos : Pos} {j : Nat}
def cstK (kvs : List (Str × Int)) : List (TE × TE) := kvs.map fun kv => (fun _ H Q => Q (.str kv.1) H, fun _ H Q => Q (.int kv.2) H)
theorem cstK_run {σ : L2.St} {H : Hp} : ∀ (kvs : List (Str × Int)) (Q : List (V × V) → Hp → Prop), Q (kvs.map fun kv => (V.str kv.1, V.int kv.2)) H → tPairs (cstK kvs) σ H Q
  | [], _, q => q
  | p :: r, _, q => cstK_run r _ q
theorem pps_k {z : Str} {i : Int} {j1 j2} {p1 p2 : Pos} {ks : List (Option Expr)} {vs : List Expr} {r : List (Str × Int)} (h : PPs X pos ks vs (cstK r)) : PPs X pos (some (.Constant (.str z) j1 p1) :: ks) (.Constant (.int i) j2 p2 :: vs) (cstK ((z, i) :: r)) := pps_cons pe_str pe_int h
theorem pps_0 : PPs X pos [] [] (cstK []) := pps_nil
/-- {'z': n, ..} -/
theorem e_disp {keys : List (Option Expr)} {values : List Expr} (kvs : List (Str × Int)) (h : PPs X pos keys values (cstK kvs))
    (hd : (kvs.map (·.1)).Nodup) (hall : keys.all (·.isSome) = true := by with_unfolding_all rfl) (hl : keys.length = values.length := by rfl) (h0 : keys ≠ [] := by exact List.cons_ne_nil _ _) (h15 : keys.length ≤ 15 := by exact Nat.le_of_ble_eq_true rfl) (hk : kvs.length ≤ 15 := by decide) : EvE X m Γ (.Dict keys values pos) (DicT (kvs.map fun q => (Sum.inr q.1, Is X.K (.int q.2)))) :=
  EvE.of (pe_disp h hall hl h0 h15) fun σ F H Q g q => fun p hp => cstK_run kvs _ ⟨upd_same, kvs.map fun kv => (Sum.inr kv.1, V.int kv.2), by rw [List.map_map] <;> rfl, by rw [List.length_map]; exact hk, by
    have e : mergeK [] (kvs.map fun kv => ((Sum.inr kv.1 : L2.Key), V.int kv.2)) = kvs.map fun kv => ((Sum.inr kv.1 : L2.Key), V.int kv.2) := by
      refine (merge_new _ [] ?_ (by simp)).trans (List.nil_append _)
      rw [List.map_map]
      have : (kvs.map (·.1)).map (Sum.inr : Str → L2.Key) = kvs.map ((fun x : L2.Key × V => x.1) ∘ fun kv => ((Sum.inr kv.1 : L2.Key), V.int kv.2)) := by rw [List.map_map] <;> rfl
      rw [← this]
      exact hd.map _ fun a b hab e => hab (Sum.inr.inj e)
    rw [e, upd_upd]
    have gn : Gr0 F H (upd F p (.dK (kvs.map fun kv => ((Sum.inr kv.1 : L2.Key), V.int kv.2)))) (upd H p (.dK (kvs.map fun kv => ((Sum.inr kv.1 : L2.Key), V.int kv.2)))) := Gr.new g.ex hp
    exact q _ _ _ gn.weak (m.st _ _ _ _ gn g.i) ⟨p, _, rfl, upd_same, kv_ints kvs⟩⟩
/-- .. told of an expression that is not opened -/
theorem e_dispE {keys : List (Option Expr)} {values : List Expr} (kvs : List (Str × Int)) (he : e = .Dict keys values pos) (h : PPs X pos keys values (cstK kvs))
    (hd : (kvs.map (·.1)).Nodup) (hall : keys.all (·.isSome) = true) (hl : keys.length = values.length) (h0 : keys ≠ []) (h15 : keys.length ≤ 15) (hk : kvs.length ≤ 15) : EvE X m Γ e (DicT (kvs.map fun q => (Sum.inr q.1, Is X.K (.int q.2)))) := by
  subst he
  exact e_disp kvs h hd hall hl h0 h15 hk
/-- x in ('a', 'b') -/
theorem t_inT {z : Str} {zs : List Str} (ha : EvE X m Γ a (Is X.K (.str z))) (hb : EvE X m Γ b (Is X.K (.tup (zs.map .str)))) (hm : behindInMarks .In b = false := by rfl) : EvT X m Γ (.Compare a [.In] [b] pos) (Eq (zs.any fun y => decide (y = z))) :=
  t_cmp op_in_seq hm ha hb fun v u F H Q ex p1 p2 q => by
    obtain ⟨a, xs, rfl, h2, h3⟩ := DAt.t p2
    obtain rfl := h3.isStrs
    obtain rfl := DAt.s p1
    refine ⟨a, _, rfl, .inr (ex_sqt ex h2), rfl, ?_, q _ F H (Gr.refl ex) ⟨_, rfl, ?_⟩⟩
    · rw [List.all_map]
      exact List.all_eq_true.mpr fun _ _ => rfl
    · show _ = inV _ _
      unfold inV
      rw [List.any_map]
      congr 1
/-- x, y = a, b -/
theorem go_par {D : Ends} {σ : L2.St} {F H : Hp} {rest : List Stmt} (i i' : Nat) {x y : Str} {px py pt pt2 : Pos} {kt k2} {T1 T2 : Ty} (h : EvA X m Γ [a, b] [T1, T2]) (g : Good m Γ σ F H) (k : ∀ v u F' H', Gr m.U F H F' H' → m.I F' H' → T1.p v F' → T2.p u F' → Good m ((Γ.set i (some T1)).set i' (some T2)) ((σ.set i (some v)).set i' (some u)) F' H' → tSemS X rest D ((σ.set i (some v)).set i' (some u)) H')
    (hN : X.N.Nodup) (hc : X.calm = true := by rfl) (hij : i ≠ i' := by decide) (hi : X.N[i]? = some x := by rfl) (hj : X.N[i']? = some y := by rfl) (hx : X.env.scope.names.lookup x = some .local := by rfl) (hy : X.env.scope.names.lookup y = some .local := by rfl)
    (hw : swappedStores [.Tuple [.Name x px, .Name y py] kt pt] (.Tuple [a, b] k2 pt2) X.env = pure (some [x, y]) := by rfl)
    (hs : swapsWithSole [.Tuple [.Name x px, .Name y py] kt pt] (.Tuple [a, b] k2 pt2) pos.line X.env = pure false := by rfl) : tSemS X (.Assign [.Tuple [.Name x px, .Name y py] kt pt] (.Tuple [a, b] k2 pt2) pos :: rest) D σ H := fun pins s I =>
  (pss_cons (ps_par hc hN hi hj hij hx hy semA hw hs) semS).run pins s σ H D I (h σ F H g _ fun vs F1 H1 g1 i1 p1 => by
    obtain ⟨v, u, rfl, p, q⟩ := two_of p1
    have li : i < σ.length := by rw [I.len]; exact (List.getElem?_eq_some_iff.mp hi).1
    have lj : i' < (σ.set i (some v)).length := by rw [List.length_set, I.len]; exact (List.getElem?_eq_some_iff.mp hj).1
    exact ⟨v, u, rfl, k v u F1 H1 g1 i1 p q ⟨g1.fh, i1, ((g.h.mono g1.ff).set li p).set lj q⟩⟩)
theorem b_par {α : Type} {rest : List Stmt} {o : Except Str α} {enc : α → Ty} (i i' : Nat) {x y : Str} {px py pt pt2 : Pos} {kt k2} {T1 T2 : Ty} (h : EvA X m Γ [a, b] [T1, T2]) (hr : Blk X m E ((Γ.set i (some T1)).set i' (some T2)) rest o enc)
    (hN : X.N.Nodup) (hc : X.calm = true := by rfl) (hij : i ≠ i' := by decide) (hi : X.N[i]? = some x := by rfl) (hj : X.N[i']? = some y := by rfl) (hx : X.env.scope.names.lookup x = some .local := by rfl) (hy : X.env.scope.names.lookup y = some .local := by rfl)
    (hw : swappedStores [.Tuple [.Name x px, .Name y py] kt pt] (.Tuple [a, b] k2 pt2) X.env = pure (some [x, y]) := by rfl)
    (hs : swapsWithSole [.Tuple [.Name x px, .Name y py] kt pt] (.Tuple [a, b] k2 pt2) pos.line X.env = pure false := by rfl) : Blk X m E Γ (.Assign [.Tuple [.Name x px, .Name y py] kt pt] (.Tuple [a, b] k2 pt2) pos :: rest) o enc := fun σ F H g D q =>
  go_par i i' h g (fun v u F' H' g' i1 _ _ gd => hr _ F' H' gd D (q.later g')) hN hc hij hi hj hx hy hw hs
end
end R60

set_option Elab.async false
set_option pp.maxSteps 400
set_option linter.all false
set_option maxRecDepth 100000
set_option maxHeartbeats 4000000
namespace R60
open PySem PySem.Spec PyProof.Rows L2
def sizesL : List (Str × Int) := [("new", 3), ("drop", 2), ("add", 2), ("put", 4), ("take", 4), ("pace", 4), ("later", 4), ("part", 4)]
theorem atK_inr {α β : Type} {g : α → β} {z : Str} : ∀ {l : List (Str × α)}, atK (l.map fun q => ((Sum.inr q.1 : L2.Key), g q.2)) (Sum.inr z) = (atK l z).map g := atK_map
theorem low_eq (c : Nat) : (!decide ((⟨#[c]⟩ : Str).cps.toList < ("a" : Str).cps.toList) && !decide (("z" : Str).cps.toList < (⟨#[c]⟩ : Str).cps.toList)) = decide (c ∈ letters.cps.toList) := by
  have e1 : letters.cps.toList = List.range' 97 26 := by decide +kernel
  have e2 : ("a" : Str).cps.toList = [97] := by decide +kernel
  have e3 : ("z" : Str).cps.toList = [122] := by decide +kernel
  have l1 : ∀ a b : Nat, ([a] < [b]) ↔ a < b := fun a b => by
    constructor
    · intro h
      cases h with
      | rel h => exact h
      | cons h => cases h
    · exact fun h => .rel h
  rw [e1, e2, e3]
  show (!decide ([c] < [97]) && !decide ([122] < [c])) = _
  have h1 : decide ([c] < [97]) = decide (c < 97) := decide_eq_decide.mpr (l1 _ _)
  have h2 : decide ([122] < [c]) = decide (122 < c) := decide_eq_decide.mpr (l1 _ _)
  rw [h1, h2]
  have h3 : decide (c ∈ List.range' 97 26) = (decide (97 ≤ c) && decide (c < 123)) := by
    rw [← Bool.decide_and]
    exact decide_eq_decide.mpr (by rw [List.mem_range'_1])
  rw [h3]
  by_cases a : c < 97 <;> by_cases b : 122 < c <;> simp [a, b] <;> omega
section
variable {w : World} {K : PySem.W.Frag} {mg : Str → Option Value} {base : Heap} {MC TC DC : Addr}
def p_slim_sizes (K : PySem.W.Frag) (mg : Str → Option Value) : Sp := spG (ι := Unit) (α := Unit) K mg (fun _ => m0) (fun _ => []) (fun _ => .ok ()) (fun _ _ => DicT (sizesL.map fun q => (Sum.inr q.1, Is K (.int q.2))))
/-- the displayed sizes, not to be opened -/
def sizesE0 : Expr := match defBody s_Lslim_sizes with
  | [.Return (some e) _] => e
  | _ => .Name "x" ⟨0, 0, 0, 0⟩
@[irreducible] def sizesE : Expr := sizesE0
theorem sizesE_eq : sizesE = sizesE0 := by unfold sizesE; rfl
theorem sizes_ev {X : Cx} {m : Mu} {Γ : Gam} : EvE X m Γ sizesE (DicT (sizesL.map fun q => (Sum.inr q.1, Is X.K (.int q.2)))) :=
  e_dispE sizesL (sizesE_eq.trans (by with_unfolding_all rfl)) (pps_k (pps_k (pps_k (pps_k (pps_k (pps_k (pps_k (pps_k pps_0)))))))) (by decide +kernel) rfl rfl (List.cons_ne_nil _ _) (Nat.le_of_ble_eq_true rfl) (Nat.le_of_ble_eq_true rfl)
theorem sizes_body : ∃ p, defBody s_Lslim_sizes = [.Return (some sizesE) p] := by
  rw [sizesE_eq]
  exact ⟨_, rfl⟩
theorem fl_slim_sizes (T : Txt w K mg MC TC DC) : CalX PG w K mg base 1 "_law_slim_sizes" (p_slim_sizes K mg) := by
  refine cal_blk T.d_Lslim_sizes sc_Lslim_sizes bd_Lslim_sizes (fun _ => rfl) (fun _ => rfl) ?_
  rintro ⟨⟩ f cdv A outer s H E hr
  obtain ⟨p, hp⟩ := sizes_body
  rw [hp]
  exact b_ret (v := ()) sizes_ev rfl
def nameW (b : Bk) (n : Str) : Str := bif !lenOk n || !lowOk n then "badname" else bif (atK b n).isSome then "taken" else ""
def p_name_word (K : PySem.W.Frag) (mg : Str → Option Value) : Sp := spG (ι := { p : Bk × Str // p.2.length ≤ 1000 }) (α := Unit) K mg (fun _ => m0) (fun i => [LbT K i.1.1, Is K (.str i.1.2)]) (fun _ => .ok ()) (fun i _ => Is K (.str (nameW i.1.1 i.1.2)))
theorem some_tk {b : Bk} {n : Str} {T : Tp → Ty} : (atK (tk b T) (Sum.inr n)).isSome = (atK b n).isSome := by
  unfold tk
  rw [atK_map]
  cases atK b n <;> rfl
theorem fl_name_word (T : Txt w K mg MC TC DC) : CalX PG w K mg base 1 "_law_name_word" (p_name_word K mg) := by
  refine cal_blk T.d_Lname_word sc_Lname_word bd_Lname_word (fun _ => rfl) (fun _ => rfl) ?_
  rintro ⟨⟨b, n⟩, hn⟩ f cdv A outer s H E hr
  replace hn : n.length ≤ 1000 := hn
  refine b_if (S := Eq (!lenOk n || !lowOk n)) (EvW.toT (w_orB (t_notB (t_lele e_int (e_lenS T.n_len hn (e_var 1 rfl)) e_int)) fun _ => w_or1 (t_notB (EvT.eq (t_bl (e_all (bs := n.cps.toList.map fun c => decide (c ∈ letters.cps.toList)) rfl T.n_all ?_)) all_map)))) (fun h => b_retD (v := ()) e_str rfl ?_) fun h => b_retD (v := ()) (e_ifB (t_in (ky := .inr n) hr (e_var 1 rfl) (e_var 0 rfl)) (fun _ => e_str) fun _ => e_str) rfl ?_
  · refine EvE.eq (e_lcAll (xs := n.cps.toList) (fun c => [some (LbT K b), some (Is K (.str n)), some (Is K (.str ⟨#[c]⟩))]) [2] (fun c => .bl (!decide ((⟨#[c]⟩ : Str).cps.toList < ("a" : Str).cps.toList) && !decide (("z" : Str).cps.toList < (⟨#[c]⟩ : Str).cps.toList))) rfl sc_Lname_word.nd (i_str (e_var 1 rfl)) (by simpa [PySem.Str.length] using Nat.le_trans hn (by decide)) (blkOk_by (own := [("_law_sign", 2)]) (N := ["_law_book", "_law_name", "_law_sign"]) (sc := defScope s_Lname_word) (by decide +kernel))
      (fun i x hx _ _ _ _ _ => tgY hx (tg_name 2 sc_Lname_word.nd)) (fun c hc _ _ _ _ _ => e_leleS e_str (e_var 2 rfl) e_str)) ?_
    rw [List.map_map]
    congr 1
    exact List.map_congr_left fun c _ => by rw [low_eq] <;> rfl
  · show Is K (.str (nameW b n)) = _
    unfold nameW
    rw [h]
    rfl
  · show Is K (.str (nameW b n)) = _
    unfold nameW
    rw [h, some_tk]
    cases (atK b n).isSome <;> rfl
/-! an event -/
def lastPos : List At → Bool
  | [_, .i n] => decide (0 < n)
  | _ => false
theorem txt_s (z : Str) : txtOk (.s z) = (decide ((z.length : Int) ≤ 12) && z.cps.toList.all fun c => decide (c ∈ signs.cps.toList)) := rfl
theorem ok_law {e : Ev} (hk : e.k ≠ .mark) (ht : (decide (0 ≤ e.t) && decide (e.t ≤ 999999)) = true) : e.ok = (decide (e.xs.length = e.k.fs.length) && match e.xs with
    | a :: r => inR 0 15 a && (r.all (inR 0 127) && (!decide (e.k = .on) || lastPos r))
    | [] => false) := by
  obtain ⟨t, k, xs⟩ := e
  rw [ok_fs hk, ht]
  have h01 : ∀ a : At, inR 1 127 a = (inR 0 127 a && match a with
      | .i n => decide (0 < n)
      | _ => false) := fun a => by
    cases a with
    | i n =>
      show (decide (1 ≤ n) && decide (n ≤ 127)) = ((decide (0 ≤ n) && decide (n ≤ 127)) && decide (0 < n))
      by_cases h : 1 ≤ n
      · simp [h, show 0 ≤ n from by omega, show 0 < n from by omega]
      · simp [h, show ¬ 0 < n from by omega]
    | s z => rfl
  cases k <;> first
    | exact absurd rfl hk
    | (match xs with
       | [] => rfl
       | [a] => simp [Kd.fs]
       | [a, b] => simp [Kd.fs, lastPos]
       | [a, b, .i n] => simp [Kd.fs, h01, Bool.and_assoc, lastPos]
       | [a, b, .s z] => simp [Kd.fs, h01, inR, lastPos]
       | a :: b :: c :: d :: r => simp [Kd.fs])
def manyL : List (Str × Int) := [("on", 3), ("off", 3), ("knob", 3), ("voice", 2)]
/-- the displayed counts, not to be opened -/
def manyE0 : Expr := match stAt s_Levent_good 3 with
  | .Assign _ (.Call (.Attribute e _ _) _ _ _) _ => e
  | _ => .Name "x" ⟨0, 0, 0, 0⟩
@[irreducible] def manyE : Expr := manyE0
theorem manyE_eq : manyE = manyE0 := by unfold manyE; rfl
theorem many_ev {X : Cx} {m : Mu} {Γ : Gam} : EvE X m Γ manyE (DicT (manyL.map fun q => (Sum.inr q.1, Is X.K (.int q.2)))) :=
  e_dispE manyL (manyE_eq.trans (by with_unfolding_all rfl)) (pps_k (pps_k (pps_k (pps_k pps_0)))) (by decide +kernel) rfl rfl (List.cons_ne_nil _ _) (Nat.le_of_ble_eq_true rfl) (Nat.le_of_ble_eq_true rfl)
def p_event_good (K : PySem.W.Frag) (mg : Str → Option Value) : Sp := spG (ι := { e : Ev // e.fit }) (α := Unit) K mg (fun _ => m0) (fun i => [Is K i.1.d]) (fun _ => .ok ()) (fun i _ => Is K (.bl i.1.ok))
theorem fl_event_good (T : Txt w K mg MC TC DC) : CalX PG w K mg base 2 "_law_event_good" (p_event_good K mg) := by
  refine cal_blk T.d_Levent_good sc_Levent_good bd_Levent_good (fun _ => rfl) (fun _ => rfl) ?_
  rintro ⟨⟨et, k, xs⟩, he⟩ f cdv A outer s H E hr
  have hn : xs.length ≤ 10 := he.n
  refine b_if (S := Eq (decide (((xs.length + 2 : Nat) : Int) < 3) || !inR 0 999999 (.i et))) (EvT.eq (EvW.toT (w_orB (t_lt (EvE.eq (e_lenT (ds := .int et :: .str k.s :: xs.map At.d) T.n_len (e_var 0 rfl)) (d' := .int ((xs.length + 2 : Nat) : Int)) (by simp; omega)) e_int) fun _ => w_orB (t_notB (t_bl (e_call (ι := At × Int × Int) (α := Unit) (v := ()) (.i et, 0, 999999) (fl_within T) hr (by decide) Sub.zero rfl (a_cons (e_ixT (ds := .int et :: .str k.s :: xs.map At.d) (e_var 0 rfl) e_int at_0) (a_cons e_int (a_cons e_int a_nil))) rfl))) fun _ => w_or1 (t_notB (t_bl (e_isi T.n_isinstance T.n_str (e_ixT (ds := .int et :: .str k.s :: xs.map At.d) (d := .str k.s) (e_var 0 rfl) e_int at_1) kb_str_str))))) (by simp)) (fun h => b_retD (v := ()) e_bl rfl ?_) fun h => ?_
  · show Is K (.bl (Ev.ok ⟨et, k, xs⟩)) = _
    congr 2
    cases hx : xs with
    | nil =>
      unfold Ev.ok
      cases k <;> simp
    | cons a r =>
      rw [hx] at h
      have h1 : inR 0 999999 (.i et) = false := by
        rw [List.length_cons] at h
        have h0 : decide (((r.length + 1 + 2 : Nat) : Int) < 3) = false := decide_eq_false (by omega)
        rw [h0, Bool.false_or] at h
        simpa using h
      unfold Ev.ok
      rw [show (decide (0 ≤ et) && decide (et ≤ 999999)) = false from h1, Bool.false_and]
  · have h2 : ¬ ((xs.length + 2 : Nat) : Int) < 3 ∧ inR 0 999999 (.i et) = true := by simpa using h
    have ht : (decide (0 ≤ et) && decide (et ≤ 999999)) = true := h2.2
    obtain ⟨a, r, rfl⟩ : ∃ a r, xs = a :: r := by
      cases xs with
      | nil => exact absurd (by decide) h2.1
      | cons a r => exact ⟨a, r, rfl⟩
    refine b_par 1 2 (T1 := Is K (.str k.s)) (T2 := Is K (.tup ((a :: r).map At.d))) (a_cons (e_ixT (ds := .int et :: .str k.s :: (a :: r).map At.d) (e_var 0 rfl) e_int at_1) (a_cons (EvE.eq (e_slT (ds := .int et :: .str k.s :: (a :: r).map At.d) (kl := some 2) (kh := none) (e_var 0 rfl) (evo_some e_int) evo_none) (by rw [cut_2])) a_nil)) ?_ sc_Levent_good.nd
    refine b_if (S := Eq (decide (k = .mark))) (EvT.eq (t_eqs (z := k.s) (z' := "mark") (e_var 1 rfl) e_str) (kd_mark k)) (fun hk => ?_) fun hk => ?_
    · have hk : k = .mark := of_decide_eq_true hk
      subst hk
      refine b_set 3 (P := Is K a.d) (e_ixT (ds := a.d :: r.map At.d) (e_var 2 rfl) e_int at_0) ?_ sc_Levent_good.nd
      have hok : Ev.ok ⟨et, .mark, a :: r⟩ = mkOk (a :: r) := ok_mark ht
      cases r with
      | cons a2 r =>
        refine b_if (S := Eq true) (EvT.eq (EvW.toT (w_orB (k' := false) (t_nei (e_lenT (ds := (a :: a2 :: r).map At.d) T.n_len (e_var 2 rfl)) e_int) fun h => ?_)) ?_) (fun _ => b_retD (v := ()) e_bl rfl ?_) fun h => nomatch h
        · exact absurd h (by simp; omega)
        · simp
          omega
        · show Is K (.bl (Ev.ok _)) = _
          rw [hok]
          rfl
      | nil =>
        cases a with
        | i n =>
          refine b_if (S := Eq true) (EvT.eq (EvW.toT (w_orB (t_nei (e_lenT (ds := [.int n]) T.n_len (e_var 2 rfl)) e_int) fun h => w_orB (k' := false) (t_notB (t_bl (e_isi T.n_isinstance T.n_str (d := .int n) (e_var 3 rfl) kb_int_str))) fun h => nomatch h)) ?_) (fun _ => b_retD (v := ()) e_bl rfl ?_) fun h => nomatch h
          · simp
          · show Is K (.bl (Ev.ok _)) = _
            rw [hok]
            rfl
        | s z =>
          have hz : z.length ≤ 1000 := he.z (.s z) (by simp) z rfl
          refine b_if (S := Eq (decide ((12 : Int) < (z.length : Nat)))) (EvT.eq (EvW.toT (w_orB (t_nei (e_lenT (ds := [.str z]) T.n_len (e_var 2 rfl)) e_int) fun h => w_orB (t_notB (t_bl (e_isi T.n_isinstance T.n_str (d := .str z) (e_var 3 rfl) kb_str_str))) fun h => w_or1 (t_gt (e_lenS T.n_len hz (e_var 3 rfl)) e_int))) ?_) (fun h => b_retD (v := ()) e_bl rfl ?_) fun h => b_retD (v := ()) (EvE.eq (e_all (bs := z.cps.toList.map fun c => decide (c ∈ signs.cps.toList)) rfl T.n_all (EvE.eq (e_lcAll (xs := z.cps.toList) (fun c => [some (Is K (Ev.d ⟨et, .mark, [.s z]⟩)), some (Is K (.str Kd.mark.s)), some (Is K (.tup [.str z])), some (Is K (.str z)), none, some (Is K (.str ⟨#[c]⟩)), none]) [5] (fun c => .bl (decide (c ∈ signs.cps.toList))) rfl sc_Levent_good.nd (i_str (e_var 3 rfl)) (by simpa [PySem.Str.length] using Nat.le_trans hz (by decide)) (blkOk_by (own := [("_law_sign", 5)]) (N := ["_law_event", "_law_word_here", "_law_things", "_law_text", "_law_many", "_law_sign", "_law_thing_here"]) (sc := defScope s_Levent_good) (by decide +kernel))
              (fun i x hx _ _ _ _ _ => tgY hx (tg_name 5 sc_Levent_good.nd)) (fun c hc _ _ _ _ _ => e_inSign (z := signs) (e_var 5 rfl) e_str)) ?_)) (d' := .bl (txtOk (.s z))) ?_) rfl ?_
          · simp
          · show Is K (.bl (Ev.ok _)) = _
            rw [hok]
            have h' := of_decide_eq_true h
            show Is K (.bl (txtOk (.s z))) = _
            rw [txt_s, decide_eq_false (show ¬ (z.length : Int) ≤ 12 by omega), Bool.false_and] <;> rfl
          · rw [List.map_map] <;> rfl
          · rw [all_map]
            have h' := of_decide_eq_false h
            rw [txt_s, decide_eq_true (show (z.length : Int) ≤ 12 by omega), Bool.true_and]
          · show Is K (.bl (Ev.ok _)) = _
            rw [hok]
            rfl
    · have hk : k ≠ .mark := of_decide_eq_false hk
      have hok := ok_law (e := ⟨et, k, a :: r⟩) hk ht
      have hE : manyE0 = Expr.Dict _ _ _ := rfl
      rw [← hE, ← manyE_eq]
      refine b_set 4 (P := Is K (.int (k.fs.length : Nat))) (e_dgetO (kts := manyL.map fun q => (Sum.inr q.1, Is K (.int q.2))) (ky := .inr k.s) (P0 := Is K (.int 0)) hr many_ev (e_var 1 rfl) e_int ?_ ?_ ⟨by rw [manyE_eq] <;> rfl, rfl, rfl, rfl⟩) ?_ sc_Levent_good.nd
      · intro U hU
        rw [atK_inr (g := fun q : Int => Is K (.int q))] at hU
        have : atK manyL k.s = some ((k.fs.length : Nat) : Int) := by
          cases k <;> first
            | exact absurd rfl hk
            | decide +kernel
        rw [this] at hU
        cases hU
        exact fun v F p => p
      · intro hU
        rw [atK_inr (g := fun q : Int => Is K (.int q))] at hU
        have : atK manyL k.s = some ((k.fs.length : Nat) : Int) := by
          cases k <;> first
            | exact absurd rfl hk
            | decide +kernel
        rw [this] at hU
        cases hU
      · refine b_if (S := Eq (!decide ((((a :: r).map At.d).length : Nat) = ((k.fs.length : Nat) : Int)) || !inR 0 15 a)) (EvW.toT (w_orB (t_nei (e_lenT (ds := (a :: r).map At.d) T.n_len (e_var 2 rfl)) (e_var 4 rfl)) fun _ => w_or1 (t_notB (t_bl (e_call (ι := At × Int × Int) (α := Unit) (v := ()) (a, 0, 15) (fl_within T) hr (by decide) Sub.zero rfl (a_cons (e_ixT (ds := a.d :: r.map At.d) (e_var 2 rfl) e_int at_0) (a_cons e_int (a_cons e_int a_nil))) rfl))))) (fun h => b_retD (v := ()) e_bl rfl ?_) fun h => ?_
        · show Is K (.bl (Ev.ok _)) = _
          rw [hok]
          have h' : (decide ((a :: r).length = k.fs.length) && inR 0 15 a) = false := by
            rw [List.length_map] at h
            have e : decide ((((a :: r).length : Nat) : Int) = ((k.fs.length : Nat) : Int)) = decide ((a :: r).length = k.fs.length) := decide_eq_decide.mpr (by omega)
            rw [e] at h
            cases h1 : decide ((a :: r).length = k.fs.length)
            · rfl
            · rw [h1] at h
              simpa using h
          show Is K (.bl (decide ((a :: r).length = k.fs.length) && (inR 0 15 a && _))) = _
          rw [← Bool.and_assoc, h', Bool.false_and] <;> rfl
        · have h' : (a :: r).length = k.fs.length ∧ inR 0 15 a = true := by
            rw [List.length_map] at h
            have := h
            simp only [Bool.or_eq_false_iff, Bool.not_eq_false', decide_eq_true_eq] at this
            exact ⟨by omega, this.2⟩
          have hsl : cutD ((a :: r).map At.d) (some 1) none = r.map At.d := cut_1
          have hok2 : Ev.ok ⟨et, k, a :: r⟩ = (r.all (inR 0 127) && (!decide (k = .on) || lastPos r)) := by
            rw [hok]
            show (decide ((a :: r).length = k.fs.length) && (inR 0 15 a && _)) = _
            rw [h'.2, decide_eq_true h'.1, Bool.true_and, Bool.true_and]
          refine b_if (S := Eq (!r.all (inR 0 127))) (t_notB (EvT.eq (t_bl (e_all (bs := r.map (inR 0 127)) rfl T.n_all (EvE.eq (e_lcAll (xs := r) (fun x => [some (Is K (Ev.d ⟨et, k, a :: r⟩)), some (Is K (.str k.s)), some (Is K (.tup ((a :: r).map At.d))), none, some (Is K (.int (k.fs.length : Nat))), none, some (Is K x.d)]) [6] (fun x => .bl (inR 0 127 x)) rfl sc_Levent_good.nd (i_tup (e_ts (xs := r) (f := At.d) (EvE.eq (e_slT (ds := (a :: r).map At.d) (kl := some 1) (kh := none) (e_var 2 rfl) (evo_some e_int) evo_none) (by rw [hsl])))) (by simp at hn; omega) (blkOk_by (own := [("_law_thing_here", 6)]) (N := ["_law_event", "_law_word_here", "_law_things", "_law_text", "_law_many", "_law_sign", "_law_thing_here"]) (sc := defScope s_Levent_good) (by decide +kernel))
              (fun i x hx _ _ _ _ _ => tgY hx (tg_name 6 sc_Levent_good.nd)) (fun x hx _ _ _ _ _ => e_call (ι := At × Int × Int) (α := Unit) (v := ()) (x, 0, 127) (fl_within T) (by exact hr) (by decide) Sub.zero rfl (a_cons (e_var 6 rfl) (a_cons e_int (a_cons e_int a_nil))) rfl)) ?_))) all_map)) (fun h3 => b_retD (v := ()) e_bl rfl ?_) fun h3 => ?_
          · rw [List.map_map] <;> rfl
          · show Is K (.bl (Ev.ok _)) = _
            rw [hok2, show r.all (inR 0 127) = false by simpa using h3, Bool.false_and] <;> rfl
          · have h3 : r.all (inR 0 127) = true := by simpa using h3
            rw [h3, Bool.true_and] at hok2
            refine b_retD (v := ()) (e_or (k' := lastPos r) (EvE.eq (e_nes (z := k.s) (z' := "on") (e_var 1 rfl) e_str) (d' := .bl (!decide (k = .on))) (by rw [show decide (k.s = ("on" : Str)) = decide (k = .on) from kd_inj k .on])) fun ho => e_one ?_) rfl (by show Is K (.bl (Ev.ok _)) = _; rw [hok2] <;> rfl)
            have ho : k = .on := by simpa using ho
            subst ho
            have hl : r.length = 2 := by
              have := h'.1
              simpa [Kd.fs] using this
            match r, hl, h3 with
            | [b2, .i n], _, _ => exact e_gt (e_ixT (ds := [a.d, b2.d, .int n]) (d := .int n) (e_var 2 rfl) e_int at_2) e_int
            | [b2, .s z], _, h3 => simp [inR] at h3
end
end R60

set_option Elab.async false
set_option pp.maxSteps 400
set_option linter.all false
set_option maxRecDepth 100000
set_option maxHeartbeats 4000000
namespace R60
open PySem PySem.Spec PyProof.Rows L2
/-! what the law says of a deed -/
/-- deeds at a track -/
def Deed.trk : Deed → Bool
  | .put .. => true | .take .. => true | .later .. => true | .part .. => true | _ => false
def Deed.ix : Deed → Int
  | .put _ i _ => i | .take _ i _ => i | .later _ i _ => i | .part _ i _ => i | _ => 0
def trackW (p : Tp) (t : Tr) : Deed → Str
  | .put _ _ e => bif !e.ok then "badevent" else bif decide ((199 : Int) < (t.length : Nat)) then "full" else ""
  | .take _ _ pl => bif decide (0 ≤ pl) && decide (pl < (t.length : Nat)) then "" else "noevent"
  | .later _ _ b => bif t.all fun e => decide (0 ≤ e.t + b) && decide (e.t + b ≤ 999999) then "" else "badtick"
  | .part _ _ ch => bif !(decide (0 ≤ ch) && decide (ch ≤ 15)) then "badchannel" else bif decide ((5 : Int) < (p.ts.length : Nat)) then "full" else ""
  | _ => ""
section
variable {p : Tp} {t : Tr} {n : Str} {i pl b ch : Int} {e : Ev}
theorem tw_put : trackW p t (.put n i e) = (bif !e.ok then "badevent" else bif decide ((199 : Int) < (t.length : Nat)) then "full" else "" : Str) := rfl
theorem tw_take : trackW p t (.take n i pl) = (bif decide (0 ≤ pl) && decide (pl < (t.length : Nat)) then "" else "noevent" : Str) := rfl
theorem tw_later : trackW p t (.later n i b) = (bif t.all fun e => decide (0 ≤ e.t + b) && decide (e.t + b ≤ 999999) then "" else "badtick" : Str) := rfl
theorem tw_part : trackW p t (.part n i ch) = (bif !(decide (0 ≤ ch) && decide (ch ≤ 15)) then "badchannel" else bif decide ((5 : Int) < (p.ts.length : Nat)) then "full" else "" : Str) := rfl
end
section
variable {w : World} {K : PySem.W.Frag} {mg : Str → Option Value} {base : Heap} {MC TC DC : Addr}
abbrev ιTW := { i : Tp × Tr × Deed // i.2.1.length ≤ 1000 ∧ (∀ e ∈ i.2.1, e.xs.length ≤ 10) ∧ i.2.2.fit ∧ i.2.2.trk = true }
def p_slim_track_word (K : PySem.W.Frag) (mg : Str → Option Value) : Sp := spG (ι := ιTW) (α := Unit) K mg (fun _ => m0) (fun i => [LtT K i.1.1, Is K (trD i.1.2.1), Is K i.1.2.2.d]) (fun _ => .ok ()) (fun i _ => Is K (.str (trackW i.1.1 i.1.2.1 i.1.2.2)))
theorem fl_slim_track_word (T : Txt w K mg MC TC DC) : CalX PG w K mg base 3 "_law_slim_track_word" (p_slim_track_word K mg) := by
  refine cal_blk T.d_Lslim_track_word sc_Lslim_track_word bd_Lslim_track_word (fun _ => rfl) (fun _ => rfl) ?_
  rintro ⟨⟨p, t, d⟩, hl, hx, hf, hk⟩ f cdv A outer s H E hr
  replace hl : t.length ≤ 1000 := hl
  cases d with
  | put n i e =>
    refine b_if (S := Eq true) (EvT.eq (t_eqs (z := "put") (z' := "put") (e_ixT (ds := [.str "put", .str n, .int i, e.d]) (e_var 2 rfl) e_int at_0) e_str) (by decide +kernel)) (fun _ => ?_) fun h => nomatch h
    exact b_retD (v := ()) (e_ifB (t_notB (t_bl (e_call (ι := { e : Ev // e.fit }) (α := Unit) (v := ()) ⟨e, hf.2⟩ (fl_event_good T) hr (by decide) Sub.zero rfl (a_cons (e_ixT (ds := [.str "put", .str n, .int i, e.d]) (d := e.d) (e_var 2 rfl) e_int at_3) a_nil) rfl))) (fun _ => e_str) fun _ => e_ifB (t_gt (e_lenL (ds := t.map Ev.d) T.n_len (e_var 1 rfl)) e_int) (fun _ => e_str) fun _ => e_str) rfl (by
      show Is K (.str (trackW p t (.put n i e))) = _
      rw [tw_put]
      rw [List.length_map]
      cases e.ok <;> cases decide ((199 : Int) < (t.length : Nat)) <;> rfl)
  | take n i pl =>
    refine b_if (S := Eq false) (EvT.eq (t_eqs (z := "take") (z' := "put") (e_ixT (ds := [.str "take", .str n, .int i, .int pl]) (e_var 2 rfl) e_int at_0) e_str) (by decide +kernel)) (fun h => nomatch h) fun _ => ?_
    refine b_if (S := Eq true) (EvT.eq (t_eqs (z := "take") (z' := "take") (e_ixT (ds := [.str "take", .str n, .int i, .int pl]) (e_var 2 rfl) e_int at_0) e_str) (by decide +kernel)) (fun _ => ?_) fun h => nomatch h
    exact b_retD (v := ()) (e_ifB (t_lelt e_int (e_ixT (ds := [.str "take", .str n, .int i, .int pl]) (d := .int pl) (e_var 2 rfl) e_int at_3) (e_lenL (ds := t.map Ev.d) T.n_len (e_var 1 rfl))) (fun _ => e_str) fun _ => e_str) rfl (by
      show Is K (.str (trackW p t (.take n i pl))) = _
      rw [tw_take]
      rw [List.length_map]
      cases decide (0 ≤ pl) && decide (pl < ((t.length : Nat) : Int)) <;> rfl)
  | later n i b =>
    refine b_if (S := Eq false) (EvT.eq (t_eqs (z := "later") (z' := "put") (e_ixT (ds := [.str "later", .str n, .int i, .int b]) (e_var 2 rfl) e_int at_0) e_str) (by decide +kernel)) (fun h => nomatch h) fun _ => ?_
    refine b_if (S := Eq false) (EvT.eq (t_eqs (z := "later") (z' := "take") (e_ixT (ds := [.str "later", .str n, .int i, .int b]) (e_var 2 rfl) e_int at_0) e_str) (by decide +kernel)) (fun h => nomatch h) fun _ => ?_
    refine b_if (S := Eq true) (EvT.eq (t_eqs (z := "later") (z' := "later") (e_ixT (ds := [.str "later", .str n, .int i, .int b]) (e_var 2 rfl) e_int at_0) e_str) (by decide +kernel)) (fun _ => ?_) fun h => nomatch h
    refine b_retD (v := ()) (e_ifB (EvT.eq (t_bl (e_all (bs := t.map fun e => decide (0 ≤ e.t + b) && decide (e.t + b ≤ 999999)) rfl T.n_all (EvE.eq (e_lcAll (xs := t) (fun x => [some (LtT K p), some (Is K (trD t)), some (Is K (Deed.d (.later n i b))), some (Is K x.d)]) [3] (fun x => .bl (decide (0 ≤ x.t + b) && decide (x.t + b ≤ 999999))) rfl sc_Lslim_track_word.nd (i_list (e_ls (e_var 1 rfl))) (Nat.le_trans hl (by decide)) (blkOk_by (own := [("_law_event", 3)]) (N := ["_law_m", "_law_track", "_law_deed", "_law_event"]) (sc := defScope s_Lslim_track_word) (by decide +kernel))
      (fun i x hx _ _ _ _ _ => tgY hx (tg_name 3 sc_Lslim_track_word.nd)) (fun x hx _ _ _ _ _ => e_lele e_int (e_add (e_ixT (ds := .int x.t :: .str x.k.s :: x.xs.map At.d) (d := .int x.t) (e_var 3 rfl) e_int at_0) (e_ixT (ds := [.str "later", .str n, .int i, .int b]) (d := .int b) (e_var 2 rfl) e_int at_3)) e_int)) ?_))) all_map) (fun _ => e_str) fun _ => e_str) rfl ?_
    · rw [List.map_map] <;> rfl
    · show Is K (.str (trackW p t (.later n i b))) = _
      rw [tw_later]
      cases t.all fun e => decide (0 ≤ e.t + b) && decide (e.t + b ≤ 999999) <;> rfl
  | part n i ch =>
    refine b_if (S := Eq false) (EvT.eq (t_eqs (z := "part") (z' := "put") (e_ixT (ds := [.str "part", .str n, .int i, .int ch]) (e_var 2 rfl) e_int at_0) e_str) (by decide +kernel)) (fun h => nomatch h) fun _ => ?_
    refine b_if (S := Eq false) (EvT.eq (t_eqs (z := "part") (z' := "take") (e_ixT (ds := [.str "part", .str n, .int i, .int ch]) (e_var 2 rfl) e_int at_0) e_str) (by decide +kernel)) (fun h => nomatch h) fun _ => ?_
    refine b_if (S := Eq false) (EvT.eq (t_eqs (z := "part") (z' := "later") (e_ixT (ds := [.str "part", .str n, .int i, .int ch]) (e_var 2 rfl) e_int at_0) e_str) (by decide +kernel)) (fun h => nomatch h) fun _ => ?_
    refine b_if (t_notB (t_lele e_int (e_ixT (ds := [.str "part", .str n, .int i, .int ch]) (d := .int ch) (e_var 2 rfl) e_int at_3) e_int)) (fun h => b_retD (v := ()) e_str rfl ?_) fun h => b_retD (v := ()) (e_ifB (t_gt (e_lenL (ds := p.ts.map trD) T.n_len (e_ixAt (k := 2) (e_var 0 rfl) e_int rfl)) e_int) (fun _ => e_str) fun _ => e_str) rfl ?_
    · show Is K (.str (trackW p t (.part n i ch))) = _
      rw [tw_part]
      rw [h]
      rfl
    · show Is K (.str (trackW p t (.part n i ch))) = _
      rw [tw_part]
      rw [h, List.length_map]
      cases decide ((5 : Int) < (p.ts.length : Nat)) <;> rfl
  | _ => exact nomatch hk
/-! the word of a deed -/
def newW (b : Bk) (n : Str) (t : Int) : Str := bif decide (nameW b n = "") && !(decide (1 ≤ t) && decide (t ≤ 960)) then "badbeat" else nameW b n
def wordT (p : Tp) : Deed → Str
  | .new _ _ => ""
  | .drop _ => ""
  | .add _ => bif decide ((5 : Int) < (p.ts.length : Nat)) then "full" else ""
  | .pace _ t pc => bif !(decide (0 ≤ t) && decide (t ≤ 999999)) then "badtick" else bif !(decide (1 ≤ pc) && decide (pc ≤ 16777215)) then "badpace" else bif !(atK p.ps t).isSome && decide ((19 : Int) < (p.ps.length : Nat)) then "full" else ""
  | d => bif !(decide (0 ≤ d.ix) && decide (d.ix < (p.ts.length : Nat))) then "notrack" else match p.ts[d.ix.toNat]? with
    | none => ""
    | some t => trackW p t d
theorem wt_add {p : Tp} {n : Str} : wordT p (.add n) = (bif decide ((5 : Int) < (p.ts.length : Nat)) then "full" else "" : Str) := rfl
theorem wt_pace {p : Tp} {n : Str} {t pc : Int} : wordT p (.pace n t pc) = (bif !(decide (0 ≤ t) && decide (t ≤ 999999)) then "badtick" else bif !(decide (1 ≤ pc) && decide (pc ≤ 16777215)) then "badpace" else bif !(atK p.ps t).isSome && decide ((19 : Int) < (p.ps.length : Nat)) then "full" else "" : Str) := rfl
def wordL (b : Bk) (d : Deed) : Str := match d with
  | .new n t => bif decide (newW b n t = "") && decide ((5 : Int) < (b.length : Nat)) then "full" else newW b n t
  | d => match atK b d.n with
    | none => "notape"
    | some p => wordT p d
theorem Deed.is_new {d : Deed} (h : d.w = "new") : ∃ n b, d = .new n b := by
  cases d <;> first
    | exact ⟨_, _, rfl⟩
    | exact absurd h (by simp only [Deed.w]; decide)
theorem Deed.is_pace {d : Deed} (h : d.w = "pace") : ∃ n t p, d = .pace n t p := by
  cases d <;> first
    | exact ⟨_, _, _, rfl⟩
    | exact absurd h (by simp only [Deed.w]; decide)
theorem Deed.is_add {d : Deed} (h : d.w = "add") : ∃ n, d = .add n := by
  cases d <;> first
    | exact ⟨_, rfl⟩
    | exact absurd h (by simp only [Deed.w]; decide)
theorem Deed.is_trk {d : Deed} (h1 : d.w ≠ "new") (h2 : d.w ≠ "drop") (h3 : d.w ≠ "add") (h4 : d.w ≠ "pace") : d.trk = true ∧ ∃ r, d.th = .int d.ix :: r := by
  cases d <;> first
    | exact ⟨rfl, _, rfl⟩
    | exact absurd rfl h1
    | exact absurd rfl h2
    | exact absurd rfl h3
    | exact absurd rfl h4
theorem wl_new {b : Bk} {n : Str} {t : Int} : wordL b (.new n t) = (bif decide (newW b n t = "") && decide ((5 : Int) < (b.length : Nat)) then "full" else newW b n t : Str) := rfl
theorem wordL_at {b : Bk} {d : Deed} (h : d.w ≠ "new") : wordL b d = (match atK b d.n with
    | none => "notape"
    | some p => wordT p d : Str) := by
  cases d <;> first
    | rfl
    | exact absurd rfl h
theorem wordT_trk {p : Tp} {d : Deed} (h : d.trk = true) : wordT p d = (bif !(decide (0 ≤ d.ix) && decide (d.ix < (p.ts.length : Nat))) then "notrack" else match p.ts[d.ix.toNat]? with
    | none => ""
    | some t => trackW p t d : Str) := by
  cases d <;> first
    | rfl
    | exact nomatch h
theorem size_at (d : Deed) : atK sizesL d.w = some ((2 + d.th.length : Nat) : Int) := by
  cases d <;> (simp only [Deed.w, Deed.th, List.length_cons, List.length_nil]; decide +kernel)
abbrev ιW2 := { i : Bk × Deed // BkOk i.1 ∧ i.2.fit }
def p_slim_word (K : PySem.W.Frag) (mg : Str → Option Value) : Sp := spG (ι := ιW2) (α := Unit) K mg (fun _ => m0) (fun i => [LbT K i.1.1, Is K i.1.2.d]) (fun _ => .ok ()) (fun i _ => Is K (.str (wordL i.1.1 i.1.2)))
theorem fl_slim_word (T : Txt w K mg MC TC DC) : CalX PG w K mg base 4 "_law_slim_word" (p_slim_word K mg) := by
  refine cal_blk T.d_Lslim_word sc_Lslim_word bd_Lslim_word (fun _ => rfl) (fun _ => rfl) ?_
  rintro ⟨⟨b, d⟩, hb, hf⟩ f cdv A outer s H E hr
  replace hb : BkOk b := hb
  replace hf : d.fit := hf
  have ew : ∀ {Γ : Gam} {m : Mu} {p1 p2 p3 : Pos} {k : Nat}, Γ[1]? = some (some (Is K d.d)) → EvE (cxD PG w K mg base "_law_slim_word" s_Lslim_word ["_law_book", "_law_deed", "_law_word_here", "_law_m"] f cdv A outer s H E) m Γ (.Subscript (.Name "_law_deed" p1) (.Constant (.int 0) k p2) p3) (Is K (.str d.w)) := fun h => e_ixT (ds := .str d.w :: .str d.n :: d.th) (e_var 1 h) e_int at_0
  have en : ∀ {Γ : Gam} {m : Mu} {p1 p2 p3 : Pos} {k : Nat}, Γ[1]? = some (some (Is K d.d)) → EvE (cxD PG w K mg base "_law_slim_word" s_Lslim_word ["_law_book", "_law_deed", "_law_word_here", "_law_m"] f cdv A outer s H E) m Γ (.Subscript (.Name "_law_deed" p1) (.Constant (.int 1) k p2) p3) (Is K (.str d.n)) := fun h => e_ixT (ds := .str d.w :: .str d.n :: d.th) (d := .str d.n) (e_var 1 h) e_int at_1
  refine b_if (S := Eq false) (EvT.eq (EvW.toT (w_orB (t_eqi (e_lenT (ds := .str d.w :: .str d.n :: d.th) T.n_len (e_var 1 rfl)) e_int) fun _ => w_or1 (t_nei (i := ((2 + d.th.length : Nat) : Int)) (e_dgetO (kts := sizesL.map fun q => (Sum.inr q.1, Is K (.int q.2))) (ky := .inr d.w) (P0 := Is K (.int 0)) hr (e_call0 (ι := Unit) (α := Unit) (v := ()) () (fl_slim_sizes T) hr (by decide) Sub.zero rfl rfl rfl) (ew rfl) e_int (fun U hU v F p => ?_) (fun hU => ?_)) (e_lenT (ds := .str d.w :: .str d.n :: d.th) T.n_len (e_var 1 rfl))))) ?_) (fun h => nomatch h) fun _ => ?_
  · rw [atK_inr (g := fun q : Int => Is K (.int q)), size_at d] at hU
    cases hU
    exact p
  · rw [atK_inr (g := fun q : Int => Is K (.int q)), size_at d] at hU
    cases hU
  · simp
    omega
  refine b_if (t_eqs (z' := "new") (ew rfl) e_str) (fun h => ?_) fun h1 => ?_
  · obtain ⟨n, t, rfl⟩ := Deed.is_new (of_decide_eq_true h)
    have hn : n.length ≤ 1000 := hf.1
    refine b_set 2 (P := Is K (.str (nameW b n))) (e_call (ι := { p : Bk × Str // p.2.length ≤ 1000 }) (α := Unit) (v := ()) ⟨(b, n), hn⟩ (fl_name_word T) hr (by decide) Sub.zero rfl (a_cons (e_var 0 rfl) (a_cons (en rfl) a_nil)) rfl) ?_ sc_Lslim_word.nd
    refine b_stf (s_if (S := Eq (decide (nameW b n = "") && !(decide (1 ≤ t) && decide (t ≤ 960)))) (o := .ok ()) (Γ' := fun _ => [some (LbT K b), some (Is K (Deed.d (.new n t))), some (Is K (.str (newW b n t))), none]) (EvW.toT (w_andB (t_eqs (z' := "") (e_var 2 rfl) e_str) fun _ => w_and1 (t_notB (t_lele e_int (e_ixT (ds := [.str "new", .str n, .int t]) (d := .int t) (e_var 1 rfl) e_int at_2) e_int)))) (fun h => ?_) fun h => ?_) (fun z h => nomatch h) fun _ _ => b_retD (v := ()) (e_ifB (EvW.toT (w_andB (t_eqs (z' := "") (e_var 2 rfl) e_str) fun _ => w_and1 (t_gt (e_lenD (kts := tk b (LtT K)) T.n_len (e_var 0 rfl)) e_int))) (fun _ => e_str) fun _ => e_var 2 rfl) rfl ?_
    · have e : newW b n t = "badbeat" := by
        unfold newW
        rw [h]
        rfl
      rw [e]
      exact f_one (s_set 2 e_str sc_Lslim_word.nd)
    · have e : newW b n t = nameW b n := by
        unfold newW
        rw [h]
        rfl
      rw [e]
      exact f_nil
    · show Is K (.str (wordL b (.new n t))) = _
      rw [wl_new]
      unfold tk
      rw [List.length_map]
      cases decide (newW b n t = "") && decide ((5 : Int) < (b.length : Nat)) <;> rfl
  have h1 : d.w ≠ "new" := of_decide_eq_false h1
  have hW := wordL_at (b := b) h1
  refine b_if (t_nin (ky := .inr d.n) hr (en rfl) (e_var 0 rfl)) (fun h => b_retD (v := ()) e_str rfl ?_) fun h => ?_
  · show Is K (.str (wordL b d)) = _
    rw [hW]
    rw [some_tk] at h
    cases hp : atK b d.n with
    | none => rfl
    | some p =>
      rw [hp] at h
      cases h
  rw [some_tk] at h
  cases hp : atK b d.n with
  | none =>
    rw [hp] at h
    cases h
  | some p =>
  rw [hp] at hW
  replace hW : wordL b d = wordT p d := hW
  have hpo : TpOk p := hb.at hp
  have hdone : ∀ {z : Str}, wordT p d = z → (fun _ : Unit => Is K (.str (wordL b d))) () = Is K (.str z) := fun e => by
    show Is K (.str (wordL b d)) = _
    rw [hW, e]
  have hdB : ∀ {c : Bool} {z1 z2 : Str}, wordT p d = (bif c then z1 else z2) → (fun _ : Unit => Is K (.str (wordL b d))) () = Is K (bif c then .str z1 else .str z2) := fun {c z1 z2} e => by
    cases c
    · exact hdone e
    · exact hdone e
  refine b_set 3 (P := LtT K p) (e_dget (kts := tk b (LtT K)) (ky := .inr d.n) hr (e_var 0 rfl) (en rfl) (by unfold tk; rw [atK_map, hp] <;> rfl)) ?_ sc_Lslim_word.nd
  refine b_if (S := Eq ([("drop" : Str), "add"].any fun y => decide (y = d.w))) (t_inT (zs := ["drop", "add"]) (ew rfl) (e_tupD (ad_cons e_str (ad_cons e_str ad_nil)))) (fun h => ?_) fun h2 => ?_
  · refine b_retD (v := ()) (e_ifB (EvW.toT (w_andB (t_eqs (z' := "add") (ew rfl) e_str) fun _ => w_and1 (t_gt (e_lenL (ds := p.ts.map trD) T.n_len (e_ixAt (k := 2) (e_var 3 rfl) e_int rfl)) e_int))) (fun _ => e_str) fun _ => e_str) rfl (hdB ?_)
    have h : d.w = "drop" ∨ d.w = "add" := by
      simp at h
      exact h.imp Eq.symm Eq.symm
    rw [List.length_map]
    rcases h with h | h
    · obtain ⟨n, rfl⟩ := Deed.is_drop h
      rw [show decide (Deed.w (.drop n) = ("add" : Str)) = false from (show decide (("drop" : Str) = "add") = false by decide +kernel)]
      rfl
    · obtain ⟨n, rfl⟩ := Deed.is_add h
      rw [show decide (Deed.w (.add n) = ("add" : Str)) = true from (show decide (("add" : Str) = "add") = true by decide +kernel), wt_add, Bool.true_and]
  have h2 : d.w ≠ "drop" ∧ d.w ≠ "add" := by
    simp at h2
    exact ⟨fun z => h2.1 z.symm, fun z => h2.2 z.symm⟩
  refine b_if (t_eqs (z' := "pace") (ew rfl) e_str) (fun h => ?_) fun h3 => ?_
  · obtain ⟨n, t, pc, rfl⟩ := Deed.is_pace (of_decide_eq_true h)
    refine b_if (t_notB (t_lele e_int (e_ixT (ds := [.str "pace", .str n, .int t, .int pc]) (d := .int t) (e_var 1 rfl) e_int at_2) e_int)) (fun h => b_retD (v := ()) e_str rfl (hdone ?_)) fun h4 => ?_
    · rw [wt_pace]
      rw [h]
      rfl
    refine b_if (t_notB (t_lele e_int (e_ixT (ds := [.str "pace", .str n, .int t, .int pc]) (d := .int pc) (e_var 1 rfl) e_int at_3) e_int)) (fun h => b_retD (v := ()) e_str rfl (hdone ?_)) fun h5 => b_retD (v := ()) (e_ifB (EvW.toT (w_andB (t_nin (kts := p.ps.map fun q => (Sum.inl q.1, Is K (.int q.2))) (ky := .inl t) hr (e_ixT (ds := [.str "pace", .str n, .int t, .int pc]) (d := .int t) (e_var 1 rfl) e_int at_2) (e_ixAt (k := 1) (e_var 3 rfl) e_int rfl)) fun _ => w_and1 (t_gt (e_lenD (kts := p.ps.map fun q => (Sum.inl q.1, Is K (.int q.2))) T.n_len (e_ixAt (k := 1) (e_var 3 rfl) e_int rfl)) e_int))) (fun _ => e_str) fun _ => e_str) rfl (hdB ?_)
    · rw [wt_pace]
      rw [h4, h]
      rfl
    · rw [wt_pace]
      rw [h4, h5, List.length_map, atK_int]
      rfl
  have h3 : d.w ≠ "pace" := of_decide_eq_false h3
  obtain ⟨hk, r, hth⟩ := Deed.is_trk h1 h2.1 h2.2 h3
  have hWT := wordT_trk (p := p) hk
  have ei : ∀ {Γ : Gam} {m : Mu} {p1 p2 p3 : Pos} {k : Nat}, Γ[1]? = some (some (Is K d.d)) → EvE (cxD PG w K mg base "_law_slim_word" s_Lslim_word ["_law_book", "_law_deed", "_law_word_here", "_law_m"] f cdv A outer s H E) m Γ (.Subscript (.Name "_law_deed" p1) (.Constant (.int 2) k p2) p3) (Is K (.int d.ix)) := fun h => e_ixT (ds := .str d.w :: .str d.n :: d.th) (d := .int d.ix) (e_var 1 h) e_int (by rw [hth]; exact at_2)
  refine b_if (t_notB (t_lelt e_int (ei rfl) (e_lenL (ds := p.ts.map trD) T.n_len (e_ixAt (k := 2) (e_var 3 rfl) e_int rfl)))) (fun h => b_retD (v := ()) e_str rfl (hdone ?_)) fun h4 => ?_
  · rw [List.length_map] at h
    rw [hWT, h]
    rfl
  rw [List.length_map] at h4
  have hi : 0 ≤ d.ix ∧ d.ix < (p.ts.length : Nat) := by
    have := h4
    simpa using this
  have hlt : d.ix.toNat < p.ts.length := by omega
  have hto : TrOk p.ts[d.ix.toNat] := hpo.ts _ (List.getElem_mem _)
  have hat : atI (p.ts.map trD) d.ix = some (trD p.ts[d.ix.toNat]) := by
    unfold atI ixN
    rw [if_pos hi.1, if_pos (by rw [List.length_map]; exact hi.2)]
    simp [hlt]
  have hg : p.ts[d.ix.toNat]? = some p.ts[d.ix.toNat] := List.getElem?_eq_getElem hlt
  rw [h4, hg] at hWT
  generalize p.ts[d.ix.toNat] = t at hat hto hWT
  exact b_retP (v := ()) (e_call (ι := ιTW) (α := Unit) (v := ()) ⟨(p, t, d), Nat.le_trans hto.n (by decide), fun e he => (ok_fit (hto.ok e he)).n, hf, hk⟩ (fl_slim_track_word T) hr (by decide) Sub.zero rfl (a_cons (e_var 3 rfl) (a_cons (e_ixL (ds := p.ts.map trD) (e_ixAt (k := 2) (e_var 3 rfl) e_int rfl) (ei rfl) hat) (a_cons (e_var 1 rfl) a_nil))) rfl) rfl fun u F q => by
    show (Is K (.str (wordL b d))).p u F
    rw [hW, hWT]
    exact q
end
end R60

set_option Elab.async false
set_option pp.maxSteps 400
set_option linter.all false
set_option maxRecDepth 100000
set_option maxHeartbeats 4000000
namespace R60
open PySem PySem.Spec PyProof.Rows L2
/-! the law's own put_in, lane, pairs -/
def laneI (e : Ev) : Int := if e.k = .mark then 0 - 1 else match e.xs with
  | .i c :: _ => c
  | _ => 0
def lkI (ps : List (Int × Int)) (t : Int) : Int := (atK ps t).getD 0
theorem srtI_le (ns : List Int) : (srtI ns).Pairwise (· ≤ ·) := by
  have h : (ns.mergeSort (fun a b => decide (a ≤ b))).Pairwise (· ≤ ·) := by
    have := List.pairwise_mergeSort (le := fun a b : Int => decide (a ≤ b)) (fun a b c h1 h2 => by
      have := of_decide_eq_true h1
      have := of_decide_eq_true h2
      exact decide_eq_true (by omega)) (fun a b => by
      by_cases h : a ≤ b
      · simp [h]
      · simp [show b ≤ a from by omega]) ns
    exact this.imp fun h => of_decide_eq_true h
  rw [srtI_eq (List.mergeSort_perm ns _) h]
  exact h
theorem lk_mem {ps : List (Int × Int)} (hd : (ps.map (·.1)).Nodup) : ∀ q ∈ ps, lkI ps q.1 = q.2 := by
  induction ps with
  | nil => exact fun q h => nomatch h
  | cons p r ih =>
    rw [List.map_cons] at hd
    obtain ⟨h1, h2⟩ := List.nodup_cons.mp hd
    intro q hq
    unfold lkI atK
    rcases List.mem_cons.mp hq with rfl | hq
    · simp
    · have hne : ¬ p.1 = q.1 := fun e => h1 (by rw [e]; exact List.mem_map_of_mem hq)
      have := ih h2 q hq
      unfold lkI atK at this
      simpa [hne] using this
theorem pairs_srt {ps : List (Int × Int)} (hd : (ps.map (·.1)).Nodup) : (srtI (ps.map (·.1))).map (fun t => (t, lkI ps t)) = srtP ps := by
  refine (srtP_eq ?_ ?_).symm
  · refine ((srtBy_perm (ps.map (·.1))).map _).trans ?_
    rw [List.map_map]
    have : ps.map ((fun t => (t, lkI ps t)) ∘ fun x => x.1) = ps := by
      conv => rhs; rw [← List.map_id ps]
      refine List.map_congr_left fun q hq => ?_
      show (q.1, lkI ps q.1) = q
      rw [lk_mem hd q hq]
    rw [this]
  · rw [List.pairwise_map]
    refine List.Pairwise.imp ?_ (srtI_le (ps.map (·.1)))
    intro a b hab h
    rcases h with h | ⟨h1, h2⟩
    · have h : b < a := h
      omega
    · have h1 : b = a := h1
      subst h1
      exact absurd h2 (Int.lt_irrefl _)
section
variable {w : World} {K : PySem.W.Frag} {mg : Str → Option Value} {base : Heap} {MC TC DC : Addr}
def p_Lput_in (K : PySem.W.Frag) (mg : Str → Option Value) : Sp := spG (ι := { p : Tr × Ev // p.1.length ≤ 1000 }) (α := Unit) K mg (fun _ => m0) (fun i => [Is K (trD i.1.1), Is K i.1.2.d]) (fun _ => .ok ()) (fun i _ => Is K (trD (put1 i.1.1 i.1.2)))
theorem fl_put_in (T : Txt w K mg MC TC DC) : CalX PG w K mg base 1 "_law_put_in" (p_Lput_in K mg) := by
  refine cal_blk T.d_Lput_in sc_Lput_in bd_Lput_in (fun _ => rfl) (fun _ => rfl) ?_
  rintro ⟨⟨t, e⟩, hl⟩ f cdv A outer s H E hr
  replace hl : t.length ≤ 1000 := hl
  have hle := List.length_filter_le (fun x : Ev => decide (x.t ≤ e.t)) t
  refine b_set 2 (e_lenL (ds := ((t.filter fun x => decide (x.t ≤ e.t)).map Ev.d)) T.n_len (e_lcIf (xs := t) (fun x => [some (Is K (trD t)), some (Is K e.d), none, some (Is K x.d)]) [3] (fun x => decide (x.t ≤ e.t)) Ev.d rfl sc_Lput_in.nd (i_list (e_ls (e_var 0 rfl))) (Nat.le_trans hl (by decide))
    (blkOk_by (own := [("_law_one_here", 3)]) (N := ["_law_track", "_law_event", "_law_at", "_law_one_here"]) (sc := defScope s_Lput_in) (by decide +kernel)) (fun i e he _ _ _ _ _ => tgY he (tg_name 3 sc_Lput_in.nd)) (fun x hx _ _ _ _ _ => t_le (e_ixT (ds := .int x.t :: .str x.k.s :: x.xs.map At.d) (e_var 3 rfl) e_int at_0) (e_ixT (ds := .int e.t :: .str e.k.s :: e.xs.map At.d) (e_var 1 rfl) e_int at_0)) (fun e he _ _ _ _ _ _ => e_var 3 rfl))) ?_ sc_Lput_in.nd
  rw [List.length_map]
  refine b_retD (v := ()) (d := trD (put1 t e)) (EvE.eq (e_cat (e_cat (e_slL (e_var 0 rfl) evo_none (evo_some (e_var 2 rfl))) (e_lstD (ad_cons (e_var 1 rfl) ad_nil)) ?_) (e_slL (e_var 0 rfl) (evo_some (e_var 2 rfl)) evo_none) ?_) ?_) rfl rfl
  · rw [cut_to]
    simp
    omega
  · rw [cut_to, cut_from]
    simp
    omega
  · rw [cut_to, cut_from]
    show D.lst _ = D.lst _
    unfold put1
    simp
def p_lane (K : PySem.W.Frag) (mg : Str → Option Value) : Sp := spG (ι := { e : Ev // e.ok = true }) (α := Unit) K mg (fun _ => m0) (fun i => [Is K i.1.d]) (fun _ => .ok ()) (fun i _ => Is K (.int (laneI i.1)))
theorem fl_lane (T : Txt w K mg MC TC DC) : CalX PG w K mg base 1 "_law_lane" (p_lane K mg) := by
  refine cal_blk T.d_Llane sc_Llane bd_Llane (fun _ => rfl) (fun _ => rfl) ?_
  rintro ⟨e, hok⟩ f cdv A outer s H E hr
  have ek : ∀ {Γ : Gam} {m : Mu} {p1 p2 p3 p4 p5 : Pos} {k k2 : Nat}, Γ[0]? = some (some (Is K e.d)) → EvT (cxD PG w K mg base "_law_lane" s_Llane ["_law_event"] f cdv A outer s H E) m Γ (.Compare (.Subscript (.Name "_law_event" p1) (.Constant (.int 1) k p2) p3) [.Eq] [.Constant (.str "mark") k2 p4] p5) (Eq (decide (e.k = .mark))) := fun h => EvT.eq (t_eqs (z := e.k.s) (z' := "mark") (e_ixT (ds := .int e.t :: .str e.k.s :: e.xs.map At.d) (e_var 0 h) e_int at_1) e_str) (kd_mark e.k)
  rcases ok_two hok with ⟨hk, z, hx, _⟩ | ⟨hk, c, r, hx, _⟩
  · replace hk : e.k = .mark := hk
    refine b_retD (v := ()) (d := .int (0 - 1)) (e_if (ek rfl) (fun _ => e_sub e_int e_int) fun h => ?_) rfl ?_
    · rw [decide_eq_true hk] at h
      exact nomatch h
    · show Is K (.int (laneI e)) = _
      unfold laneI
      rw [if_pos hk] <;> rfl
  · replace hk : e.k ≠ .mark := hk
    have hd : e.d = .tup (.int e.t :: .str e.k.s :: .int c :: r.map At.d) := by
      unfold Ev.d
      rw [hx] <;> rfl
    refine b_retD (v := ()) (d := .int c) (e_if (ek rfl) (fun h => ?_) fun _ => e_ixT (ds := (.int e.t :: .str e.k.s :: .int c :: r.map At.d)) (EvE.eq (e_var 0 rfl) hd) e_int at_2) rfl ?_
    · rw [decide_eq_false hk] at h
      exact nomatch h
    · show Is K (.int (laneI e)) = _
      unfold laneI
      rw [if_neg hk, hx] <;> rfl
theorem kn_at {ps : List (Int × Int)} {t : Int} (h : t ∈ ps.map (·.1)) : atK (ps.map fun q => ((Sum.inl q.1 : L2.Key), Is K (.int q.2))) (Sum.inl t) = some (Is K (.int (lkI ps t))) := by
  induction ps with
  | nil => exact nomatch h
  | cons p r ih =>
    by_cases hp : p.1 = t
    · unfold atK lkI atK
      simp [hp]
    · rw [List.map_cons] at h
      have h' : t ∈ r.map (·.1) := (List.mem_cons.mp h).resolve_left fun e => hp e.symm
      have := ih h'
      unfold atK lkI atK at this ⊢
      simpa [hp] using this
def p_Lpairs (K : PySem.W.Frag) (mg : Str → Option Value) : Sp := spG (ι := { ps : List (Int × Int) // Pcs ps }) (α := Unit) K mg (fun _ => m0) (fun i => [KnT K i.1]) (fun _ => .ok ()) (fun i _ => Is K (pairsD (srtP i.1)))
theorem fl_pairs (T : Txt w K mg MC TC DC) : CalX PG w K mg base 1 "_law_pairs" (p_Lpairs K mg) := by
  refine cal_blk T.d_Lpairs sc_Lpairs bd_Lpairs (fun _ => rfl) (fun _ => rfl) ?_
  rintro ⟨ps, hps⟩ f cdv A outer s H E hr
  replace hps : Pcs ps := hps
  have hp : (srtI (ps.map (·.1))).Perm (ps.map (·.1)) := srtBy_perm _
  refine b_retD (v := ()) (e_lcAll (xs := srtI (ps.map (·.1))) (fun t => [some (KnT K ps), some (Is K (.int t))]) [1] (fun t => .tup [.int t, .int (lkI ps t)]) rfl sc_Lpairs.nd (i_list (e_ls (xs := srtI (ps.map (·.1))) (f := D.int) (e_sortI (ns := ps.map (·.1)) T.n_sorted (EvE.eq (e_listD (kts := ps.map fun q => (Sum.inl q.1, Is K (.int q.2))) rfl T.n_list (e_var 0 rfl)) ?_)))) ?_ (blkOk_by (own := [("_law_tick_here", 1)]) (N := ["_law_known", "_law_tick_here"]) (sc := defScope s_Lpairs) (by decide +kernel))
    (fun i x hx _ _ _ _ _ => tgY hx (tg_name 1 sc_Lpairs.nd)) (fun t ht _ _ _ _ _ => e_tupD (ad_cons (e_var 1 rfl) (ad_cons (e_dget (kts := ps.map fun q => (Sum.inl q.1, Is K (.int q.2))) (ky := .inl t) hr (e_var 0 rfl) (e_var 1 rfl) (kn_at (hp.mem_iff.mp ht))) ad_nil)))) rfl ?_
  · rw [List.map_map, List.map_map] <;> rfl
  · rw [hp.length_eq, List.length_map]
    exact Nat.le_trans hps.n (by decide)
  · show Is K (pairsD (srtP ps)) = _
    rw [← pairs_srt hps.d]
    unfold pairsD
    rw [List.map_map] <;> rfl
end
end R60

set_option Elab.async false
set_option pp.maxSteps 400
set_option linter.all false
set_option maxRecDepth 100000
set_option maxHeartbeats 1000000
namespace R60
open PySem PySem.Spec PyProof.Rows L2
/-! ### a region of the heap, frozen -/
open Classical in
noncomputable def frzO (S : Addr → Prop) (F H : Hp) : Hp := fun c => if S c then H c else F c
theorem frzO_in {S : Addr → Prop} {F H : Hp} {c : Addr} (h : S c) : frzO S F H c = H c := if_pos h
theorem frzO_out {S : Addr → Prop} {F H : Hp} {c : Addr} (h : ¬ S c) : frzO S F H c = F c := if_neg h
theorem frzO_ex {S S' : Addr → Prop} {F H F' H' : Hp} (ff : Ex F F') (hh : ∀ c u, S c → H c = some u → H' c = some u) (h1 : ∀ c, S c → S' c) (h2 : ∀ c u, ¬ S c → F c = some u → ¬ S' c) : Ex (frzO S F H) (frzO S' F' H') := fun c u q => by
  by_cases h : S c
  · rw [frzO_in h] at q
    rw [frzO_in (h1 c h)]
    exact hh c u h q
  · rw [frzO_out h] at q
    rw [frzO_out (h2 c u h q)]
    exact ff c u q
theorem frzO_ff {S : Addr → Prop} {F H : Hp} (fn : ∀ c, S c → F c = none) : Ex F (frzO S F H) := fun c u q => by
  by_cases h : S c
  · rw [fn c h] at q
    cases q
  · rw [frzO_out h]
    exact q
theorem frzO_fh {S : Addr → Prop} {F H : Hp} (ex : Ex F H) : Ex (frzO S F H) H := fun c u q => by
  by_cases h : S c
  · rw [frzO_in h] at q
    exact q
  · rw [frzO_out h] at q
    exact ex c u q
/-- all but one place -/
def rmF (F : Hp) (a : Addr) : Hp := fun b => if b = a then none else F b
theorem rmF_at {F : Hp} {a : Addr} : rmF F a a = none := if_pos rfl
theorem rmF_ne {F : Hp} {a b : Addr} (h : b ≠ a) : rmF F a b = F b := if_neg h
theorem rmF_ex {F : Hp} {a : Addr} : Ex (rmF F a) F := fun c u q => by
  by_cases h : c = a
  · rw [h, rmF_at] at q
    cases q
  · rw [rmF_ne h] at q
    exact q
section
variable {X : Cx} {m : Mu} {E : XK} {Γ : Gam} {e a b c o f k d ix value : Expr} {P T : Ty} {pos pos' p apos cpos : Pos} {j : Nat} {rest : List Stmt} {D : Ends} {σ : L2.St} {F H : Hp}
/-- o[k], o a locked dict -/
theorem e_dgetF {ky : L2.Key} {r : Addr} (hr : Room j X.A) (hd : EvE X m Γ d (Vl (.ref r))) (hk : EvE X m Γ k (Is X.K (keyD ky))) (hI : ∀ F H, m.I F H → ∃ vs v, Rd H r (.dK vs) ∧ valV vs ky = some v ∧ T.p v F) (hs : NoSl k := by exact fun _ _ => rfl) : EvE X m Γ (.Subscript d k pos) T :=
  EvE.of (pe_dget (hu_of hr) sem sem hs) fun σ F H Q g q => ev_two hd hk g fun v u F1 H1 g1 gg p1 p2 => by
    obtain ⟨vs, x, q1, q2, q3⟩ := hI F1 H1 gg.i
    refine ⟨r, x, p1, ?_, q x F1 H1 g1 gg.i q3⟩
    rw [key_v p2]
    exact .inl ⟨vs, ky, q1, rfl, q2.symm⟩
/-- a target of any kind -/
theorem go_asg {tg : Expr} {Γ' : Gam} {js : List Nat} (h : EvE X m Γ e T) (ht : TgT X m tg T Γ Γ' js) (g : Good m Γ σ F H) (kk : ∀ σ' F' H', Gr m.U F H F' H' → Good m Γ' σ' F' H' → tSemS X rest D σ' H') (hs : swapsWithSole [tg] e pos.line X.env = pure false := by rfl) (hw : swappedStores [tg] e X.env = pure none := by rfl)
    (h1 : (assignEach [tg] X.env).map (·.2) = [assign tg X.env] := by rfl) : tSemS X (.Assign [tg] e pos :: rest) D σ H := fun pins s I =>
  (pss_cons (ps_asg sem semG hs hw h1) semS).run pins s σ H D I (h σ F H g _ fun v F1 H1 g1 i1 p => ht σ F1 H1 v (g.next g1 i1) p _ fun σ' F2 H2 gr gd _ => kk σ' F2 H2 (g1.trans gr.weak) gd)
theorem go_tg {tg : Expr} {v : V} {Γ' : Gam} {js : List Nat} {Q : L2.St → Hp → Prop} (g : Good m Γ σ F H) (p : T.p v F) (h : TgT X m tg T Γ Γ' js) (kk : ∀ σ' F' H', Gr0 F H F' H' → Good m Γ' σ' F' H' → Q σ' H') : tSemG X tg v σ H Q := h σ F H v g p Q fun σ' F' H' g1 g2 _ => kk σ' F' H' g1 g2
/-- an if whose outcome is known -/
theorem go_ifT {body orelse : List Stmt} (h : EvT X m Γ c (Eq true)) (g : Good m Γ σ F H) (k1 : ∀ F' H', Gr m.U F H F' H' → m.I F' H' → tSemS X body { D with nx := tSemS X rest D } σ H') : tSemS X (.If c body orelse pos :: rest) D σ H :=
  go_if h g (fun F' H' g1 i1 _ => k1 F' H' g1 i1) fun _ _ _ _ h => nomatch h
theorem go_ifF {body : List Stmt} (h : EvT X m Γ c (Eq false)) (g : Good m Γ σ F H) (k1 : ∀ F' H', Gr m.U F H F' H' → m.I F' H' → tSemS X rest D σ H') : tSemS X (.If c body [] pos :: rest) D σ H :=
  go_if h g (fun _ _ _ _ h => nomatch h) fun F' H' g1 i1 _ => go_end (k1 F' H' g1 i1)
/-- for x in d, d a fixed dict: it is locked meanwhile -/
theorem go_forD {tg : Expr} {body : List Stmt} {kts : List (L2.Key × Ty)} (hp : PassesOwn (model X.prog X.w) X.A X.env X.xe) (hc : X.calm = true) (i : Nat) {x : Str} (hΓ : Γ[i]? = some (some (DicT kts))) (g : Good m Γ σ F H)
    (kk : ∀ r vs, F r = some (.dK vs) → KvT kts vs F → σ[i]? = some (some (.ref r)) → ∀ od : Obj, ∃ W : Nat → L2.St → Hp → Prop, W 0 σ (upd H r (.frz od (.dK vs))) ∧ ∀ n σ' H', W n σ' H' → σ'[i]? = σ[i]? ∧ H' r = some (.frz od (.dK vs)) ∧
      (n = vs.length → tSemS X rest D σ' (upd H' r (.dK vs))) ∧
      n ≤ vs.length ∧ ∀ ky v, vs[n]? = some (ky, v) → tSemG X tg (kV ky) σ' H' fun σ2 H2 => tSemS X body { nx := W (n + 1), ct := W (n + 1), bk := fun σ H => H r = some (.frz od (.dK vs)) ∧ tSemS X rest D σ (upd H r (.dK vs)), rt := fun v H => H r = some (.frz od (.dK vs)) ∧ D.rt v (upd H r (.dK vs)) } σ2 H2)
    (hN : X.N[i]? = some x := by rfl) (hv : Vis X.env.scope x := by first | exact Or.inl rfl | exact Or.inr (Or.inl rfl) | exact Or.inr (Or.inr rfl)) (hd : (x == ("__debug__" : Str)) = false := by decide) (hcd : (x == ("__classdict__" : Str)) = false := by decide)
    (hs : ∀ y, foldedSetIterable (.Name x pos') X.env y = pure y := by intro _; rfl) : tSemS X (.For tg (.Name x pos') body [] pos :: rest) D σ H := fun pins s I =>
  (pss_cons (ps_lock (ps_for hp hc (pi_keys (pe_var hN hv hd hcd)) semG semS hs)) semS).run pins s σ H D I (by
    obtain ⟨v, e1, r, vs, rfl, h2, h3⟩ := g.h i _ hΓ
    refine ⟨r, .dK vs, g.ex _ _ h2, trivial, fun od => ?_⟩
    obtain ⟨W, w0, wk⟩ := kk r vs h2 h3 e1 od
    refine ⟨.ref r, e1, r, od, rfl, .inl ⟨vs, upd_same, ?_⟩⟩
    refine ⟨fun n left σ' H' => left = vs.length - n ∧ W n σ' H', ⟨vs.length, rfl, w0⟩, ?_⟩
    rintro n left σ' H' ⟨rfl, w⟩
    obtain ⟨e2, hl, stop, hn, go⟩ := wk n σ' H' w
    by_cases h : n < vs.length
    · refine .inr ⟨⟨hl, h⟩, W (n + 1), fun σ2 H2 w2 => ⟨vs.length - (n + 1), by omega, rfl, w2⟩, ?_⟩
      rintro y H2 ⟨rfl, ky, v, hkv, rfl⟩
      exact go ky v hkv
    · exact .inl ⟨⟨hl, by omega⟩, hl, stop (by omega)⟩)
/-- o[k] = [e1, dict(e2), [..]], all new -/
theorem go_dputC {e1 e2 e3 key : Expr} {fa : Addr} {acc : List (L2.Key × V)} {ky : L2.Key} {T1 : Ty} {kts : List (L2.Key × Ty)} {Ps : List Ty} {lpos : Pos} (hr : Room j X.A) (hm : X.mg "dict" = none) (h1 : EvE X m Γ e1 T1) (h2 : EvE X m Γ e2 (DicT kts)) (h3 : EvN X m Γ e3 Ps) (ho : EvE X m Γ o (Vl (.ref fa))) (hk : EvE X m Γ key (Is X.K (keyD ky))) (g : Good m Γ σ F H)
    (hf : ∀ F H, m.I F H → H fa = some (.dK acc)) (hl : acc.length ≤ 1000) (kk : ∀ l k t v1 xs tv F' H', Gr m.U F H F' H' → m.I F' H' → (H l = none ∧ H k = none ∧ H t = none) → (F' l = none ∧ F' k = none ∧ F' t = none) → l ≠ t → H' l = some (.lst [v1, .ref k, .ref t]) → H' k = some (.dK xs) → H' t = some (.lst tv) →
      T1.p v1 F' → KvT kts xs F' → HoldsA Ps tv F' → tSemS X rest D σ (upd H' fa (.dK (putK acc ky (.ref l)))))
    (hg : Gl X "dict" := by rfl) (hs1 : starEach [e1, .Call (.Name "dict" p) [e2] [] cpos, e3] X.env = (false, eval e1 X.env) :: starEach [.Call (.Name "dict" p) [e2] [] cpos, e3] X.env := by rfl) (hs2 : starEach [.Call (.Name "dict" p) [e2] [] cpos, e3] X.env = (false, eval (.Call (.Name "dict" p) [e2] [] cpos) X.env) :: starEach [e3] X.env := by rfl) (hs3 : starEach [e3] X.env = (false, eval e3 X.env) :: starEach [] X.env := by rfl)
    (hse : starEach [e2] X.env = [(false, eval e2 X.env)] := by rfl) (hpl : (backTo cpos (starEach [] X.env)).any (·.1) = false := by rfl)
    (hs : swapsWith (.List [e1, .Call (.Name "dict" p) [e2] [] cpos, e3] lpos) (some (.Subscript o key pos')) pos.line X.env = pure false := by rfl) : tSemS X (.Assign [.Subscript o key pos'] (.List [e1, .Call (.Name "dict" p) [e2] [] cpos, e3] lpos) pos :: rest) D σ H := fun pins s I =>
  (pss_cons (ps_dput (hu_of hr) sem sem (pe_lst (pa_cons sem (pa_cons (pe_callTy call_dictD hg hm (by decide +kernel) semA (by decide) (by decide) hse hpl) (pa_cons sem pa_nil hs3) hs2) hs1)) hs) semS).run pins s σ H D I
    (h1 σ F H g _ fun v1 F1 H1 g1 i1 p1 => (a_cons h2 a_nil hse) σ F1 H1 (g.next g1 i1) _ fun us F2 H2 g2 i2 q2 => by
      obtain ⟨u, rfl, d0, xs, rfl, x1, x2⟩ := one_of q2
      have gA := g1.trans g2
      have gd2 : Good m Γ σ F2 H2 := g.next gA i2
      refine ⟨d0, xs, rfl, .inl (g2.fh _ _ x1), fun kd hkd => ?_⟩
      have gs : Gr0 F2 H2 F2 (upd H2 kd (.dK xs)) := Gr.scratch gd2.ex hkd
      have gd3 : Good m Γ σ F2 (upd H2 kd (.dK xs)) := gd2.nx0 gs
      have gB : Gr m.U F H F2 (upd H2 kd (.dK xs)) := gA.trans gs.weak
      have nUk : ¬ m.U kd := fun z => m.up F2 H2 kd i2 z hkd
      refine h3 σ F2 _ gd3 _ fun t tv F4 H4 g4 i4 ht0 ft4 hlt p4 => ?_
      have gC := gB.trans g4
      have gd4 : Good m Γ σ F4 H4 := g.next gC i4
      have hk4 : H4 kd = some (.dK xs) := g4.hh kd _ nUk upd_same
      have fk4 : F4 kd = none := g4.nw kd (Same.free gd2.ex hkd) (by rw [upd_same]; simp)
      have nUt : ¬ m.U t := fun z => m.up _ _ t gd3.i z ht0
      refine ⟨Nat.le_trans (show 3 ≤ 5 by decide) (by decide), fun l hll => ?_⟩
      have gs4 : Gr0 F4 H4 F4 (upd H4 l (.lst [v1, .ref kd, .ref t])) := Gr.scratch gd4.ex hll
      have nUl : ¬ m.U l := fun z => m.up F4 H4 l i4 z hll
      have gd5 : Good m Γ σ F4 (upd H4 l (.lst [v1, .ref kd, .ref t])) := gd4.nx0 gs4
      refine ho σ F4 _ gd5 _ fun w6 F6 H6 g6 i6 p6 => hk σ F6 H6 (gd5.next g6 i6) _ fun w7 F7 H7 g7 i7 p7 => ?_
      have gE := g6.trans g7
      have nl : l ≠ t := fun z => by
        rw [z, hlt] at hll
        cases hll
      have nlk : l ≠ kd := fun z => by
        rw [z, hk4] at hll
        cases hll
      have ntk : t ≠ kd := fun z => by
        rw [z, upd_same] at ht0
        cases ht0
      have h5l : (upd H4 l (.lst [v1, .ref kd, .ref t])) l = some (.lst [v1, .ref kd, .ref t]) := upd_same
      have h5k : (upd H4 l (.lst [v1, .ref kd, .ref t])) kd = some (.dK xs) := by rw [upd_ne (Ne.symm nlk)]; exact hk4
      have h5t : (upd H4 l (.lst [v1, .ref kd, .ref t])) t = some (.lst tv) := by rw [upd_ne (Ne.symm nl)]; exact hlt
      refine ⟨fa, _, p6, ?_, kk l kd t v1 xs tv F7 H7 (gC.trans (gs4.weak.trans gE)) i7 ⟨gC.dm l hll, gA.dm kd hkd, gB.dm t ht0⟩ ⟨gE.nw l (Same.free gd4.ex hll) (by rw [h5l]; simp), gE.nw kd fk4 (by rw [h5k]; simp), gE.nw t ft4 (by rw [h5t]; simp)⟩ nl (gE.hh l _ nUl h5l) (gE.hh kd _ nUk h5k) (gE.hh t _ nUt h5t) (T1.mono _ _ _ (g2.ff.trans (g4.ff.trans gE.ff)) p1) (x2.mono (g4.ff.trans gE.ff)) (p4.mono gE.ff)⟩
      rw [key_v p7]
      exact DPut.k (hf _ _ i7) (Nat.lt_of_le_of_lt hl (by decide)))
/-- o[k] = v, o a dict that may change -/
theorem go_dputM {fa : Addr} {acc : List (L2.Key × V)} {ky : L2.Key} {Tv : Ty} (hr : Room j X.A) (hv : EvE X m Γ value Tv) (ho : EvE X m Γ o (Vl (.ref fa))) (hi : EvE X m Γ ix (Is X.K (keyD ky))) (g : Good m Γ σ F H) (hf : ∀ F H, m.I F H → H fa = some (.dK acc)) (hl : acc.length ≤ 1000)
    (kk : ∀ v F' H', Gr m.U F H F' H' → m.I F' H' → Tv.p v F' → tSemS X rest D σ (upd H' fa (.dK (putK acc ky v)))) (hs : swapsWith value (some (.Subscript o ix pos')) pos.line X.env = pure false := by rfl) : tSemS X (.Assign [.Subscript o ix pos'] value pos :: rest) D σ H := fun pins s I =>
  (pss_cons (ps_dput (hu_of hr) sem sem sem hs) semS).run pins s σ H D I (hv σ F H g _ fun v F1 H1 g1 i1 p1 => ho σ F1 H1 (g.next g1 i1) _ fun u F2 H2 g2 i2 p2 => hi σ F2 H2 ((g.next g1 i1).next g2 i2) _ fun w3 F3 H3 g3 i3 p3 => by
    refine ⟨fa, _, p2, ?_, kk v F3 H3 ((g1.trans g2).trans g3) i3 (Tv.mono _ _ _ (g2.ff.trans g3.ff) p1)⟩
    rw [key_v p3]
    exact DPut.k (hf _ _ i3) (Nat.lt_of_le_of_lt hl (by decide)))
/-- x = {} -/
theorem go_newE (n : Nat) {y : Str} {dp : Pos} (g : Good m Γ σ F H) (kk : ∀ q, H q = none → Good m (Γ.set n (some (Vl (.ref q)))) (σ.set n (some (.ref q))) F (upd H q (.dK [])) → tSemS X rest D (σ.set n (some (.ref q))) (upd H q (.dK []))) (hN : X.N.Nodup) (hi : X.N[n]? = some y := by rfl) (hx : Loc X.env.scope y := by first | exact Or.inl rfl | exact Or.inr rfl)
    (hs : swapsWith (.Dict [] [] dp) (some (.Name y pos')) pos.line X.env = pure false := by rfl) (hf : X.fn y = true ∨ X.env.scope.names.lookup y = some .local := by first | exact .inl rfl | exact .inr rfl) : tSemS X (.Assign [.Name y pos'] (.Dict [] [] dp) pos :: rest) D σ H := fun pins s I =>
  (pss_cons (ps_set hN hi hx pe_dnewK hs hf) semS).run pins s σ H D I fun q hq => by
    have gs : Gr0 F H F (upd H q (.dK [])) := Gr.scratch g.ex hq
    exact kk q hq ⟨gs.fh, m.st _ _ _ _ gs g.i, g.h.set (by
      rw [I.len]
      exact (List.getElem?_eq_some_iff.mp hi).1) rfl⟩
end
end R60

set_option Elab.async false
set_option pp.maxSteps 400
set_option linter.all false
set_option maxRecDepth 100000
set_option maxHeartbeats 4000000
namespace R60
open PySem PySem.Spec PyProof.Rows L2
/-! a book of the law's own, not yet fixed -/
theorem KvT.get {κ : Type} {F : Hp} : ∀ {kts : List (κ × Ty)} {vs : List (κ × V)} {i : Nat} {k : κ} {v : V}, KvT kts vs F → vs[i]? = some (k, v) → ∃ T, kts[i]? = some (k, T) ∧ T.p v F
  | [], [], i, k, v, _, e => by simp at e
  | (k0, T0) :: r, (k', v0) :: r', 0, k, v, h, e => by
    simp at e
    obtain ⟨rfl, rfl⟩ := e
    exact ⟨T0, by rw [h.1] <;> rfl, h.2.1⟩
  | (k0, T0) :: r, (k', v0) :: r', i + 1, k, v, h, e => by
    obtain ⟨T, e1, p⟩ := KvT.get h.2.2 (i := i) (k := k) (v := v) (by simpa using e)
    exact ⟨T, by simpa using e1, p⟩
theorem atK_snoc {α : Type} {b : List (Str × α)} {n n' : Str} {p : α} (h : atK b n = none) : atK (b ++ [(n, p)]) n' = if n' = n then some p else atK b n' := by
  unfold atK at h ⊢
  rw [List.find?_append]
  by_cases e : n' = n
  · subst e
    rw [if_pos rfl]
    cases hb : b.find? fun q => decide (q.1 = n') with
    | none => simp
    | some q => rw [hb] at h; cases h
  · rw [if_neg e]
    cases hb : b.find? fun q => decide (q.1 = n') with
    | none => simp [show ¬ n = n' from fun z => e z.symm]
    | some q => rfl
theorem val_snoc {vs : List (L2.Key × V)} {k k' : L2.Key} {v : V} (h : valV vs k = none) : valV (vs ++ [(k, v)]) k' = if k' = k then some v else valV vs k' := by
  induction vs with
  | nil =>
    by_cases e : k' = k
    · subst e
      rw [if_pos rfl]
      exact valV_pos rfl
    · rw [if_neg e]
      exact valV_neg fun z => e z.symm
  | cons q r ih =>
    by_cases hq : q.1 = k
    · rw [valV_pos hq] at h
      cases h
    · rw [valV_neg hq] at h
      by_cases e : q.1 = k'
      · rw [List.cons_append, valV_pos e, if_neg (fun z => hq (e.trans z)), valV_pos e]
      · rw [List.cons_append, valV_neg e, ih h, valV_neg e]
def isLD : HO → Prop
  | .lst _ => True
  | .dK _ => True
  | _ => False
section
variable {K : PySem.W.Frag} {b : Bk} {a : Addr} {O : Addr → Prop} {F H F' H' : Hp} {vs : List (L2.Key × V)}
/-- the place of one name: its list, its paces, its tracks; all others are kept elsewhere -/
def EntO (K : PySem.W.Frag) (b : Bk) (a : Addr) (O : Addr → Prop) (F H : Hp) (vs : List (L2.Key × V)) (n : Str) (p : Tp) : Prop := ∃ l k t tv, valV vs (.inr n) = some (.ref l) ∧ (O l ∧ O k ∧ O t) ∧ (a ≠ l ∧ a ≠ k ∧ a ≠ t ∧ l ≠ k ∧ l ≠ t ∧ k ≠ t) ∧ H l = some (.lst [.int p.b, .ref k, .ref t]) ∧ H k = some (.dK (p.ps.map pI)) ∧ H t = some (.lst tv) ∧ HoldsA (p.ts.map fun t => Is K (trD t)) tv F ∧
  ∀ n' p' v', n' ≠ n → atK b n' = some p' → valV vs (.inr n') = some v' → (LtT K p').p v' (frzO (fun c => O c ∧ c ≠ a ∧ c ≠ l ∧ c ≠ k ∧ c ≠ t) F H)
structure OwnV (K : PySem.W.Frag) (b : Bk) (a : Addr) (O : Addr → Prop) (F H : Hp) (vs : List (L2.Key × V)) : Prop where
  o : ∀ c, O c → F c = none ∧ ∃ u, H c = some u ∧ isLD u
  oa : O a
  ha : H a = some (.dK vs)
  kv : KvT (tk b (LtT K)) vs (frzO (fun c => O c ∧ c ≠ a) F H)
  en : ∀ n p, atK b n = some p → EntO K b a O F H vs n p
def OwnB (K : PySem.W.Frag) (b : Bk) (a : Addr) (O : Addr → Prop) (F H : Hp) : Prop := ∃ vs, OwnV K b a O F H vs
theorem EntO.next {n : Str} {p : Tp} (h : EntO K b a O F H vs n p) (ff : Ex F F') (hh : ∀ c u, O c → H c = some u → H' c = some u) (fn : ∀ c, O c → F' c = none) : EntO K b a O F' H' vs n p := by
  obtain ⟨l, k, t, tv, e1, ⟨o1, o2, o3⟩, ne, h1, h2, h3, h4, h5⟩ := h
  refine ⟨l, k, t, tv, e1, ⟨o1, o2, o3⟩, ne, hh _ _ o1 h1, hh _ _ o2 h2, hh _ _ o3 h3, h4.mono ff, fun n' p' v' q1 q2 q3 => (LtT K p').mono _ _ _ ?_ (h5 n' p' v' q1 q2 q3)⟩
  refine frzO_ex ff (fun c u q => hh c u q.1) (fun c q => q) fun c u _ q1 q2 => ?_
  have := fn c q2.1
  rw [ff c u q1] at this
  cases this
theorem OwnV.next (h : OwnV K b a O F H vs) (ff : Ex F F') (hh : ∀ c u, O c → H c = some u → H' c = some u) (fn : ∀ c, O c → F' c = none) : OwnV K b a O F' H' vs := by
  refine ⟨fun c hc => ⟨fn c hc, ?_⟩, h.oa, hh _ _ h.oa h.ha, h.kv.mono ?_, fun n p e => (h.en n p e).next ff hh fn⟩
  · obtain ⟨_, u, e, q⟩ := h.o c hc
    exact ⟨u, hh c u hc e, q⟩
  · refine frzO_ex ff (fun c u q => hh c u q.1) (fun c q => q) fun c u _ q1 q2 => ?_
    have := fn c q2.1
    rw [ff c u q1] at this
    cases this
theorem OwnB.next (h : OwnB K b a O F H) (ff : Ex F F') (hh : ∀ c u, O c → H c = some u → H' c = some u) (fn : ∀ c, O c → F' c = none) : OwnB K b a O F' H' := by
  obtain ⟨vs, h⟩ := h
  exact ⟨vs, h.next ff hh fn⟩
/-- it may be taken for a fixed one -/
theorem OwnV.frz (h : OwnV K b a O F H vs) : (LbT K b).p (.ref a) (frzO O F H) := by
  refine ⟨a, vs, rfl, by rw [frzO_in h.oa]; exact h.ha, h.kv.mono ?_⟩
  refine frzO_ex (Same.refl F) (fun c u _ q => q) (fun c q => q.1) fun c u q1 q2 q3 => ?_
  rw [(h.o c q3).1] at q2
  cases q2
/-- one more -/
theorem OwnV.snoc {n : Str} {p : Tp} {l k t : Addr} {tv : List V} (h : OwnV K b a O F H vs) (hn : atK b n = none) (hv : valV vs (.inr n) = none) (fn : F l = none ∧ F k = none ∧ F t = none) (nO : ¬ O l ∧ ¬ O k ∧ ¬ O t) (nl : l ≠ t) (h1 : H l = some (.lst [.int p.b, .ref k, .ref t])) (h2 : H k = some (.dK (p.ps.map pI))) (h3 : H t = some (.lst tv))
    (h4 : HoldsA (p.ts.map fun t => Is K (trD t)) tv F) : OwnV K (b ++ [(n, p)]) a (fun c => O c ∨ c = l ∨ c = k ∨ c = t) F (upd H a (.dK (vs ++ [(.inr n, .ref l)]))) (vs ++ [(.inr n, .ref l)]) := by
  have al : l ≠ a := fun z => nO.1 (by rw [z]; exact h.oa)
  have ak : k ≠ a := fun z => nO.2.1 (by rw [z]; exact h.oa)
  have at_ : t ≠ a := fun z => nO.2.2 (by rw [z]; exact h.oa)
  have lk : l ≠ k := fun z => by
    rw [z, h2] at h1
    cases h1
  have kt : k ≠ t := fun z => by
    rw [← z, h2] at h3
    cases h3
  have u1 : ∀ {x : HO}, upd H a x l = some (.lst [.int p.b, .ref k, .ref t]) := fun {x} => by rw [upd_ne al]; exact h1
  have u2 : ∀ {x : HO}, upd H a x k = some (.dK (p.ps.map pI)) := fun {x} => by rw [upd_ne ak]; exact h2
  have u3 : ∀ {x : HO}, upd H a x t = some (.lst tv) := fun {x} => by rw [upd_ne at_]; exact h3
  have fO : ∀ c u, F c = some u → ¬ (O c ∨ c = l ∨ c = k ∨ c = t) := fun c u q z => by
    rcases z with z | rfl | rfl | rfl
    · rw [(h.o c z).1] at q; cases q
    · rw [fn.1] at q; cases q
    · rw [fn.2.1] at q; cases q
    · rw [fn.2.2] at q; cases q
  have new : ∀ {S : Addr → Prop} {x : HO}, S l → S k → S t → (∀ c, S c → c = l ∨ c = k ∨ c = t ∨ O c) → (LtT K p).p (.ref l) (frzO S F (upd H a x)) := fun {S x} s1 s2 s3 sS => by
    have ex : Ex F (frzO S F (upd H a x)) := frzO_ff fun c q => by
      rcases sS c q with rfl | rfl | rfl | q
      · exact fn.1
      · exact fn.2.1
      · exact fn.2.2
      · exact (h.o c q).1
    refine ⟨l, [.int p.b, .ref k, .ref t], rfl, by rw [frzO_in s1]; exact u1, .int .nil, ⟨k, _, rfl, by rw [frzO_in s2]; exact u2, kn_self _⟩, .lst (by rw [frzO_in s3]; exact u3) ?_ .nil, trivial⟩
    refine das_of ?_
    rw [List.map_map]
    exact h4.mono ex
  refine ⟨fun c hc => ?_, .inl h.oa, upd_same, ?_, fun n' p' e => ?_⟩
  · rcases hc with hc | rfl | rfl | rfl
    · obtain ⟨q1, u, q2, q3⟩ := h.o c hc
      refine ⟨q1, ?_⟩
      by_cases z : c = a
      · rw [z]
        exact ⟨_, upd_same, trivial⟩
      · exact ⟨u, by rw [upd_ne z]; exact q2, q3⟩
    · exact ⟨fn.1, _, u1, trivial⟩
    · exact ⟨fn.2.1, _, u2, trivial⟩
    · exact ⟨fn.2.2, _, u3, trivial⟩
  · unfold tk
    rw [List.map_append]
    refine KvT.app (h.kv.mono ?_) ⟨rfl, new ⟨.inr (.inl rfl), al⟩ ⟨.inr (.inr (.inl rfl)), ak⟩ ⟨.inr (.inr (.inr rfl)), at_⟩ fun c q => ?_, trivial⟩
    · refine frzO_ex (Same.refl F) (fun c u q e => by rw [upd_ne q.2]; exact e) (fun c q => ⟨.inl q.1, q.2⟩) fun c u _ q1 q2 => fO c u q1 q2.1
    · rcases q.1 with z | z | z | z
      · exact .inr (.inr (.inr z))
      · exact .inl z
      · exact .inr (.inl z)
      · exact .inr (.inr (.inl z))
  · rw [atK_snoc hn] at e
    by_cases hne : n' = n
    · rw [if_pos hne] at e
      cases e
      subst hne
      refine ⟨l, k, t, tv, by rw [val_snoc hv, if_pos rfl], ⟨.inr (.inl rfl), .inr (.inr (.inl rfl)), .inr (.inr (.inr rfl))⟩, ⟨Ne.symm al, Ne.symm ak, Ne.symm at_, lk, nl, kt⟩, u1, u2, u3, h4, fun n2 p2 v2 q1 q2 q3 => ?_⟩
      rw [atK_snoc hn, if_neg q1] at q2
      rw [val_snoc hv, if_neg (fun z => q1 (Sum.inr.inj z))] at q3
      obtain ⟨w, e1, e2⟩ := h.kv.has (k := .inr n2) (T := LtT K p2) (by unfold tk; rw [atK_map, q2] <;> rfl)
      rw [q3] at e1
      cases e1
      refine (LtT K p2).mono _ _ _ ?_ e2
      refine frzO_ex (Same.refl F) (fun c u q e => by rw [upd_ne q.2]; exact e) (fun c q => ⟨.inl q.1, q.2, fun z => nO.1 (by rw [← z]; exact q.1), fun z => nO.2.1 (by rw [← z]; exact q.1), fun z => nO.2.2 (by rw [← z]; exact q.1)⟩) fun c u _ q1 q2 => fO c u q1 q2.1
    · rw [if_neg hne] at e
      obtain ⟨l', k', t', tv', e1, ⟨o1, o2, o3⟩, ne, g1, g2, g3, g4, g5⟩ := h.en n' p' e
      have hl : ∀ {c : Addr}, O c → c ≠ l ∧ c ≠ k ∧ c ≠ t := fun {c} q => ⟨fun z => nO.1 (by rw [← z]; exact q), fun z => nO.2.1 (by rw [← z]; exact q), fun z => nO.2.2 (by rw [← z]; exact q)⟩
      refine ⟨l', k', t', tv', by rw [val_snoc hv, if_neg (fun z => hne (Sum.inr.inj z))]; exact e1, ⟨.inl o1, .inl o2, .inl o3⟩, ne, by rw [upd_ne (Ne.symm ne.1)]; exact g1, by rw [upd_ne (Ne.symm ne.2.1)]; exact g2, by rw [upd_ne (Ne.symm ne.2.2.1)]; exact g3, g4, fun n2 p2 v2 q1 q2 q3 => ?_⟩
      by_cases hn2 : n2 = n
      · rw [atK_snoc hn, if_pos hn2] at q2
        cases q2
        rw [val_snoc hv, if_pos (by rw [hn2])] at q3
        cases q3
        refine new ⟨.inr (.inl rfl), al, (hl o1).1.symm, (hl o2).1.symm, (hl o3).1.symm⟩ ⟨.inr (.inr (.inl rfl)), ak, (hl o1).2.1.symm, (hl o2).2.1.symm, (hl o3).2.1.symm⟩ ⟨.inr (.inr (.inr rfl)), at_, (hl o1).2.2.symm, (hl o2).2.2.symm, (hl o3).2.2.symm⟩ fun c q => ?_
        rcases q.1 with z | z | z | z
        · exact .inr (.inr (.inr z))
        · exact .inl z
        · exact .inr (.inl z)
        · exact .inr (.inr (.inl z))
      · rw [atK_snoc hn, if_neg hn2] at q2
        rw [val_snoc hv, if_neg (fun z => hn2 (Sum.inr.inj z))] at q3
        refine (LtT K p2).mono _ _ _ ?_ (g5 n2 p2 v2 q1 q2 q3)
        refine frzO_ex (Same.refl F) (fun c u q e => by rw [upd_ne q.2.1]; exact e) (fun c q => ⟨.inl q.1, q.2⟩) fun c u _ q1 q2 => fO c u q1 q2.1
/-- an empty one -/
theorem OwnV.nil (ha : H a = some (.dK [])) (fa : F a = none) : OwnV K [] a (fun c => c = a) F H [] := by
  refine ⟨fun c hc => ?_, rfl, ha, trivial, fun n p e => nomatch e⟩
  rw [show c = a from hc]
  exact ⟨fa, _, ha, trivial⟩
/-! one tape looked at while another thing is taken out -/
theorem das_rm {r : Addr} {ds : List R60.D} {us : List V} {rs : List (L2.Key × V)} (hr : F r = some (.dK rs)) (h : DAs K F ds us) : DAs K (rmF F r) ds us := by
  have ne : ∀ {c : Addr} {u : HO}, F c = some u → (∀ q, u ≠ .dK q) → rmF F r c = some u := fun {c u} e hu => by
    rw [rmF_ne fun z => by
      rw [z, hr] at e
      exact hu rs (Option.some.inj e).symm]
    exact e
  induction h with
  | nil => exact .nil
  | non _ ih => exact .non ih
  | bl _ ih => exact .bl ih
  | int _ ih => exact .int ih
  | str _ ih => exact .str ih
  | lst h _ _ i1 i2 => exact .lst (ne h fun q z => nomatch z) i1 i2
  | tup h _ _ i1 i2 =>
    refine .tup ?_ i1 i2
    rcases h with (h | ⟨o, h⟩) | h
    · exact .inl (.inl (ne h fun q z => nomatch z))
    · exact .inl (.inr ⟨o, ne h fun q z => nomatch z⟩)
    · exact .inr h
theorem kn_rm {r : Addr} {rs : List (L2.Key × V)} (hr : F r = some (.dK rs)) (h0 : ∃ n v, (Sum.inr n, v) ∈ rs) {ps : List (Int × Int)} {u : V} (h : (KnT K ps).p u F) : (KnT K ps).p u (rmF F r) := by
  obtain ⟨c, xs, rfl, h1, h2⟩ := h
  obtain rfl := kn_vs h2
  refine ⟨c, _, rfl, ?_, kn_self _⟩
  rw [rmF_ne fun z => ?_]
  · exact h1
  · rw [z, hr] at h1
    cases h1
    obtain ⟨n, v, hm⟩ := h0
    obtain ⟨q, _, e⟩ := List.mem_map.mp hm
    cases e
theorem lt_rm {r : Addr} {rs : List (L2.Key × V)} (hr : F r = some (.dK rs)) (h0 : ∃ n v, (Sum.inr n, v) ∈ rs) {p : Tp} {u : V} (h : (LtT K p).p u F) : (LtT K p).p u (rmF F r) := by
  obtain ⟨c, xs, rfl, h1, h2⟩ := h
  match xs, h2 with
  | [v1, v2, v3], ⟨p1, p2, p3, _⟩ =>
    refine ⟨c, [v1, v2, v3], rfl, ?_, das_rm hr p1, kn_rm hr h0 p2, das_rm hr p3, trivial⟩
    rw [rmF_ne fun z => ?_]
    · exact h1
    · rw [z, hr] at h1
      cases h1
end
/-! book_copy -/
def mBC (F0 : Hp) (r : Addr) (od : Obj) (vs : List (L2.Key × V)) (fa : Addr) (acc : List (L2.Key × V)) : Mu where
  U b := b = r ∨ b = fa
  I F H := ((H r = some (.frz od (.dK vs)) ∧ H fa = some (.dK acc)) ∧ F r = none ∧ F fa = none) ∧ Ex F0 F
  st := fun F H F' H' g ⟨⟨⟨h1, h2⟩, h3, h4⟩, h5⟩ => ⟨⟨⟨g.same _ _ h1, g.same _ _ h2⟩, g.nw _ h3 (by rw [h1]; simp), g.nw _ h4 (by rw [h2]; simp)⟩, h5.trans g.ff⟩
  up := fun F H b ⟨⟨⟨h1, h2⟩, _⟩, _⟩ hb => by
    rcases hb with rfl | rfl
    · rw [h1]; simp
    · rw [h2]; simp
  loc := fun F H H' q ⟨⟨⟨h1, h2⟩, h3, h4⟩, h5⟩ => ⟨⟨⟨(q _ (.inl rfl)).trans h1, (q _ (.inr rfl)).trans h2⟩, h3, h4⟩, h5⟩
  add := fun F H p o hp f0 ⟨⟨h1, h3, h4⟩, h5⟩ => ⟨⟨h1, by rw [upd_ne (fun z => hp (.inl z.symm))]; exact h3, by rw [upd_ne (fun z => hp (.inr z.symm))]; exact h4⟩, h5.trans fun b u z => by rw [upd_ne (ne_of_none z f0)]; exact z⟩
theorem ex_upd {F H : Hp} {c : Addr} {o : HO} (fh : Ex F H) (fc : F c = none) : Ex F (upd H c o) := fun b u q => by
  rw [upd_ne (ne_of_none q fc)]
  exact fh _ _ q
theorem tk_get {b : Bk} {i : Nat} {k : L2.Key} {S : Ty} {T : Tp → Ty} (h : (tk b T)[i]? = some (k, S)) : ∃ n p, b[i]? = some (n, p) ∧ k = .inr n ∧ S = T p := by
  unfold tk at h
  rw [List.getElem?_map] at h
  cases hb : b[i]? with
  | none => rw [hb] at h; cases h
  | some q =>
    rw [hb] at h
    cases h
    exact ⟨q.1, q.2, rfl, rfl, rfl⟩
theorem atK_none {α : Type} {b : List (Str × α)} {n : Str} (h : ∀ q ∈ b, q.1 ≠ n) : atK b n = none := by
  induction b with
  | nil => rfl
  | cons q r ih =>
    have h1 := h q List.mem_cons_self
    have := ih fun q hq => h q (List.mem_cons_of_mem _ hq)
    unfold atK at this ⊢
    simpa [h1] using this
theorem atK_nodup {α : Type} {b : List (Str × α)} {n : Str} {p : α} (hd : (b.map (·.1)).Nodup) (h : (n, p) ∈ b) : atK b n = some p := by
  induction b with
  | nil => exact nomatch h
  | cons q r ih =>
    rw [List.map_cons] at hd
    obtain ⟨h1, h2⟩ := List.nodup_cons.mp hd
    rcases List.mem_cons.mp h with rfl | h
    · unfold atK
      simp
    · have hne : ¬ q.1 = n := fun e => h1 (by rw [e]; exact List.mem_map_of_mem (f := fun x : Str × α => x.1) h)
      have := ih h2 h
      unfold atK at this ⊢
      simpa [hne] using this
theorem val_nodup {vs : List (L2.Key × V)} {k : L2.Key} {v : V} (hd : (vs.map (·.1)).Nodup) (h : (k, v) ∈ vs) : valV vs k = some v := by
  induction vs with
  | nil => exact nomatch h
  | cons q r ih =>
    rw [List.map_cons] at hd
    obtain ⟨h1, h2⟩ := List.nodup_cons.mp hd
    rcases List.mem_cons.mp h with rfl | h
    · exact valV_pos rfl
    · rw [valV_neg fun e => h1 (by rw [e]; exact List.mem_map_of_mem (f := fun x : L2.Key × V => x.1) h)]
      exact ih h2 h
theorem mem_val {vs : List (L2.Key × V)} {q : L2.Key × V} (h : q ∈ vs) : valV vs q.1 ≠ none := by
  induction vs with
  | nil => exact nomatch h
  | cons x r ih =>
    by_cases e : x.1 = q.1
    · rw [valV_pos e]
      simp
    · rw [valV_neg e]
      rcases List.mem_cons.mp h with rfl | h
      · exact absurd rfl e
      · exact ih h
theorem keys_nodup {b : Bk} {T : Tp → Ty} {F : Hp} {vs : List (L2.Key × V)} (hd : (b.map (·.1)).Nodup) (h : KvT (tk b T) vs F) : (vs.map (·.1)).Nodup := by
  rw [h.keys]
  unfold tk
  rw [List.map_map]
  have : (b.map (·.1)).map (Sum.inr : Str → L2.Key) = b.map ((fun x : L2.Key × Ty => x.1) ∘ fun p => ((Sum.inr p.1 : L2.Key), T p.2)) := by rw [List.map_map] <;> rfl
  rw [← this]
  exact hd.map _ fun a b hab e => hab (Sum.inr.inj e)
section
variable {w : World} {K : PySem.W.Frag} {mg : Str → Option Value} {base : Heap} {MC TC DC : Addr}
def p_book_copy (K : PySem.W.Frag) : Sp := fun vs H Q _ => ∃ (b : Bk) (F : Hp) (v : V), vs = [v] ∧ Ex F H ∧ (LbT K b).p v F ∧ BkOk b ∧ (b.map (·.1)).Nodup ∧ b.length ≤ 100 ∧
  ∀ fa O F' H', Gr0 F H F' H' → (∀ c, O c → H c = none) → OwnB K b fa O F' H' → Q (.ref fa) H'
abbrev NBC : List Str := ["_law_book", "_law_found", "_law_name", "_law_beat_here", "_law_known", "_law_tracks", "_law_track"]
theorem fl_book_copy (T : Txt w K mg MC TC DC) : CalX PG w K mg base 1 "_law_book_copy" (p_book_copy K) := by
  refine cal_of T.d_Lbook_copy sc_Lbook_copy bd_Lbook_copy (fun vs H Q E ⟨b, F, v, h, _⟩ => by rw [h] <;> rfl) ?_
  intro f cdv A outer s H us Q E hr h
  obtain ⟨b, F, v, rfl, ex, pv, hb, hd, hlen, q⟩ := h
  refine ⟨_, semS, ?_⟩
  have gd : Good m0 [some (LbT K b), none, none, none, none, none, none] [some v, none, none, none, none, none, none] F H := ⟨ex, trivial, HoldsA.holds (Ts := [LbT K b]) (vs := [v]) (k := 6) ⟨pv, trivial⟩⟩
  refine go_newE 1 gd (fun fa hfa gd1 => ?_) sc_Lbook_copy.nd
  have ffa : F fa = none := Same.free ex hfa
  refine go_forD (kts := tk b (LtT K)) (passes_of rfl) rfl 0 rfl gd1 fun r vs hr0 hkv hs0 od => ?_
  have nfa : fa ≠ r := fun z => by
    rw [z] at ffa
    rw [ffa] at hr0
    cases hr0
  have hlv : vs.length = b.length := by rw [hkv.len]; unfold tk; rw [List.length_map]
  have hrH : H r = some (.dK vs) := ex _ _ hr0
  refine ⟨fun i σ' H' => ∃ F' acc O, σ'[0]? = some (some (.ref r)) ∧ σ'[1]? = some (some (.ref fa)) ∧ Ex F' H' ∧ (mBC (rmF F r) r od vs fa acc).I F' H' ∧ i ≤ vs.length ∧ (∀ c, O c → H c = none) ∧ (∀ c u, H c = some u → c ≠ r → H' c = some u) ∧ (∀ c, H' c = none → H c = none) ∧ (∀ c, F c = none → H c ≠ none → F' c = none) ∧ OwnV K (b.take i) fa O F' H' acc, ?_, ?_⟩
  · have hs1 : ([some v, none, none, none, none, none, none].set 1 (some (V.ref fa)))[0]? = some (some (.ref r)) := hs0
    refine ⟨rmF F r, [], fun c => c = fa, hs1, rfl, ?_, ⟨⟨⟨upd_same, ?_⟩, rmF_at, ?_⟩, Same.refl _⟩, Nat.zero_le _, ?_, ?_, ?_, ?_, ?_⟩
    · exact ex_upd (ex_upd (rmF_ex.trans ex) (by rw [rmF_ne nfa]; exact ffa)) rmF_at
    · rw [upd_ne nfa, upd_same]
    · rw [rmF_ne nfa]; exact ffa
    · exact fun c hc => by rw [show c = fa from hc]; exact hfa
    · exact fun c u e n => by rw [upd_ne n, upd_ne (ne_of_none e hfa)]; exact e
    · intro c e
      by_cases h1 : c = r
      · rw [h1, upd_same] at e; cases e
      · rw [upd_ne h1] at e
        by_cases h2 : c = fa
        · rw [h2]; exact hfa
        · rw [upd_ne h2] at e; exact e
    · intro c e _
      by_cases h1 : c = r
      · rw [h1, rmF_at]
      · rw [rmF_ne h1]; exact e
    · exact OwnV.nil (by rw [upd_ne nfa, upd_same]) (by rw [rmF_ne nfa]; exact ffa)
  · rintro i σ' H' ⟨F', acc, O, e0, e1, fH, ⟨⟨⟨i1, i2⟩, i3, i4⟩, i5⟩, hi, hO, kp, dm, nw, own⟩
    refine ⟨by rw [e0, hs0], i1, fun hn => ?_, hi, fun ky u hku => ?_⟩
    · -- the end
      have nOr : ¬ O r := fun z => by
        have := hO r z
        rw [hrH] at this
        cases this
      have fr : Ex F' (upd F' r (.dK vs)) := fun c u e => by rw [upd_ne (ne_of_none e i3)]; exact e
      have gE : Gr0 F H (upd F' r (.dK vs)) (upd H' r (.dK vs)) := by
        refine ⟨fun c u e => ?_, fun c u e => ?_, fun c u _ e => ?_, fun c e => ?_, fun c e n => ?_⟩
        · by_cases h1 : c = r
          · rw [h1, hr0] at e
            rw [h1, upd_same]
            exact e
          · rw [upd_ne h1]
            exact i5 c u (by rw [rmF_ne h1]; exact e)
        · by_cases h1 : c = r
          · rw [h1, upd_same] at e
            rw [h1, upd_same]
            exact e
          · rw [upd_ne h1] at e
            rw [upd_ne h1]
            exact fH c u e
        · by_cases h1 : c = r
          · rw [h1, hrH] at e
            rw [h1, upd_same]
            exact e
          · rw [upd_ne h1]
            exact kp c u e h1
        · by_cases h1 : c = r
          · rw [h1, upd_same] at e; cases e
          · rw [upd_ne h1] at e
            exact dm c e
        · have h1 : c ≠ r := fun z => by
            rw [z, hr0] at e
            cases e
          rw [upd_ne h1]
          exact nw c e n
      have own2 : OwnB K b fa O (upd F' r (.dK vs)) (upd H' r (.dK vs)) := by
        have : b.take i = b := List.take_of_length_le (by omega)
        rw [this] at own
        exact ⟨acc, own.next fr (fun c u hc e => by rw [upd_ne (fun z => nOr (by rw [← z]; exact hc))]; exact e) fun c hc => by rw [upd_ne (fun z => nOr (by rw [← z]; exact hc))]; exact (own.o c hc).1⟩
      have g7 : Good m0 [some (Vl (.ref r)), some (Vl (.ref fa)), none, none, none, none, none] σ' (upd F' r (.dK vs)) (upd H' r (.dK vs)) := ⟨gE.fh, trivial, fun j S hj => by
        match j, hj with
        | 0, hj => cases hj; exact ⟨_, e0, rfl⟩
        | 1, hj => cases hj; exact ⟨_, e1, rfl⟩
        | 2, hj => cases hj
        | 3, hj => cases hj
        | 4, hj => cases hj
        | 5, hj => cases hj
        | 6, hj => cases hj
        | j + 7, hj => simp at hj⟩
      refine go_ret (P := Vl (.ref fa)) (e_var 1 rfl) g7 fun x F9 H9 g9 _ p9 => ?_
      rw [show x = .ref fa from p9]
      have ff := own2
      exact q fa O F9 H9 (gE.trans g9) hO (own2.next g9.ff (fun c u _ e => g9.same _ _ e) fun c hc => g9.nw c (by
        obtain ⟨xs, ow⟩ := own2
        exact (ow.o c hc).1) (by
        obtain ⟨xs, ow⟩ := own2
        obtain ⟨_, u, e, _⟩ := ow.o c hc
        rw [e]; simp))
    · -- a turn
      obtain ⟨S, hS, pu⟩ := hkv.get hku
      obtain ⟨n, p, hbi, rfl, rfl⟩ := tk_get hS
      have hmem : (n, p) ∈ b := List.mem_of_getElem? hbi
      have hpo : TpOk p := hb _ hmem
      have pu' : (LtT K p).p u (rmF F r) := lt_rm hr0 ⟨n, u, List.mem_of_getElem? hku⟩ pu
      have hval : valV vs (.inr n) = some u := val_nodup (keys_nodup hd hkv) (List.mem_of_getElem? hku)
      have gd2 : Good (mBC (rmF F r) r od vs fa acc) [some (Vl (.ref r)), some (Vl (.ref fa)), none, none, none, none, none] σ' F' H' := ⟨fH, ⟨⟨⟨i1, i2⟩, i3, i4⟩, i5⟩, fun j S hj => by
        match j, hj with
        | 0, hj => cases hj; exact ⟨_, e0, rfl⟩
        | 1, hj => cases hj; exact ⟨_, e1, rfl⟩
        | 2, hj => cases hj
        | 3, hj => cases hj
        | 4, hj => cases hj
        | 5, hj => cases hj
        | 6, hj => cases hj
        | j + 7, hj => simp at hj⟩
      refine go_tg (T := Is K (.str n)) gd2 (.str .nil) (tg_name 2 sc_Lbook_copy.nd) fun σ3 F3 H3 g3 gd3 => ?_
      refine go_asg (m := mBC (rmF F r) r od vs fa acc) (T := LtT K p) (e_dgetF (r := r) (ky := .inr n) hr (e_var 0 rfl) (e_var 2 rfl) fun F H q => ⟨vs, u, .inr ⟨od, q.1.1.1⟩, hval, (LtT K p).mono _ _ _ q.2 pu'⟩) (tg_lst (Ts := [Is K (.int p.b), KnT K p.ps, Is K (trsD p.ts)]) rfl (tg_cons (tg_name 3 sc_Lbook_copy.nd) (tg_cons (tg_name 4 sc_Lbook_copy.nd) (tg_cons (tg_name 5 sc_Lbook_copy.nd) tg_nil))) fun v F p => p) gd3 fun σ4 F4 H4 g4 gd4 => ?_
      have n1 := hpo.n
      refine go_dputC (m := mBC (rmF F r) r od vs fa acc) (fa := fa) (acc := acc) (ky := .inr n) hr T.n_dict (e_var 3 rfl) (e_var 4 rfl) (n_lcAll (xs := p.ts) (fun t => [some (Vl (.ref r)), some (Vl (.ref fa)), some (Is K (.str n)), some (Is K (.int p.b)), some (KnT K p.ps), some (Is K (trsD p.ts)), some (Is K (trD t))]) [6] (fun t => Is K (trD t)) rfl sc_Lbook_copy.nd (i_list (e_ls (xs := p.ts) (f := trD) (e_var 5 rfl))) (by omega)
        (blkOk_by (own := [("_law_track", 6)]) (N := NBC) (sc := defScope s_Lbook_copy) (by decide +kernel)) (fun i x hx _ _ _ _ _ => tgY hx (tg_name 6 sc_Lbook_copy.nd)) (fun t ht _ _ _ _ _ => e_list T.n_list (e_var 6 rfl))) (e_var 1 rfl) (e_var 2 rfl) gd4 (fun F H q => q.1.1.2) ?_ fun l k t v1 xs tv F5 H5 g5 i5 ⟨hl, hk, ht⟩ ⟨fl, fk, ft⟩ nlt h1 h2 h3 p1 p2 p3 => go_end ?_
      · rw [own.kv.len]
        unfold tk
        rw [List.length_map]
        exact Nat.le_trans (List.length_take_le' _ _) (by omega)
      · have g34 := g3.weak.trans g4
        have gr := g34.trans g5
        have oN : ∀ c, O c → H' c ≠ none := fun c hc => by
          obtain ⟨_, x, e, _⟩ := own.o c hc
          rw [e]; simp
        have lO : ∀ {c : Addr}, H4 c = none → ¬ O c := fun {c} e z => oN c z (g34.dm c e)
        have hspl : b = b.take i ++ (n, p) :: b.drop (i + 1) := by
          have hi' : i < b.length := (List.getElem?_eq_some_iff.mp hbi).1
          have e2 := List.drop_eq_getElem_cons hi'
          rw [(List.getElem?_eq_some_iff.mp hbi).2] at e2
          rw [← e2, List.take_append_drop]
        have hnn : ∀ q ∈ b.take i, q.1 ≠ n := fun q hq e => by
          rw [hspl, List.map_append, List.nodup_append] at hd
          exact hd.2.2 q.1 (List.mem_map_of_mem (f := fun x : Str × Tp => x.1) hq) n (by simp) e
        have hn0 : atK (b.take i) n = none := atK_none hnn
        have hv0 : valV acc (.inr n) = none := own.kv.hasnt (by
          unfold tk
          rw [atK_map, hn0] <;> rfl)
        have own5 := own.next gr.ff (fun c x hc e => by
          by_cases hf : c = fa
          · rw [hf] at e ⊢
            rw [i2] at e
            cases e
            exact i5.1.1.2
          · exact gr.hh c x (fun z => z.elim (fun z => by
              have := hO c hc
              rw [z, hrH] at this
              cases this) hf) e) fun c hc => gr.nw c (own.o c hc).1 (oN c hc)
        have nk : ∀ q ∈ acc, q.1 ≠ (Sum.inr n : L2.Key) := fun q hq e => by
          have := mem_val hq
          rw [e, hv0] at this
          exact this rfl
        obtain rfl : v1 = .int p.b := DAt.i p1
        obtain rfl : xs = p.ps.map pI := kn_vs p2
        have own6 := own5.snoc hn0 hv0 ⟨fl, fk, ft⟩ ⟨lO hl, lO hk, lO ht⟩ nlt h1 h2 h3 p3
        rw [putK_new nk]
        have ff5 : F5 fa = none := i5.1.2.2
        obtain ⟨w0, s0, rfl⟩ := gd4.h 0 _ rfl
        obtain ⟨w1, s1, rfl⟩ := gd4.h 1 _ rfl
        refine ⟨F5, acc ++ [(.inr n, .ref l)], fun c => O c ∨ c = l ∨ c = k ∨ c = t, s0, s1, ex_upd gr.fh ff5, ⟨⟨⟨by rw [upd_ne (Ne.symm nfa)]; exact i5.1.1.1, upd_same⟩, i5.1.2.1, ff5⟩, i5.2⟩, ?_, fun c hc => ?_, fun c x e hc => ?_, fun c e => ?_, fun c e hc => ?_, ?_⟩
        · rw [hlv]
          exact (List.getElem?_eq_some_iff.mp hbi).1
        · rcases hc with hc | rfl | rfl | rfl
          · exact hO c hc
          · exact dm _ (g34.dm _ hl)
          · exact dm _ (g34.dm _ hk)
          · exact dm _ (g34.dm _ ht)
        · have hf : c ≠ fa := ne_of_none e hfa
          rw [upd_ne hf]
          exact gr.hh c x (fun z => z.elim hc hf) (kp c x e hc)
        · by_cases hf : c = fa
          · rw [hf]; exact hfa
          · rw [upd_ne hf] at e
            exact dm c (gr.dm c e)
        · have hcr : c ≠ r := fun z => by
            rw [z, hr0] at e
            cases e
          refine gr.nw c (nw c e hc) ?_
          cases hx : H c with
          | none => exact absurd hx hc
          | some x => rw [kp c x hx hcr]; simp
        · have : b.take (i + 1) = b.take i ++ [(n, p)] := by rw [List.take_succ, hbi] <;> rfl
          rw [this]
          exact own6
end
end R60

set_option Elab.async false
set_option pp.maxSteps 400
set_option linter.all false
set_option maxRecDepth 100000
set_option maxHeartbeats 4000000
namespace R60
open PySem PySem.Spec PyProof.Rows L2
/-! slim_done -/
def doneT (p : Tp) : Deed → Tp
  | .add _ => ⟨p.b, p.ps, p.ts ++ [[]]⟩
  | .pace _ t pc => ⟨p.b, setK p.ps t pc, p.ts⟩
  | .put _ i e => match p.ts[i.toNat]? with
    | none => p
    | some t => ⟨p.b, p.ps, p.ts.set i.toNat (put1 t e)⟩
  | .take _ i pl => match p.ts[i.toNat]? with
    | none => p
    | some t => ⟨p.b, p.ps, p.ts.set i.toNat (t.take pl.toNat ++ t.drop (pl.toNat + 1))⟩
  | .later _ i b => match p.ts[i.toNat]? with
    | none => p
    | some t => ⟨p.b, p.ps, p.ts.set i.toNat (t.map (shift b))⟩
  | .part _ i ch => match p.ts[i.toNat]? with
    | none => p
    | some t => ⟨p.b, p.ps, (p.ts ++ [t.filter fun e => decide (laneI e = ch)]).set i.toNat (t.filter fun e => !decide (laneI e = ch))⟩
  | _ => p
def doneL (b : Bk) (d : Deed) : Bk := match d with
  | .new n t => setK b n ⟨t, [], [[]]⟩
  | .drop n => delK b n
  | d => match atK b d.n with
    | none => b
    | some p => setK b d.n (doneT p d)
theorem doneL_at {b : Bk} {d : Deed} {p : Tp} (h1 : d.w ≠ "new") (h2 : d.w ≠ "drop") (hp : atK b d.n = some p) : doneL b d = setK b d.n (doneT p d) := by
  have : doneL b d = match atK b d.n with
      | none => b
      | some p => setK b d.n (doneT p d) := by
    cases d <;> first
      | rfl
      | exact absurd rfl h1
      | exact absurd rfl h2
  rw [this, hp]
/-- what was its own is fixed now -/
structure Fz (O : Addr → Prop) (F H F' H' : Hp) : Prop where
  ff : Ex F F'
  fh : Ex F' H'
  hh : ∀ c u, ¬ O c → H c = some u → H' c = some u
  nw : ∀ c, ¬ O c → F c = none → H c ≠ none → F' c = none
def mEn (F0 : Hp) (a l k t : Addr) (vs : List (L2.Key × V)) (lv : List V) (kd : List (L2.Key × V)) (tv : List V) : Mu where
  U b := b = a ∨ b = l ∨ b = k ∨ b = t
  I F H := (H a = some (.dK vs) ∧ H l = some (.lst lv) ∧ H k = some (.dK kd) ∧ H t = some (.lst tv)) ∧ (F a = none ∧ F l = none ∧ F k = none ∧ F t = none) ∧ Ex F0 F
  st := fun F H F' H' g ⟨⟨h1, h2, h3, h4⟩, ⟨f1, f2, f3, f4⟩, ex⟩ => ⟨⟨g.same _ _ h1, g.same _ _ h2, g.same _ _ h3, g.same _ _ h4⟩, ⟨g.nw _ f1 (by rw [h1]; simp), g.nw _ f2 (by rw [h2]; simp), g.nw _ f3 (by rw [h3]; simp), g.nw _ f4 (by rw [h4]; simp)⟩, ex.trans g.ff⟩
  up := fun F H b ⟨⟨h1, h2, h3, h4⟩, _⟩ hb => by
    rcases hb with rfl | rfl | rfl | rfl
    · rw [h1]; simp
    · rw [h2]; simp
    · rw [h3]; simp
    · rw [h4]; simp
  loc := fun F H H' q ⟨⟨h1, h2, h3, h4⟩, r⟩ => ⟨⟨(q _ (.inl rfl)).trans h1, (q _ (.inr (.inl rfl))).trans h2, (q _ (.inr (.inr (.inl rfl)))).trans h3, (q _ (.inr (.inr (.inr rfl)))).trans h4⟩, r⟩
  add := fun F H p o hp f0 ⟨h, ⟨f1, f2, f3, f4⟩, ex⟩ => ⟨h, ⟨by rw [upd_ne (fun z => hp (.inl z.symm))]; exact f1, by rw [upd_ne (fun z => hp (.inr (.inl z.symm)))]; exact f2, by rw [upd_ne (fun z => hp (.inr (.inr (.inl z.symm))))]; exact f3, by rw [upd_ne (fun z => hp (.inr (.inr (.inr z.symm))))]; exact f4⟩, ex.trans fun b u z => by rw [upd_ne (ne_of_none z f0)]; exact z⟩
theorem KvT.ofGet {κ : Type} {F : Hp} : ∀ {kts : List (κ × Ty)} {vs : List (κ × V)}, vs.length = kts.length → (∀ (i : Nat) (k : κ) (T : Ty) (k' : κ) (v : V), kts[i]? = some (k, T) → vs[i]? = some (k', v) → k = k' ∧ T.p v F) → KvT kts vs F
  | [], [], _, _ => trivial
  | (k, T) :: r, (k', v) :: r', hl, h => by
    obtain ⟨h1, h2⟩ := h 0 k T k' v rfl rfl
    exact ⟨h1, h2, KvT.ofGet (by simpa using hl) fun i a b c d e1 e2 => h (i + 1) a b c d (by simpa using e1) (by simpa using e2)⟩
  | [], _ :: _, hl, _ => by simp at hl
  | _ :: _, [], hl, _ => by simp at hl
theorem holdsA_set {F : Hp} {T : Ty} {v : V} : ∀ {Ts : List Ty} {vs : List V} {j : Nat}, HoldsA Ts vs F → T.p v F → HoldsA (Ts.set j T) (vs.set j v) F
  | [], [], _, _, _ => trivial
  | S :: Ts, u :: vs, 0, h, p => ⟨p, h.2⟩
  | S :: Ts, u :: vs, j + 1, h, p => ⟨h.1, holdsA_set h.2 p⟩
section
variable {X : Cx} {m : Mu} {Γ : Gam} {pos : Pos} {rest : List Stmt} {D : Ends} {σ : L2.St} {F H : Hp}
theorem go_ret0 (h : D.rt .non H) : tSemS X (.Return none pos :: rest) D σ H := fun pins s I => (pss_cons ps_retN semS).run pins s σ H D I h
end
section
variable {w : World} {K : PySem.W.Frag} {mg : Str → Option Value} {base : Heap} {MC TC DC : Addr}
def p_slim_done (K : PySem.W.Frag) : Sp := fun vs H Q _ => ∃ (b : Bk) (d : Deed) (F : Hp) (a : Addr) (O : Addr → Prop) (v : V), vs = [.ref a, v] ∧ Ex F H ∧ OwnB K b a O F H ∧ (Is K d.d).p v F ∧ d.fit ∧ BkOk b ∧ (b.map (·.1)).Nodup ∧ b.length ≤ 100 ∧ wordL b d = "" ∧
  ∀ F' H', Fz O F H F' H' → (LbT K (doneL b d)).p (.ref a) F' → Q .non H'
abbrev NSD : List Str := ["_law_book", "_law_deed", "_law_word_here", "_law_m", "_law_track", "_law_event"]
theorem track_ok {p : Tp} {d : Deed} (hk : d.trk = true) (hw : wordT p d = "") : ∃ t j, d.ix = (j : Nat) ∧ j < p.ts.length ∧ p.ts[j]? = some t ∧ trackW p t d = "" := by
  rw [wordT_trk hk] at hw
  cases hc : !(decide (0 ≤ d.ix) && decide (d.ix < (p.ts.length : Nat))) with
  | true =>
    rw [hc] at hw
    exact absurd (show ("notrack" : Str) = "" from hw) (by decide +kernel)
  | false =>
    rw [hc] at hw
    have h2 : 0 ≤ d.ix ∧ d.ix < (p.ts.length : Nat) := by simpa using hc
    obtain ⟨j, hj⟩ := Int.eq_ofNat_of_zero_le h2.1
    have hlt : j < p.ts.length := by omega
    have e : p.ts[d.ix.toNat]? = some p.ts[j] := by rw [hj]; simp [hlt]
    rw [e] at hw
    exact ⟨p.ts[j], j, hj, hlt, by simp [hlt], hw⟩
theorem fl_slim_done (T : Txt w K mg MC TC DC) : CalX PG w K mg base 2 "_law_slim_done" (p_slim_done K) := by
  refine cal_of T.d_Lslim_done sc_Lslim_done bd_Lslim_done (fun vs H Q E ⟨b, d, F, a, O, v, h, _⟩ => by rw [h] <;> rfl) ?_
  intro f cdv A outer s H us Q E hr h
  obtain ⟨b, d, F, a, O, v, rfl, ex, ⟨vs, own⟩, pv, hf, hb, hd, hlen, hW, q⟩ := h
  have hlv : vs.length ≤ 100 := by
    rw [own.kv.len]
    unfold tk
    rw [List.length_map]
    exact hlen
  refine ⟨_, semS, ?_⟩
  have ew : ∀ {Γ : Gam} {m : Mu} {p1 p2 p3 : Pos} {k : Nat} {d : Deed}, Γ[1]? = some (some (Is K d.d)) → EvE (cxD PG w K mg base "_law_slim_done" s_Lslim_done NSD f cdv A outer s H E) m Γ (.Subscript (.Name "_law_deed" p1) (.Constant (.int 0) k p2) p3) (Is K (.str d.w)) := fun {Γ m p1 p2 p3 k d} h => e_ixT (ds := .str d.w :: .str d.n :: d.th) (e_var 1 h) e_int at_0
  have en : ∀ {Γ : Gam} {m : Mu} {p1 p2 p3 : Pos} {k : Nat} {d : Deed}, Γ[1]? = some (some (Is K d.d)) → EvE (cxD PG w K mg base "_law_slim_done" s_Lslim_done NSD f cdv A outer s H E) m Γ (.Subscript (.Name "_law_deed" p1) (.Constant (.int 1) k p2) p3) (Is K (.str d.n)) := fun {Γ m p1 p2 p3 k d} h => e_ixT (ds := .str d.w :: .str d.n :: d.th) (d := .str d.n) (e_var 1 h) e_int at_1
  by_cases hnew : d.w = "new" ∨ d.w = "drop"
  · -- the whole book
    have fO : ∀ c, O c ∧ c ≠ a → F c = none := fun c hc => (own.o c hc.1).1
    have ex0 : Ex (frzO (fun c => O c ∧ c ≠ a) F H) H := frzO_fh ex
    have fa0 : frzO (fun c => O c ∧ c ≠ a) F H a = none := by rw [frzO_out (fun z => z.2 rfl)]; exact (own.o a own.oa).1
    have ff0 : Ex F (frzO (fun c => O c ∧ c ≠ a) F H) := frzO_ff fO
    have gd : Good m0 [some (Vl (.ref a)), some (Is K d.d), none, none, none, none] [some (.ref a), some v, none, none, none, none] (frzO (fun c => O c ∧ c ≠ a) F H) H := ⟨ex0, trivial, HoldsA.holds (Ts := [Vl (.ref a), Is K d.d]) (vs := [.ref a, v]) (k := 4) ⟨rfl, (Is K d.d).mono _ _ _ ff0 pv, trivial⟩⟩
    have fin : ∀ F' H' vs', Gr0 (frzO (fun c => O c ∧ c ≠ a) F H) H F' H' → KvT (tk (doneL b d) (LtT K)) vs' F' → Q .non (upd H' a (.dK vs')) := fun F' H' vs' g hkv => by
      have fa1 : F' a = none := g.nw a fa0 (by rw [own.ha]; simp)
      have e1 : Ex F' (upd F' a (.dK vs')) := fun c u z => by rw [upd_ne (ne_of_none z fa1)]; exact z
      refine q (upd F' a (.dK vs')) _ ⟨(ff0.trans g.ff).trans e1, fun c u z => ?_, fun c u nO z => ?_, fun c nO z n => ?_⟩ ⟨a, vs', rfl, upd_same, hkv.mono e1⟩
      · by_cases hc : c = a
        · rw [hc, upd_same] at z
          rw [hc, upd_same]
          exact z
        · rw [upd_ne hc] at z
          rw [upd_ne hc]
          exact g.fh c u z
      · rw [upd_ne (fun e => nO (by rw [e]; exact own.oa))]
        exact g.same _ _ z
      · rw [upd_ne (fun e => nO (by rw [e]; exact own.oa))]
        exact g.nw c (by rw [frzO_out (fun e => nO e.1)]; exact z) n
    refine go_set 2 (ew rfl) gd (fun v2 F2 H2 g2 i2 p2 gd2 => ?_) sc_Lslim_done.nd
    have fa2 : F2 a = none := g2.nw a fa0 (by rw [own.ha]; simp)
    rcases hnew with hw | hw
    · obtain ⟨n, t, rfl⟩ := Deed.is_new hw
      refine go_ifT (EvT.eq (t_eqs (z := "new") (z' := "new") (e_var 2 rfl) e_str) (by decide +kernel)) gd2 fun F3 H3 g3 i3 => ?_
      refine go_dput (a := a) (vs := vs) (ky := .inr n) (Tv := LtT K ⟨t, [], [[]]⟩) hr (e_lst (a_cons (e_ixT (ds := [.str "new", .str n, .int t]) (d := .int t) (e_var 1 rfl) e_int at_2) (a_cons (e_dnew.imp fun v F p => p) (a_cons (e_lstD (ad_cons (e_lstD ad_nil) ad_nil)) a_nil))) (by show 3 ≤ sizeLine; decide) fun vs F p h1 h2 => ⟨p, vs, rfl, h2, h1⟩) (e_var 0 rfl) (en (d := .new n t) rfl) (gd2.next g3 i3) ((g2.trans g3).same _ _ own.ha) (Nat.le_trans hlv (by decide)) fun v4 F4 H4 g4 p4 => go_ret0 ?_
      have gA := (g2.trans g3).trans g4
      refine fin F4 H4 _ gA ?_
      show KvT (tk (setK b n ⟨t, [], [[]]⟩) (LtT K)) _ _
      rw [← tk_set]
      exact (own.kv.mono gA.ff).set p4
    · obtain ⟨n, rfl⟩ := Deed.is_drop hw
      have hp : ∃ p, atK b n = some p := by
        have h0 : (match atK b n with
          | none => "notape"
          | some p => wordT p (.drop n) : Str) = "" := hW
        cases e : atK b n with
        | none =>
          rw [e] at h0
          exact absurd (show ("notape" : Str) = "" from h0) (by decide +kernel)
        | some p => exact ⟨p, rfl⟩
      obtain ⟨p, hp⟩ := hp
      obtain ⟨x, hx, _⟩ := own.kv.has (k := .inr n) (T := LtT K p) (by
        unfold tk
        rw [atK_map, hp] <;> rfl)
      refine go_ifF (EvT.eq (t_eqs (z := "drop") (z' := "new") (e_var 2 rfl) e_str) (by decide +kernel)) gd2 fun F3 H3 g3 i3 => ?_
      have gd3 := gd2.next g3 i3
      refine go_ifT (EvT.eq (t_eqs (z := "drop") (z' := "drop") (e_var 2 rfl) e_str) (by decide +kernel)) gd3 fun F4 H4 g4 i4 => ?_
      refine go_dpop (a := a) (vs := vs) (ky := .inr n) (v := x) (e_var 0 rfl) (en (d := .drop n) rfl) (gd3.next g4 i4) (((g2.trans g3).trans g4).same _ _ own.ha) hx fun F5 H5 g5 => go_ret0 ?_
      have gA := ((g2.trans g3).trans g4).trans g5
      refine fin F5 H5 _ gA ?_
      show KvT (tk (delK b n) (LtT K)) _ _
      rw [← tk_del]
      exact (own.kv.mono gA.ff).del
  · -- one place of it
    have h1 : d.w ≠ "new" := fun z => hnew (.inl z)
    have h2 : d.w ≠ "drop" := fun z => hnew (.inr z)
    have hp : ∃ p, atK b d.n = some p ∧ wordT p d = "" := by
      rw [wordL_at h1] at hW
      cases e : atK b d.n with
      | none =>
        rw [e] at hW
        exact absurd (show ("notape" : Str) = "" from hW) (by decide +kernel)
      | some p =>
        rw [e] at hW
        exact ⟨p, rfl, hW⟩
    obtain ⟨p, hp, hwt⟩ := hp
    have hpo : TpOk p := hb.at hp
    have hdone := doneL_at h1 h2 hp
    obtain ⟨l, k, t, tv, eV, ⟨ol, ok, ot⟩, ⟨al, ak, at_, lk, lt, kt⟩, hl, hk, ht, htv, oth⟩ := own.en d.n p hp
    let S : Addr → Prop := fun c => O c ∧ c ≠ a ∧ c ≠ l ∧ c ≠ k ∧ c ≠ t
    have ff0 : Ex F (frzO S F H) := frzO_ff fun c hc => (own.o c hc.1).1
    have f0n : ∀ c, O c → ¬ S c → frzO S F H c = none := fun c hc hn => by rw [frzO_out hn]; exact (own.o c hc).1
    have fin : ∀ F' H' kd' tv' p', Gr (mEn (frzO S F H) a l k t vs [.int p.b, .ref k, .ref t] (p.ps.map pI) tv).U (frzO S F H) H F' H' → (mEn (frzO S F H) a l k t vs [.int p.b, .ref k, .ref t] kd' tv').I F' H' → kd' = p'.ps.map pI → p'.b = p.b → HoldsA (p'.ts.map fun t => Is K (trD t)) tv' F' → doneT p d = p' → Q .non H' := by
      intro F' H' kd' tv' p' g ⟨⟨x1, x2, x3, x4⟩, ⟨y1, y2, y3, y4⟩, xe⟩ e1 e2 hA e3
      have fS : Ex F' (frzO (fun c => c = a ∨ c = l ∨ c = k ∨ c = t) F' H') := frzO_ff fun c hc => by
        rcases hc with rfl | rfl | rfl | rfl
        · exact y1
        · exact y2
        · exact y3
        · exact y4
      have nO4 : ∀ {c : Addr}, ¬ O c → ¬ (c = a ∨ c = l ∨ c = k ∨ c = t) := fun {c} nO z => by
        rcases z with rfl | rfl | rfl | rfl
        · exact nO own.oa
        · exact nO ol
        · exact nO ok
        · exact nO ot
      refine q (frzO (fun c => c = a ∨ c = l ∨ c = k ∨ c = t) F' H') H' ⟨(ff0.trans g.ff).trans fS, frzO_fh g.fh, fun c u nO z => g.hh c u (nO4 nO) z, fun c nO z n => ?_⟩ ?_
      · rw [frzO_out (nO4 nO)]
        exact g.nw c (by rw [frzO_out (fun e => nO e.1)]; exact z) n
      · rw [hdone, e3]
        refine ⟨a, vs, rfl, by rw [frzO_in (.inl rfl)]; exact x1, KvT.ofGet ?_ fun i ky U ky' u hi hu => ?_⟩
        · rw [own.kv.len, ← tk_set]
          unfold setK
          split
          · rw [List.length_map]
          · rename_i hc
            exfalso
            refine hc ?_
            rw [← atK_any]
            unfold tk
            rw [atK_map, hp] <;> rfl
        · obtain ⟨U0, hU0, pU0⟩ := own.kv.get hu
          obtain ⟨n', p0, hbi, rfl, rfl⟩ := tk_get hU0
          have hset : setK b d.n p' = b.map fun kv => if kv.1 = d.n then (kv.1, p') else kv := by
            unfold setK
            rw [if_pos (by rw [← atK_any, hp] <;> rfl)]
          have hval : valV vs (.inr n') = some u := val_nodup (keys_nodup hd own.kv) (List.mem_of_getElem? hu)
          unfold tk at hi
          rw [hset, List.map_map, List.getElem?_map, hbi] at hi
          cases hi
          by_cases hn : n' = d.n
          · subst hn
            rw [eV] at hval
            cases hval
            refine ⟨by simp, ?_⟩
            simp only [Function.comp, if_true]
            refine ⟨l, [.int p.b, .ref k, .ref t], rfl, by rw [frzO_in (.inr (.inl rfl))]; exact x2, by rw [e2]; exact .int .nil, ⟨k, _, rfl, by rw [frzO_in (.inr (.inr (.inl rfl)))]; rw [x3, e1], kn_self _⟩, .lst (by rw [frzO_in (.inr (.inr (.inr rfl)))]; exact x4) (das_of ?_) .nil, trivial⟩
            rw [List.map_map]
            exact hA.mono fS
          · refine ⟨by simp [hn], ?_⟩
            simp only [Function.comp, hn, if_false]
            exact (LtT K p0).mono _ _ _ ((xe.trans fS)) (oth n' p0 u hn (atK_nodup hd (List.mem_of_getElem? hbi)) hval)
    have htl : tv.length = p.ts.length := by rw [htv.len, List.length_map]
    have hn6 := hpo.n
    have gd : Good (mEn (frzO S F H) a l k t vs [.int p.b, .ref k, .ref t] (p.ps.map pI) tv) [some (Vl (.ref a)), some (Is K d.d), none, none, none, none] [some (.ref a), some v, none, none, none, none] (frzO S F H) H := ⟨frzO_fh ex, ⟨⟨own.ha, hl, hk, ht⟩, ⟨f0n a own.oa fun z => z.2.1 rfl, f0n l ol fun z => z.2.2.1 rfl, f0n k ok fun z => z.2.2.2.1 rfl, f0n t ot fun z => z.2.2.2.2 rfl⟩, Same.refl _⟩, HoldsA.holds (Ts := [Vl (.ref a), Is K d.d]) (vs := [.ref a, v]) (k := 4) ⟨rfl, (Is K d.d).mono _ _ _ ff0 pv, trivial⟩⟩
    have ut : ∀ {kd : List (L2.Key × V)} {tv tv' : List V} {F' H' : Hp}, (mEn (frzO S F H) a l k t vs [.int p.b, .ref k, .ref t] kd tv).I F' H' → (mEn (frzO S F H) a l k t vs [.int p.b, .ref k, .ref t] kd tv').I F' (upd H' t (.lst tv')) := fun q => ⟨⟨by rw [upd_ne at_]; exact q.1.1, by rw [upd_ne lt]; exact q.1.2.1, by rw [upd_ne kt]; exact q.1.2.2.1, upd_same⟩, q.2⟩
    have uk : ∀ {kd kd' : List (L2.Key × V)} {tv : List V} {F' H' : Hp}, (mEn (frzO S F H) a l k t vs [.int p.b, .ref k, .ref t] kd tv).I F' H' → (mEn (frzO S F H) a l k t vs [.int p.b, .ref k, .ref t] kd' tv).I F' (upd H' k (.dK kd')) := fun q => ⟨⟨by rw [upd_ne ak]; exact q.1.1, by rw [upd_ne lk]; exact q.1.2.1, upd_same, by rw [upd_ne (Ne.symm kt)]; exact q.1.2.2.2⟩, q.2⟩
    have gt : ∀ {F1 H1 F' H' : Hp} {kd : List (L2.Key × V)} {tv0 tv' : List V}, Gr (mEn (frzO S F H) a l k t vs [.int p.b, .ref k, .ref t] (p.ps.map pI) tv).U F1 H1 F' H' → (mEn (frzO S F H) a l k t vs [.int p.b, .ref k, .ref t] kd tv0).I F' H' → Gr (mEn (frzO S F H) a l k t vs [.int p.b, .ref k, .ref t] (p.ps.map pI) tv).U F1 H1 F' (upd H' t (.lst tv')) := fun g i => Gr.at_ g (.inr (.inr (.inr rfl))) (by rw [i.1.2.2.2]; simp) i.2.1.2.2.2
    have e2 : ∀ {Γ : Gam} {kd : List (L2.Key × V)} {tv : List V} {p1 p2 p3 : Pos} {c : Nat}, Γ[3]? = some (some (Vl (.ref l))) → EvE (cxD PG w K mg base "_law_slim_done" s_Lslim_done NSD f cdv A outer s H E) (mEn (frzO S F H) a l k t vs [.int p.b, .ref k, .ref t] kd tv) Γ (.Subscript (.Name "_law_m" p1) (.Constant (.int 2) c p2) p3) (Vl (.ref t)) := fun h => e_ixM (e_var 3 h) e_int fun F H q => ⟨_, .ref t, q.1.2.1, atI_nat (j := 2) rfl, rfl⟩
    have e1 : ∀ {Γ : Gam} {kd : List (L2.Key × V)} {tv : List V} {p1 p2 p3 : Pos} {c : Nat}, Γ[3]? = some (some (Vl (.ref l))) → EvE (cxD PG w K mg base "_law_slim_done" s_Lslim_done NSD f cdv A outer s H E) (mEn (frzO S F H) a l k t vs [.int p.b, .ref k, .ref t] kd tv) Γ (.Subscript (.Name "_law_m" p1) (.Constant (.int 1) c p2) p3) (Vl (.ref k)) := fun h => e_ixM (e_var 3 h) e_int fun F H q => ⟨_, .ref k, q.1.2.1, atI_nat (j := 1) rfl, rfl⟩
    refine go_set 2 (ew rfl) gd (fun v2 F2 H2 g2 i2 p2 gd2 => ?_) sc_Lslim_done.nd
    refine go_ifF (EvT.eq (t_eqs (z := d.w) (z' := "new") (e_var 2 rfl) e_str) (decide_eq_false h1)) gd2 fun F3 H3 g3 i3 => ?_
    have gd3 := gd2.next g3 i3
    refine go_ifF (EvT.eq (t_eqs (z := d.w) (z' := "drop") (e_var 2 rfl) e_str) (decide_eq_false h2)) gd3 fun F4 H4 g4 i4 => ?_
    have gd4 := gd3.next g4 i4
    refine go_set (m := mEn (frzO S F H) a l k t vs [.int p.b, .ref k, .ref t] (p.ps.map pI) tv) 3 (e_dgetF (T := Vl (.ref l)) (r := a) (ky := .inr d.n) hr (e_var 0 rfl) (en rfl) fun F H q => ⟨vs, .ref l, .inl q.1.1, eV, rfl⟩) gd4 (fun v5 F5 H5 g5 i5 p5 gd5 => ?_) sc_Lslim_done.nd
    have gA := ((g2.trans g3).trans g4).trans g5
    by_cases hadd : d.w = "add"
    · obtain ⟨n, rfl⟩ := Deed.is_add hadd
      refine go_ifT (EvT.eq (t_eqs (z := "add") (z' := "add") (e_var 2 rfl) e_str) (by decide +kernel)) gd5 fun F6 H6 g6 i6 => ?_
      refine go_appM (a := t) (vs := tv) (Tv := Is K (trD [])) (e2 rfl) (e_lstD ad_nil) (gd5.next g6 i6) (fun F H q => q.1.2.2.2) (by omega) fun v7 F7 H7 g7 i7 p7 => go_ret0 ?_
      refine fin F7 _ _ (tv ++ [v7]) ⟨p.b, p.ps, p.ts ++ [[]]⟩ (gt ((gA.trans g6).trans g7) i7) (ut i7) rfl rfl ?_ rfl
      show HoldsA ((p.ts ++ [[]]).map _) _ _
      rw [List.map_append]
      exact holdsA_snoc1 (htv.mono (ff0.trans ((gA.trans g6).trans g7).ff)) p7
    · refine go_ifF (EvT.eq (t_eqs (z := d.w) (z' := "add") (e_var 2 rfl) e_str) (decide_eq_false hadd)) gd5 fun F6 H6 g6 i6 => ?_
      have gd6 := gd5.next g6 i6
      by_cases hpace : d.w = "pace"
      · obtain ⟨n, tc, pc, rfl⟩ := Deed.is_pace hpace
        refine go_ifT (EvT.eq (t_eqs (z := "pace") (z' := "pace") (e_var 2 rfl) e_str) (by decide +kernel)) gd6 fun F7 H7 g7 i7 => ?_
        refine go_dputM (fa := k) (acc := p.ps.map pI) (ky := .inl tc) (Tv := Is K (.int pc)) hr (e_ixT (ds := [.str "pace", .str n, .int tc, .int pc]) (d := .int pc) (e_var 1 rfl) e_int at_3) (e1 rfl) (e_ixT (ds := [.str "pace", .str n, .int tc, .int pc]) (d := .int tc) (e_var 1 rfl) e_int at_2) (gd6.next g7 i7) (fun F H q => q.1.2.2.1) (by rw [List.length_map]; exact Nat.le_trans hpo.ps.n (by decide)) fun v8 F8 H8 g8 i8 p8 => go_ret0 ?_
        rw [show v8 = .int pc from DAt.i p8, put_pI]
        refine fin F8 _ ((setK p.ps tc pc).map pI) tv ⟨p.b, setK p.ps tc pc, p.ts⟩ (Gr.at_ (((gA.trans g6).trans g7).trans g8) (.inr (.inr (.inl rfl))) (by rw [i8.1.2.2.1]; simp) i8.2.1.2.2.1) (uk i8) rfl rfl (htv.mono (ff0.trans (((gA.trans g6).trans g7).trans g8).ff)) rfl
      · refine go_ifF (EvT.eq (t_eqs (z := d.w) (z' := "pace") (e_var 2 rfl) e_str) (decide_eq_false hpace)) gd6 fun F7 H7 g7 i7 => ?_
        have gd7 := gd6.next g7 i7
        obtain ⟨hkd, r, hth⟩ := Deed.is_trk h1 h2 hadd hpace
        obtain ⟨tr, j, hj, hlt, htr, hT⟩ := track_ok hkd hwt
        have hto : TrOk tr := hpo.ts tr (List.mem_of_getElem? htr)
        have hjt : j < tv.length := by omega
        have pw : (Is K (trD tr)).p tv[j] (frzO S F H) := by
          obtain ⟨U, q1, q2⟩ := holdsA_get htv (i := j) (v := tv[j]) (by simp [hjt])
          rw [List.getElem?_map, htr] at q1
          cases q1
          exact (Is K (trD tr)).mono _ _ _ ff0 q2
        have ei : ∀ {Γ : Gam} {m : Mu} {p1 p2 p3 : Pos} {c : Nat}, Γ[1]? = some (some (Is K d.d)) → EvE (cxD PG w K mg base "_law_slim_done" s_Lslim_done NSD f cdv A outer s H E) m Γ (.Subscript (.Name "_law_deed" p1) (.Constant (.int 2) c p2) p3) (Is K (.int (j : Nat))) := fun h => e_ixT (ds := .str d.w :: .str d.n :: d.th) (d := .int (j : Nat)) (e_var 1 h) e_int (by rw [hth, hj]; exact at_2)
        refine go_set (m := mEn (frzO S F H) a l k t vs [.int p.b, .ref k, .ref t] (p.ps.map pI) tv) 4 (e_ixM (P := Is K (trD tr)) (e2 rfl) (ei rfl) fun F H q => ⟨tv, tv[j], q.1.2.2.2, atI_nat (by simp [hjt]), (Is K (trD tr)).mono _ _ _ q.2.2 pw⟩) gd7 (fun v8 F8 H8 g8 i8 p8 gd8 => ?_) sc_Lslim_done.nd
        have gB := ((gA.trans g6).trans g7).trans g8
        have fin2 : ∀ F' H' v x, Gr (mEn (frzO S F H) a l k t vs [.int p.b, .ref k, .ref t] (p.ps.map pI) tv).U (frzO S F H) H F' H' → (mEn (frzO S F H) a l k t vs [.int p.b, .ref k, .ref t] (p.ps.map pI) (tv.set j v)).I F' H' → (Is K (trD x)).p v F' → doneT p d = ⟨p.b, p.ps, p.ts.set j x⟩ → Q .non H' := fun F' H' v x g i px e => by
          refine fin F' H' _ (tv.set j v) ⟨p.b, p.ps, p.ts.set j x⟩ g i rfl rfl ?_ e
          show HoldsA ((p.ts.set j x).map _) _ _
          rw [List.map_set]
          exact holdsA_set (htv.mono (ff0.trans g.ff)) px
        cases d with
        | put n i e =>
          obtain rfl : i = (j : Int) := hj
          refine go_ifT (EvT.eq (t_eqs (z := "put") (z' := "put") (e_var 2 rfl) e_str) (by decide +kernel)) gd8 fun F9 H9 g9 i9 => ?_
          have gd9 := gd8.next g9 i9
          refine go_lsetM (m := mEn (frzO S F H) a l k t vs [.int p.b, .ref k, .ref t] (p.ps.map pI) tv) (d := t) (acc := tv) (j := j) (Tv := Is K (trD (put1 tr e))) ?_ (e2 rfl) (ei rfl) gd9 (fun F H q => q.1.2.2.2) hjt ?_
          · exact e_call (ι := { p : Tr × Ev // p.1.length ≤ 1000 }) (α := Unit) (v := ()) ⟨(tr, e), Nat.le_trans hto.n (by decide)⟩ (fl_put_in T) hr (by decide) Sub.zero rfl (a_cons (e_var 4 rfl) (a_cons (e_ixT (ds := [.str "put", .str n, .int (j : Nat), e.d]) (d := e.d) (e_var 1 rfl) e_int at_3) a_nil)) rfl
          intro v10 F10 H10 g10 i10 p10
          refine go_end ?_
          have gC := gt (tv' := tv.set j v10) ((gB.trans g9).trans g10) i10
          have gdC : Good (mEn (frzO S F H) a l k t vs [.int p.b, .ref k, .ref t] (p.ps.map pI) (tv.set j v10)) [some (Vl (.ref a)), some (Is K (Deed.d (.put n (j : Nat) e))), some (Is K (.str "put")), some (Vl (.ref l)), some (Is K (trD tr)), none] _ F10 _ := gd9.in_ g10.ff gC.fh (ut i10)
          refine go_ifF (EvT.eq (t_eqs (z := "put") (z' := "take") (e_var 2 rfl) e_str) (by decide +kernel)) gdC fun F11 H11 g11 i11 => ?_
          have gd11 := gdC.next g11 i11
          refine go_ifF (EvT.eq (t_eqs (z := "put") (z' := "later") (e_var 2 rfl) e_str) (by decide +kernel)) gd11 fun F12 H12 g12 i12 => ?_
          have gd12 := gd11.next g12 i12
          refine go_ifF (EvT.eq (t_eqs (z := "put") (z' := "part") (e_var 2 rfl) e_str) (by decide +kernel)) gd12 fun F13 H13 g13 i13 => ?_
          have gd13 := gd12.next g13 i13
          exact go_end (fin2 F13 _ v10 (put1 tr e) (((gC.trans g11).trans g12).trans g13) i13 ((Is K (trD (put1 tr e))).mono _ _ _ ((g11.ff.trans g12.ff).trans g13.ff) p10) (by show (match p.ts[((j : Nat) : Int).toNat]? with | none => p | some t => _) = _; rw [Int.toNat_natCast, htr]))
        | take n i pl =>
          obtain rfl : i = (j : Int) := hj
          refine go_ifF (EvT.eq (t_eqs (z := "take") (z' := "put") (e_var 2 rfl) e_str) (by decide +kernel)) gd8 fun F9 H9 g9 i9 => ?_
          have gd9 := gd8.next g9 i9
          refine go_ifT (EvT.eq (t_eqs (z := "take") (z' := "take") (e_var 2 rfl) e_str) (by decide +kernel)) gd9 fun F10 H10 g10 i10 => ?_
          have gd10 := gd9.next g10 i10
          refine go_lsetM (m := mEn (frzO S F H) a l k t vs [.int p.b, .ref k, .ref t] (p.ps.map pI) tv) (d := t) (acc := tv) (j := j) (Tv := Is K (trD (tr.take pl.toNat ++ tr.drop (pl.toNat + 1)))) ?_ (e2 rfl) (ei rfl) gd10 (fun F H q => q.1.2.2.2) hjt ?_
          · rw [tw_take] at hT
            have hpl : 0 ≤ pl ∧ pl < (tr.length : Nat) := by
              cases hc : decide (0 ≤ pl) && decide (pl < ((tr.length : Nat) : Int)) with
              | true => simpa using hc
              | false =>
                rw [hc] at hT
                exact absurd (show ("noevent" : Str) = "" from hT) (by decide +kernel)
            obtain ⟨q0, rfl⟩ := Int.eq_ofNat_of_zero_le hpl.1
            have hl2 := hto.n
            refine EvE.eq (e_cat (e_slL (ds := tr.map Ev.d) (e_var 4 rfl) evo_none (evo_some (e_ixT (ds := [.str "take", .str n, .int (j : Nat), .int (q0 : Nat)]) (d := .int (q0 : Nat)) (e_var 1 rfl) e_int at_3))) (e_slL (ds := tr.map Ev.d) (e_var 4 rfl) (evo_some (e_add (e_ixT (ds := [.str "take", .str n, .int (j : Nat), .int (q0 : Nat)]) (d := .int (q0 : Nat)) (e_var 1 rfl) e_int at_3) e_int)) evo_none) ?_) ?_
            · rw [cut_to, show (q0 : Int) + 1 = ((q0 + 1 : Nat) : Int) from by omega, cut_from]
              simp
              omega
            · rw [cut_to, show (q0 : Int) + 1 = ((q0 + 1 : Nat) : Int) from by omega, cut_from]
              show D.lst _ = D.lst _
              simp
          intro v11 F11 H11 g11 i11 p11
          refine go_end ?_
          have gC := gt (tv' := tv.set j v11) (((gB.trans g9).trans g10).trans g11) i11
          have gdC : Good (mEn (frzO S F H) a l k t vs [.int p.b, .ref k, .ref t] (p.ps.map pI) (tv.set j v11)) [some (Vl (.ref a)), some (Is K (Deed.d (.take n (j : Nat) pl))), some (Is K (.str "take")), some (Vl (.ref l)), some (Is K (trD tr)), none] _ F11 _ := gd10.in_ g11.ff gC.fh (ut i11)
          refine go_ifF (EvT.eq (t_eqs (z := "take") (z' := "later") (e_var 2 rfl) e_str) (by decide +kernel)) gdC fun F12 H12 g12 i12 => ?_
          have gd12 := gdC.next g12 i12
          refine go_ifF (EvT.eq (t_eqs (z := "take") (z' := "part") (e_var 2 rfl) e_str) (by decide +kernel)) gd12 fun F13 H13 g13 i13 => ?_
          have gd13 := gd12.next g13 i13
          exact go_end (fin2 F13 _ v11 (tr.take pl.toNat ++ tr.drop (pl.toNat + 1)) ((gC.trans g12).trans g13) i13 ((Is K (trD (tr.take pl.toNat ++ tr.drop (pl.toNat + 1)))).mono _ _ _ (g12.ff.trans g13.ff) p11) (by show (match p.ts[((j : Nat) : Int).toNat]? with | none => p | some t => _) = _; rw [Int.toNat_natCast, htr]))
        | later n i by_ =>
          obtain rfl : i = (j : Int) := hj
          refine go_ifF (EvT.eq (t_eqs (z := "later") (z' := "put") (e_var 2 rfl) e_str) (by decide +kernel)) gd8 fun F9 H9 g9 i9 => ?_
          have gd9 := gd8.next g9 i9
          refine go_ifF (EvT.eq (t_eqs (z := "later") (z' := "take") (e_var 2 rfl) e_str) (by decide +kernel)) gd9 fun F10 H10 g10 i10 => ?_
          have gd10 := gd9.next g10 i10
          refine go_ifT (EvT.eq (t_eqs (z := "later") (z' := "later") (e_var 2 rfl) e_str) (by decide +kernel)) gd10 fun F11 H11 g11 i11 => ?_
          have gd11 := gd10.next g11 i11
          refine go_lsetM (m := mEn (frzO S F H) a l k t vs [.int p.b, .ref k, .ref t] (p.ps.map pI) tv) (d := t) (acc := tv) (j := j) (Tv := Is K (trD (tr.map (shift by_)))) ?_ (e2 rfl) (ei rfl) gd11 (fun F H q => q.1.2.2.2) hjt ?_
          · refine EvE.eq (e_lcAll (xs := tr) (fun x => [some (Vl (.ref a)), some (Is K (Deed.d (.later n (j : Nat) by_))), some (Is K (.str "later")), some (Vl (.ref l)), some (Is K (trD tr)), some (Is K x.d)]) [5] (fun x => (shift by_ x).d) rfl sc_Lslim_done.nd (i_list (e_ls (xs := tr) (f := Ev.d) (e_var 4 rfl))) (Nat.le_trans hto.n (by decide)) (blkOk_by (own := [("_law_event", 5)]) (N := NSD) (sc := defScope s_Lslim_done) (by decide +kernel))
              (fun i x hx _ _ _ _ _ => tgY hx (tg_name 5 sc_Lslim_done.nd)) (fun x hx _ _ _ _ _ => EvE.eq (e_catT (ds := [.int (x.t + by_)]) (e_tupD (ad_cons (e_add (e_ixT (ds := .int x.t :: .str x.k.s :: x.xs.map At.d) (d := .int x.t) (e_var 5 rfl) e_int at_0) (e_ixT (ds := [.str "later", .str n, .int (j : Nat), .int by_]) (d := .int by_) (e_var 1 rfl) e_int at_3)) ad_nil)) (e_slT (ds := .int x.t :: .str x.k.s :: x.xs.map At.d) (kl := some 1) (kh := none) (e_var 5 rfl) (evo_some e_int) evo_none) ?_) ?_)) ?_
            · rw [cut_1]
              have := (ok_fit (hto.ok x hx)).n
              simp
              omega
            · rw [cut_1] <;> rfl
            · show D.lst _ = D.lst _
              rw [List.map_map] <;> rfl
          intro v12 F12 H12 g12 i12 p12
          refine go_end ?_
          have gC := gt (tv' := tv.set j v12) ((((gB.trans g9).trans g10).trans g11).trans g12) i12
          have gdC : Good (mEn (frzO S F H) a l k t vs [.int p.b, .ref k, .ref t] (p.ps.map pI) (tv.set j v12)) [some (Vl (.ref a)), some (Is K (Deed.d (.later n (j : Nat) by_))), some (Is K (.str "later")), some (Vl (.ref l)), some (Is K (trD tr)), none] _ F12 _ := gd11.in_ g12.ff gC.fh (ut i12)
          refine go_ifF (EvT.eq (t_eqs (z := "later") (z' := "part") (e_var 2 rfl) e_str) (by decide +kernel)) gdC fun F13 H13 g13 i13 => ?_
          have gd13 := gdC.next g13 i13
          exact go_end (fin2 F13 _ v12 (tr.map (shift by_)) (gC.trans g13) i13 ((Is K (trD (tr.map (shift by_)))).mono _ _ _ g13.ff p12) (by show (match p.ts[((j : Nat) : Int).toNat]? with | none => p | some t => _) = _; rw [Int.toNat_natCast, htr]))
        | part n i ch =>
          obtain rfl : i = (j : Int) := hj
          refine go_ifF (EvT.eq (t_eqs (z := "part") (z' := "put") (e_var 2 rfl) e_str) (by decide +kernel)) gd8 fun F9 H9 g9 i9 => ?_
          have gd9 := gd8.next g9 i9
          refine go_ifF (EvT.eq (t_eqs (z := "part") (z' := "take") (e_var 2 rfl) e_str) (by decide +kernel)) gd9 fun F10 H10 g10 i10 => ?_
          have gd10 := gd9.next g10 i10
          refine go_ifF (EvT.eq (t_eqs (z := "part") (z' := "later") (e_var 2 rfl) e_str) (by decide +kernel)) gd10 fun F11 H11 g11 i11 => ?_
          have gd11 := gd10.next g11 i11
          refine go_ifT (EvT.eq (t_eqs (z := "part") (z' := "part") (e_var 2 rfl) e_str) (by decide +kernel)) gd11 fun F12 H12 g12 i12 => ?_
          have gd12 := gd11.next g12 i12
          refine go_appM (m := mEn (frzO S F H) a l k t vs [.int p.b, .ref k, .ref t] (p.ps.map pI) tv) (a := t) (vs := tv) (Tv := Is K (trD (tr.filter fun x => decide (laneI x = ch)))) (e2 rfl) (e_lcIf (xs := tr) (fun x => [some (Vl (.ref a)), some (Is K (Deed.d (.part n (j : Nat) ch))), some (Is K (.str "part")), some (Vl (.ref l)), some (Is K (trD tr)), some (Is K x.d)]) [5] (fun x => decide (laneI x = ch)) Ev.d rfl sc_Lslim_done.nd (i_list (e_ls (xs := tr) (f := Ev.d) (e_var 4 rfl))) (Nat.le_trans hto.n (by decide)) (blkOk_by (own := [("_law_event", 5)]) (N := NSD) (sc := defScope s_Lslim_done) (by decide +kernel)) (fun i x hx _ _ _ _ _ => tgY hx (tg_name 5 sc_Lslim_done.nd)) (fun x hx _ _ _ _ _ => t_eqi (e_call (ι := { e : Ev // e.ok = true }) (α := Unit) (v := ()) ⟨x, hto.ok x hx⟩ (fl_lane T) (by exact hr) (by decide) Sub.zero rfl (a_cons (e_var 5 rfl) a_nil) rfl) (e_ixT (ds := [.str "part", .str n, .int (j : Nat), .int ch]) (d := .int ch) (e_var 1 rfl) e_int at_3)) (fun x hx _ _ _ _ _ _ => e_var 5 rfl)) gd12 (fun F H q => q.1.2.2.2) (by omega) fun v13 F13 H13 g13 i13 p13 => ?_
          have gC := gt (tv' := tv ++ [v13]) (((((gB.trans g9).trans g10).trans g11).trans g12).trans g13) i13
          have gdC : Good (mEn (frzO S F H) a l k t vs [.int p.b, .ref k, .ref t] (p.ps.map pI) (tv ++ [v13])) [some (Vl (.ref a)), some (Is K (Deed.d (.part n (j : Nat) ch))), some (Is K (.str "part")), some (Vl (.ref l)), some (Is K (trD tr)), none] _ F13 _ := gd12.in_ g13.ff gC.fh (ut i13)
          refine go_lsetM (m := mEn (frzO S F H) a l k t vs [.int p.b, .ref k, .ref t] (p.ps.map pI) (tv ++ [v13])) (d := t) (acc := tv ++ [v13]) (j := j) (Tv := Is K (trD (tr.filter fun x => !decide (laneI x = ch)))) (e_lcIf (xs := tr) (fun x => [some (Vl (.ref a)), some (Is K (Deed.d (.part n (j : Nat) ch))), some (Is K (.str "part")), some (Vl (.ref l)), some (Is K (trD tr)), some (Is K x.d)]) [5] (fun x => !decide (laneI x = ch)) Ev.d rfl sc_Lslim_done.nd (i_list (e_ls (xs := tr) (f := Ev.d) (e_var 4 rfl))) (Nat.le_trans hto.n (by decide)) (blkOk_by (own := [("_law_event", 5)]) (N := NSD) (sc := defScope s_Lslim_done) (by decide +kernel)) (fun i x hx _ _ _ _ _ => tgY hx (tg_name 5 sc_Lslim_done.nd)) (fun x hx _ _ _ _ _ => t_nei (e_call (ι := { e : Ev // e.ok = true }) (α := Unit) (v := ()) ⟨x, hto.ok x hx⟩ (fl_lane T) (by exact hr) (by decide) Sub.zero rfl (a_cons (e_var 5 rfl) a_nil) rfl) (e_ixT (ds := [.str "part", .str n, .int (j : Nat), .int ch]) (d := .int ch) (e_var 1 rfl) e_int at_3)) (fun x hx _ _ _ _ _ _ => e_var 5 rfl)) (e2 rfl) (ei rfl) gdC (fun F H q => q.1.2.2.2) (by simp; omega) fun v14 F14 H14 g14 i14 p14 => go_end (go_end ?_)
          have gD := gt (tv' := (tv ++ [v13]).set j v14) (gC.trans g14) i14
          refine fin F14 _ _ ((tv ++ [v13]).set j v14) ⟨p.b, p.ps, (p.ts ++ [tr.filter fun e => decide (laneI e = ch)]).set j (tr.filter fun e => !decide (laneI e = ch))⟩ gD (ut i14) rfl rfl ?_ (by show (match p.ts[((j : Nat) : Int).toNat]? with | none => p | some t => _) = _; rw [Int.toNat_natCast, htr])
          show HoldsA (((p.ts ++ [tr.filter fun e => decide (laneI e = ch)]).set j (tr.filter fun e => !decide (laneI e = ch))).map _) _ _
          rw [List.map_set, List.map_append]
          exact holdsA_set (holdsA_snoc1 (htv.mono (ff0.trans (gC.ff.trans g14.ff))) ((Is K (trD (tr.filter fun x => decide (laneI x = ch)))).mono _ _ _ g14.ff p13)) p14
        | _ => exact nomatch hkd
end
end R60

set_option Elab.async false
set_option pp.maxSteps 400
set_option linter.all false
set_option maxRecDepth 100000
set_option maxHeartbeats 4000000
namespace R60
open PySem PySem.Spec PyProof.Rows L2
/-! _law_same of a thing and itself -/
def DOk : Nat → R60.D → Prop
  | 0, .lst _ => False
  | 0, .tup _ => False
  | n + 1, .lst xs => xs.length ≤ 100000 ∧ ∀ x ∈ xs, DOk n x
  | n + 1, .tup xs => xs.length ≤ 100000 ∧ ∀ x ∈ xs, DOk n x
  | _, _ => True
section
variable {w : World} {K : PySem.W.Frag} {mg : Str → Option Value} {base : Heap} {MC TC DC : Addr}
def p_same (K : PySem.W.Frag) (mg : Str → Option Value) (n : Nat) : Sp := spG (ι := { d : R60.D // DOk n d }) (α := Unit) K mg (fun _ => m0) (fun i => [Is K i.1, Is K i.1]) (fun _ => .ok ()) (fun _ _ => Is K (.bl true))
theorem same_at (T : Txt w K mg MC TC DC) (n : Nat) (rec : ∀ n', n = n' + 1 → CalX PG w K mg base (n' + 1) "_law_same" (p_same K mg n')) : CalX PG w K mg base (n + 1) "_law_same" (p_same K mg n) := by
  refine cal_blk T.d_Lsame sc_Lsame bd_Lsame (fun _ => rfl) (fun _ => rfl) ?_
  rintro ⟨d, hd⟩ f cdv A outer s H E hr
  cases d with
  | non =>
    exact b_if (S := Eq true) (t_isN (d := .non) (e_var 1 rfl)) (fun _ => b_retD (v := ()) (e_isN (d := .non) (e_var 0 rfl)) rfl rfl) fun h => nomatch h
  | bl b =>
    refine b_if (S := Eq false) (t_isN (d := .bl b) (e_var 1 rfl)) (fun h => nomatch h) fun _ => ?_
    refine b_if (S := Eq true) (EvT.eq (EvW.toT (w_orB (k' := true) (t_bl (e_isi T.n_isinstance T.n_bool (d := .bl b) (e_var 1 rfl) kb_bool_bool)) fun h => nomatch h)) rfl) (fun _ => ?_) fun h => nomatch h
    exact b_retD (v := ()) (EvE.eq (e_and (e_isi T.n_isinstance T.n_bool (d := .bl b) (e_var 1 rfl) kb_bool_bool) fun _ => e_and (e_isi T.n_isinstance T.n_bool (d := .bl b) (e_var 0 rfl) kb_bool_bool) fun _ => e_one (e_eqb (x := b) (y := b) (e_var 0 rfl) (e_var 1 rfl))) (d' := .bl true) (by simp)) rfl rfl
  | int i =>
    refine b_if (S := Eq false) (t_isN (d := .int i) (e_var 1 rfl)) (fun h => nomatch h) fun _ => ?_
    refine b_if (S := Eq false) (EvT.eq (EvW.toT (w_orB (t_bl (e_isi T.n_isinstance T.n_bool (d := .int i) (e_var 1 rfl) kb_int_bool)) fun _ => w_or1 (t_bl (e_isi T.n_isinstance T.n_bool (d := .int i) (e_var 0 rfl) kb_int_bool)))) rfl) (fun h => nomatch h) fun _ => ?_
    refine b_if (S := Eq true) (EvT.eq (t_bl (e_isi2 T.n_isinstance T.n_int T.n_str (d := .int i) (e_var 1 rfl) kb_int_int kb_int_str)) rfl) (fun _ => ?_) fun h => nomatch h
    exact b_retD (v := ()) (EvE.eq (e_and (e_eqb (x := true) (y := true) (e_isi T.n_isinstance T.n_int (d := .int i) (e_var 0 rfl) kb_int_int) (e_isi T.n_isinstance T.n_int (d := .int i) (e_var 1 rfl) kb_int_int)) fun _ => e_and (e_isi2 T.n_isinstance T.n_int T.n_str (d := .int i) (e_var 0 rfl) kb_int_int kb_int_str) fun _ => e_one (e_eqi (i := i) (j := i) (e_var 0 rfl) (e_var 1 rfl))) (d' := .bl true) (by simp)) rfl rfl
  | str z =>
    refine b_if (S := Eq false) (t_isN (d := .str z) (e_var 1 rfl)) (fun h => nomatch h) fun _ => ?_
    refine b_if (S := Eq false) (EvT.eq (EvW.toT (w_orB (t_bl (e_isi T.n_isinstance T.n_bool (d := .str z) (e_var 1 rfl) kb_str_bool)) fun _ => w_or1 (t_bl (e_isi T.n_isinstance T.n_bool (d := .str z) (e_var 0 rfl) kb_str_bool)))) rfl) (fun h => nomatch h) fun _ => ?_
    refine b_if (S := Eq true) (EvT.eq (t_bl (e_isi2 T.n_isinstance T.n_int T.n_str (d := .str z) (e_var 1 rfl) kb_str_int kb_str_str)) rfl) (fun _ => ?_) fun h => nomatch h
    exact b_retD (v := ()) (EvE.eq (e_and (e_eqb (x := false) (y := false) (e_isi T.n_isinstance T.n_int (d := .str z) (e_var 0 rfl) kb_str_int) (e_isi T.n_isinstance T.n_int (d := .str z) (e_var 1 rfl) kb_str_int)) fun _ => e_and (e_isi2 T.n_isinstance T.n_int T.n_str (d := .str z) (e_var 0 rfl) kb_str_int kb_str_str) fun _ => e_one (e_eqs (z := z) (z' := z) (e_var 0 rfl) (e_var 1 rfl))) (d' := .bl true) (by simp)) rfl rfl
  | lst ds =>
    cases n with
    | zero => exact hd.elim
    | succ n =>
      obtain ⟨hl, hx⟩ : ds.length ≤ 100000 ∧ ∀ x ∈ ds, DOk n x := hd
      refine b_if (S := Eq false) (t_isN (d := .lst ds) (e_var 1 rfl)) (fun h => nomatch h) fun _ => ?_
      refine b_if (S := Eq false) (EvT.eq (EvW.toT (w_orB (t_bl (e_isi T.n_isinstance T.n_bool (d := .lst ds) (e_var 1 rfl) kb_list_bool)) fun _ => w_or1 (t_bl (e_isi T.n_isinstance T.n_bool (d := .lst ds) (e_var 0 rfl) kb_list_bool)))) rfl) (fun h => nomatch h) fun _ => ?_
      refine b_if (S := Eq false) (EvT.eq (t_bl (e_isi2 T.n_isinstance T.n_int T.n_str (d := .lst ds) (e_var 1 rfl) kb_list_int kb_list_str)) rfl) (fun h => nomatch h) fun _ => ?_
      refine b_if (S := Eq false) (EvT.eq (EvW.toT (w_orB (t_neb (x := true) (y := true) (e_isi T.n_isinstance T.n_list (d := .lst ds) (e_var 0 rfl) kb_list_list) (e_isi T.n_isinstance T.n_list (d := .lst ds) (e_var 1 rfl) kb_list_list)) fun _ => w_or1 (t_neb (x := false) (y := false) (e_isi T.n_isinstance T.n_tuple (d := .lst ds) (e_var 0 rfl) kb_list_tuple) (e_isi T.n_isinstance T.n_tuple (d := .lst ds) (e_var 1 rfl) kb_list_tuple)))) (by simp)) (fun h => nomatch h) fun _ => ?_
      refine b_retD (v := ()) (EvE.eq (e_and (e_eqi (e_lenL (ds := ds) T.n_len (e_var 0 rfl)) (e_lenL (ds := ds) T.n_len (e_var 1 rfl))) fun _ => e_one (e_all (bs := (List.range ds.length).map fun _ => true) rfl T.n_all (EvE.eq (e_lcAll (xs := List.range ds.length) (Y := YL (List.range ds.length) fun k => Is K (.int k)) (fun k => [some (Is K (.lst ds)), some (Is K (.lst ds)), some (Is K (.int k))]) [2] (fun _ => .bl true) rfl sc_Lsame.nd (i_range (n := ds.length) T.n_range (e_lenL (ds := ds) T.n_len (e_var 1 rfl)) (by omega)) (by rw [List.length_range]; exact hl) (blkOk_by (own := [("_law_k", 2)]) (N := ["_law_found", "_law_due", "_law_k"]) (sc := defScope s_Lsame) (by decide +kernel))
        (fun i x hx _ _ _ _ _ => tgY hx (tg_name 2 sc_Lsame.nd)) (fun x hx' _ _ _ _ _ => ?_)) ?_))) (d' := .bl true) ?_) rfl rfl
      · have hlt : x < ds.length := List.mem_range.mp hx'
        exact e_call (ι := { d : R60.D // DOk n d }) (α := Unit) (v := ()) ⟨ds[x], hx _ (List.getElem_mem hlt)⟩ (rec n rfl) (by exact hr) (Nat.le_refl _) Sub.zero rfl (a_cons (e_ixL (ds := ds) (e_var 0 rfl) (e_var 2 rfl) (at_nat x (by simp [hlt]))) (a_cons (e_ixL (ds := ds) (e_var 1 rfl) (e_var 2 rfl) (at_nat x (by simp [hlt]))) a_nil)) rfl
      · rw [List.map_map] <;> rfl
      · rw [decide_eq_true rfl, Bool.true_and]
        congr 1
        rw [List.all_map]
        exact List.all_eq_true.mpr fun _ _ => rfl
  | tup ds =>
    cases n with
    | zero => exact hd.elim
    | succ n =>
      obtain ⟨hl, hx⟩ : ds.length ≤ 100000 ∧ ∀ x ∈ ds, DOk n x := hd
      refine b_if (S := Eq false) (t_isN (d := .tup ds) (e_var 1 rfl)) (fun h => nomatch h) fun _ => ?_
      refine b_if (S := Eq false) (EvT.eq (EvW.toT (w_orB (t_bl (e_isi T.n_isinstance T.n_bool (d := .tup ds) (e_var 1 rfl) kb_tuple_bool)) fun _ => w_or1 (t_bl (e_isi T.n_isinstance T.n_bool (d := .tup ds) (e_var 0 rfl) kb_tuple_bool)))) rfl) (fun h => nomatch h) fun _ => ?_
      refine b_if (S := Eq false) (EvT.eq (t_bl (e_isi2 T.n_isinstance T.n_int T.n_str (d := .tup ds) (e_var 1 rfl) kb_tuple_int kb_tuple_str)) rfl) (fun h => nomatch h) fun _ => ?_
      refine b_if (S := Eq false) (EvT.eq (EvW.toT (w_orB (t_neb (x := false) (y := false) (e_isi T.n_isinstance T.n_list (d := .tup ds) (e_var 0 rfl) kb_tuple_list) (e_isi T.n_isinstance T.n_list (d := .tup ds) (e_var 1 rfl) kb_tuple_list)) fun _ => w_or1 (t_neb (x := true) (y := true) (e_isi T.n_isinstance T.n_tuple (d := .tup ds) (e_var 0 rfl) kb_tuple_tuple) (e_isi T.n_isinstance T.n_tuple (d := .tup ds) (e_var 1 rfl) kb_tuple_tuple)))) (by simp)) (fun h => nomatch h) fun _ => ?_
      refine b_retD (v := ()) (EvE.eq (e_and (e_eqi (e_lenT (ds := ds) T.n_len (e_var 0 rfl)) (e_lenT (ds := ds) T.n_len (e_var 1 rfl))) fun _ => e_one (e_all (bs := (List.range ds.length).map fun _ => true) rfl T.n_all (EvE.eq (e_lcAll (xs := List.range ds.length) (Y := YL (List.range ds.length) fun k => Is K (.int k)) (fun k => [some (Is K (.tup ds)), some (Is K (.tup ds)), some (Is K (.int k))]) [2] (fun _ => .bl true) rfl sc_Lsame.nd (i_range (n := ds.length) T.n_range (e_lenT (ds := ds) T.n_len (e_var 1 rfl)) (by omega)) (by rw [List.length_range]; exact hl) (blkOk_by (own := [("_law_k", 2)]) (N := ["_law_found", "_law_due", "_law_k"]) (sc := defScope s_Lsame) (by decide +kernel))
        (fun i x hx _ _ _ _ _ => tgY hx (tg_name 2 sc_Lsame.nd)) (fun x hx' _ _ _ _ _ => ?_)) ?_))) (d' := .bl true) ?_) rfl rfl
      · have hlt : x < ds.length := List.mem_range.mp hx'
        exact e_call (ι := { d : R60.D // DOk n d }) (α := Unit) (v := ()) ⟨ds[x], hx _ (List.getElem_mem hlt)⟩ (rec n rfl) (by exact hr) (Nat.le_refl _) Sub.zero rfl (a_cons (e_ixT (ds := ds) (e_var 0 rfl) (e_var 2 rfl) (at_nat x (by simp [hlt]))) (a_cons (e_ixT (ds := ds) (e_var 1 rfl) (e_var 2 rfl) (at_nat x (by simp [hlt]))) a_nil)) rfl
      · rw [List.map_map] <;> rfl
      · rw [decide_eq_true rfl, Bool.true_and]
        congr 1
        rw [List.all_map]
        exact List.all_eq_true.mpr fun _ _ => rfl
theorem fl_same (T : Txt w K mg MC TC DC) : ∀ n, CalX PG w K mg base (n + 1) "_law_same" (p_same K mg n)
  | 0 => same_at T 0 fun _ h => nomatch h
  | n + 1 => same_at T (n + 1) fun n' h => by
    obtain rfl : n = n' := Nat.succ.inj h
    exact fl_same T n
end
end R60

set_option Elab.async false
set_option pp.maxSteps 400
set_option linter.all false
set_option maxRecDepth 100000
set_option maxHeartbeats 1000000
namespace R60
open PySem PySem.Spec PyProof.Rows L2
/-! ### methods of things that may change; two Mus at once; a lock let go -/
section
variable {X : Cx} {m : Mu} {E : XK} {Γ : Gam} {e o : Expr} {es : List Expr} {P : Ty} {pos p apos : Pos} {ι α : Type} {mi : ι → Mu} {Ts : ι → List Ty} {f : ι → Except Str α} {enc : ι → α → Ty} {k j : Nat} {mn : Str} {C x : Addr}
theorem e_methM (i : ι) (c : MetX X.prog X.w X.K X.mg X.base k C mn (spG X.K X.mg mi Ts f enc)) (hr : Room j X.A) (hk : k ≤ j) (hI : ∀ F H, m.I F H → ∃ dx fs, H x = some (.ins C dx fs) ∧ fs.lookup mn = none) (sb : Sub (mi i) m) {v : α} (ho : f i = .ok v) (h0 : EvE X m Γ o (Vl (.ref x))) {Ps : List Ty} (ha : EvA X m Γ (e :: es) Ps) (hT : Ts i = Vl (.ref x) :: Ps) (hP : enc i v = P := by rfl)
    (hst : starEach (e :: es) X.env = (false, eval e X.env) :: starEach es X.env := by rfl) (hpl : (backTo pos (starEach es X.env)).any (·.1) = false := by rfl) {pl : Sem Bool}
    (ht : eval (.Call (.Attribute o mn apos) (e :: es) [] pos) X.env = (do
      let ov ← eval o X.env
      standAt apos.atName
      let (f, first) ← holding [ov] (getMethod ov mn pl)
      callWith pos f first (backTo pos (starEach (e :: es) X.env)) (backToKw pos (keywordEach [] X.env))) := by rfl) : EvE X m Γ (.Call (.Attribute o mn apos) (e :: es) [] pos) P := by
  subst hP
  exact EvE.of (pe_mx c hr hk passL sem semA hst hpl ht) fun σ F H Q g q => h0 σ F H g _ fun u F1 H1 g1 i1 p1 => by
    obtain rfl : u = .ref x := p1
    obtain ⟨dx, fs, ea, en⟩ := hI F1 H1 i1
    refine ⟨x, dx, fs, rfl, ea, en, ha σ F1 H1 (g.next g1 i1) _ fun vs F2 H2 g2 i2 p2 => ⟨i, F2, g2.fh, sb.i _ _ i2, ?_, ?_⟩⟩
    · rw [List.append_nil, hT]
      exact ⟨rfl, p2⟩
    · rw [ho]
      exact fun v F3 H3 g3 i3 p3 => q v F3 H3 (g1.trans (g2.trans (sb.g _ _ _ _ g3 i2 i3).1)) (sb.g _ _ _ _ g3 i2 i3).2 p3
theorem e_methM0 (i : ι) (c : MetX X.prog X.w X.K X.mg X.base k C mn (spG X.K X.mg mi Ts f enc)) (hr : Room j X.A) (hk : k ≤ j) (hI : ∀ F H, m.I F H → ∃ dx fs, H x = some (.ins C dx fs) ∧ fs.lookup mn = none) (sb : Sub (mi i) m) {v : α} (ho : f i = .ok v) (h0 : EvE X m Γ o (Vl (.ref x))) (hT : Ts i = [Vl (.ref x)]) (hP : enc i v = P := by rfl) {pl : Sem Bool}
    (ht : eval (.Call (.Attribute o mn apos) [] [] pos) X.env = (do
      let ov ← eval o X.env
      standAt apos.atName
      let (f, first) ← holding [ov] (getMethod ov mn pl)
      callWith pos f first (backTo pos (starEach [] X.env)) (backToKw pos (keywordEach [] X.env))) := by rfl) : EvE X m Γ (.Call (.Attribute o mn apos) [] [] pos) P := by
  subst hP
  exact EvE.of (pe_mx0 c hr hk passL sem ht) fun σ F H Q g q => h0 σ F H g _ fun u F1 H1 g1 i1 p1 => by
    obtain rfl : u = .ref x := p1
    obtain ⟨dx, fs, ea, en⟩ := hI F1 H1 i1
    refine ⟨x, dx, fs, rfl, ea, en, ⟨i, F1, g1.fh, sb.i _ _ i1, ?_, ?_⟩⟩
    · rw [hT]
      exact ⟨rfl, trivial⟩
    · rw [ho]
      exact fun v F3 H3 g3 i3 p3 => q v F3 H3 (g1.trans (sb.g _ _ _ _ g3 i1 i3).1) (sb.g _ _ _ _ g3 i1 i3).2 p3
end
def mAnd (m1 m2 : Mu) : Mu where
  U b := m1.U b ∨ m2.U b
  I F H := m1.I F H ∧ m2.I F H
  st := fun F H F' H' g h => ⟨m1.st _ _ _ _ g h.1, m2.st _ _ _ _ g h.2⟩
  up := fun F H b h hb => hb.elim (m1.up _ _ _ h.1) (m2.up _ _ _ h.2)
  loc := fun F H H' q h => ⟨m1.loc _ _ _ (fun b hb => q b (.inl hb)) h.1, m2.loc _ _ _ (fun b hb => q b (.inr hb)) h.2⟩
  add := fun F H p o hp f0 h => ⟨m1.add _ _ _ _ (fun z => hp (.inl z)) f0 h.1, m2.add _ _ _ _ (fun z => hp (.inr z)) f0 h.2⟩
/-- a locked thing -/
def mFz (F0 : Hp) (r : Addr) (z : HO) : Mu where
  U b := b = r
  I F H := H r = some z ∧ F r = none ∧ Ex F0 F
  st := fun F H F' H' g ⟨h1, h2, h3⟩ => ⟨g.same _ _ h1, g.nw _ h2 (by rw [h1]; simp), h3.trans g.ff⟩
  up := fun F H b ⟨h1, _⟩ hb => by rw [hb, h1]; simp
  loc := fun F H H' q ⟨h1, h2⟩ => ⟨(q _ rfl).trans h1, h2⟩
  add := fun F H p o hp f0 ⟨h1, h2, h3⟩ => ⟨h1, by rw [upd_ne (fun z => hp z.symm)]; exact h2, h3.trans fun b u z => by rw [upd_ne (ne_of_none z f0)]; exact z⟩
theorem Sub.fz {F0 : Hp} {r : Addr} {z : HO} {m : Mu} (h : ¬ m.U r) : Sub m (mAnd (mFz F0 r z) m) := ⟨fun _ _ h => h.2, fun F H F' H' g i i' => by
  refine ⟨⟨g.ff, g.fh, fun b o n => g.hh b o fun y => n (.inr y), g.dm, g.nw⟩, ⟨g.hh _ _ h i.1.1, g.nw _ i.1.2.1 (by rw [i.1.1]; simp), i.1.2.2.trans g.ff⟩, i'⟩⟩
theorem Gr.unlock {U : Addr → Prop} {F1 H1 F' H' : Hp} {r : Addr} {u z : HO} (h1 : F1 r = some u) (ex : Ex F1 H1) (G : Gr (fun b => b = r ∨ U b) (rmF F1 r) (upd H1 r z) F' H') (fr : F' r = none) : Gr U F1 H1 (upd F' r u) (upd H' r u) := by
  refine ⟨fun c x e => ?_, fun c x e => ?_, fun c x n e => ?_, fun c e => ?_, fun c e n => ?_⟩
  · by_cases hc : c = r
    · rw [hc, h1] at e
      rw [hc, upd_same]
      exact e
    · rw [upd_ne hc]
      exact G.ff c x (by rw [rmF_ne hc]; exact e)
  · by_cases hc : c = r
    · rw [hc, upd_same] at e
      rw [hc, upd_same]
      exact e
    · rw [upd_ne hc] at e
      rw [upd_ne hc]
      exact G.fh c x e
  · by_cases hc : c = r
    · rw [hc, ex _ _ h1] at e
      rw [hc, upd_same]
      exact e
    · rw [upd_ne hc]
      exact G.hh c x (fun y => y.elim hc n) (by rw [upd_ne hc]; exact e)
  · by_cases hc : c = r
    · rw [hc, upd_same] at e
      cases e
    · rw [upd_ne hc] at e
      have := G.dm c e
      rw [upd_ne hc] at this
      exact this
  · have hc : c ≠ r := fun y => by
      rw [y, h1] at e
      cases e
    rw [upd_ne hc]
    exact G.nw c (by rw [rmF_ne hc]; exact e) (by rw [upd_ne hc]; exact n)
theorem KvT.imp {κ : Type} {F F' : Hp} : ∀ {kts : List (κ × Ty)} {vs : List (κ × V)}, KvT kts vs F → (∀ q ∈ kts, ∀ v, q.2.p v F → q.2.p v F') → KvT kts vs F'
  | [], [], _, _ => trivial
  | (k, T) :: r, (k', v) :: r', h, i => ⟨h.1, i _ List.mem_cons_self v h.2.1, KvT.imp h.2.2 fun q hq => i q (List.mem_cons_of_mem _ hq)⟩
theorem HoldsA.imp {F F' : Hp} : ∀ {Ts : List Ty} {vs : List V}, HoldsA Ts vs F → (∀ T ∈ Ts, ∀ v, T.p v F → T.p v F') → HoldsA Ts vs F'
  | [], [], _, _ => trivial
  | T :: r, v :: r', h, i => ⟨i _ List.mem_cons_self v h.1, HoldsA.imp h.2 fun q hq => i q (List.mem_cons_of_mem _ hq)⟩
end R60

set_option Elab.async false
set_option pp.maxSteps 400
set_option linter.all false
set_option maxRecDepth 100000
set_option maxHeartbeats 4000000
namespace R60
open PySem PySem.Spec PyProof.Rows L2
/-! the program's tapes while a law's book is taken out -/
noncomputable def nrm (p : Tp) : Tp := ⟨p.b, srtP p.ps, p.ts⟩
noncomputable def nrmB (b : Bk) : Bk := b.map fun q => (q.1, nrm q.2)
theorem names_nrm {b : Bk} : namesOf (nrmB b) = namesOf b := by
  unfold nrmB namesOf
  rw [List.map_map] <;> rfl
theorem atK_nrm {b : Bk} {n : Str} : atK (nrmB b) n = (atK b n).map nrm := by
  unfold nrmB atK
  induction b with
  | nil => rfl
  | cons q r ih =>
    by_cases h : q.1 = n
    · simp [h]
    · simpa [h] using ih
section
variable {K : PySem.W.Frag} {MC TC : Addr} {F : Hp} {r : Addr} {rs : List (L2.Key × V)}
/-- r holds a dict of the law's tapes -/
structure LkR (F : Hp) (r : Addr) (rs : List (L2.Key × V)) : Prop where
  h : F r = some (.dK rs)
  x : ∃ n c xs, (Sum.inr n, V.ref c) ∈ rs ∧ F c = some (.lst xs)
theorem LkR.kn (h : LkR F r rs) {ps : List (Int × Int)} {u : V} (p : (KnT K ps).p u F) : (KnT K ps).p u (rmF F r) := kn_rm h.h (by
  obtain ⟨n, c, _, h1, _⟩ := h.x
  exact ⟨n, _, h1⟩) p
theorem rm_ne {c : Addr} {u : HO} (h : LkR F r rs) (e : F c = some u) (hu : ∀ q, u ≠ .dK q) : rmF F r c = some u := by
  rw [rmF_ne fun z => by
    rw [z, h.h] at e
    exact hu rs (Option.some.inj e).symm]
  exact e
theorem LkR.mp (h : LkR F r rs) {b : Int} {ps : List (Int × Int)} {u : V} (p : (MapT K MC b ps).p u F) : (MapT K MC b ps).p u (rmF F r) := by
  obtain ⟨a, dx, fs, rfl, h1, h2⟩ := p
  refine ⟨a, dx, fs, rfl, rm_ne h h1 (fun q z => nomatch z), h2.imp fun q hq v hv => ?_⟩
  rcases List.mem_cons.mp hq with rfl | hq
  · exact das_rm h.h hv
  · rw [List.mem_singleton.mp hq] at hv ⊢
    exact h.kn hv
theorem LkR.tp (h : LkR F r rs) {t : Tp} {u : V} (p : (TapeT K MC TC t).p u F) : (TapeT K MC TC t).p u (rmF F r) := by
  obtain ⟨a, dx, fs, rfl, h1, h2⟩ := p
  refine ⟨a, dx, fs, rfl, rm_ne h h1 (fun q z => nomatch z), h2.imp fun q hq v hv => ?_⟩
  rcases List.mem_cons.mp hq with rfl | hq
  · exact h.mp hv
  · rw [List.mem_singleton.mp hq] at hv ⊢
    exact das_rm h.h hv
theorem LkR.bk (h : LkR F r rs) {b : Bk} {u : V} (p : (BookT K MC TC b).p u F) : (BookT K MC TC b).p u (rmF F r) := by
  obtain ⟨a, vs, rfl, h1, h2⟩ := p
  have hne : a ≠ r := fun z => by
    rw [z, h.h] at h1
    cases h1
    obtain ⟨n, c, xs, hm, hc⟩ := h.x
    obtain ⟨i, hi⟩ := List.getElem?_of_mem hm
    obtain ⟨U, hU, pU⟩ := h2.get hi
    obtain ⟨_, t, _, _, rfl⟩ := tk_get hU
    obtain ⟨a', dx, fs, e, h3, _⟩ := pU
    cases e
    rw [hc] at h3
    cases h3
  refine ⟨a, vs, rfl, by rw [rmF_ne hne]; exact h1, h2.imp fun q hq v hv => ?_⟩
  unfold tk at hq
  obtain ⟨t, _, rfl⟩ := List.mem_map.mp hq
  exact h.tp hv
theorem LkR.en (h : LkR F r rs) {e : Deed × Bk} {u : V} (p : (entT K MC TC e).p u F) : (entT K MC TC e).p u (rmF F r) := by
  obtain ⟨a, vs, rfl, h1, h2⟩ := p
  refine ⟨a, vs, rfl, ?_, h2.imp fun T hT v hv => ?_⟩
  · rcases h1 with (h1 | ⟨o, h1⟩) | h1
    · exact .inl (.inl (rm_ne h h1 fun q z => nomatch z))
    · exact .inl (.inr ⟨o, rm_ne h h1 fun q z => nomatch z⟩)
    · exact .inr h1
  · rcases List.mem_cons.mp hT with rfl | hT
    · exact das_rm h.h hv
    · rw [List.mem_singleton.mp hT] at hv ⊢
      exact h.bk hv
theorem DkI.rm {DC x pl al : Addr} {d : Dk} {u : Int} {H : Hp} {z : HO} (h : LkR F r rs) (i : DkI K MC TC DC x pl al d u F H) : DkI K MC TC DC x pl al d u (rmF F r) (upd H r z) := by
  obtain ⟨dx, bv, ev, ps, as, h1, h2, h3, ⟨f1, f2, f3⟩, ne, t1, t2, t3⟩ := i
  have nr : ∀ {c : Addr}, F c = none → c ≠ r := fun {c} e z => by
    rw [z, h.h] at e
    cases e
  refine ⟨dx, bv, ev, ps, as, by rw [upd_ne (nr f1)]; exact h1, by rw [upd_ne (nr f2)]; exact h2, by rw [upd_ne (nr f3)]; exact h3, ⟨by rw [rmF_ne (nr f1)]; exact f1, by rw [rmF_ne (nr f2)]; exact f2, by rw [rmF_ne (nr f3)]; exact f3⟩, ne, h.bk t1, t2.imp fun T hT v hv => ?_, t3.imp fun T hT v hv => ?_⟩
  · obtain ⟨e, _, rfl⟩ := List.mem_map.mp hT
    exact h.en hv
  · obtain ⟨e, _, rfl⟩ := List.mem_map.mp hT
    exact h.en hv
theorem DkI.back {DC x pl al : Addr} {d : Dk} {u : Int} {F H : Hp} {r : Addr} {z : HO} (i : DkI K MC TC DC x pl al d u F H) (fr : F r = none) (hr : ∀ c, c = x ∨ c = pl ∨ c = al → c ≠ r) : DkI K MC TC DC x pl al d u (upd F r z) (upd H r z) := by
  obtain ⟨dx, bv, ev, ps, as, h1, h2, h3, ⟨f1, f2, f3⟩, ne, t1, t2, t3⟩ := i
  have ex : Ex F (upd F r z) := fun c u e => by rw [upd_ne (ne_of_none e fr)]; exact e
  exact ⟨dx, bv, ev, ps, as, by rw [upd_ne (hr _ (.inl rfl))]; exact h1, by rw [upd_ne (hr _ (.inr (.inl rfl)))]; exact h2, by rw [upd_ne (hr _ (.inr (.inr rfl)))]; exact h3, ⟨by rw [upd_ne (hr _ (.inl rfl))]; exact f1, by rw [upd_ne (hr _ (.inr (.inl rfl)))]; exact f2, by rw [upd_ne (hr _ (.inr (.inr rfl)))]; exact f3⟩, ne, (BookT K MC TC d.b).mono _ _ _ ex t1, t2.mono ex, t3.mono ex⟩
end
theorem srtP_srt {ps : List (Int × Int)} (hd : (ps.map (·.1)).Nodup) : srtP (srtP ps) = srtP ps := by
  refine srtP_eq (List.Perm.refl _) ?_
  rw [← pairs_srt hd, List.pairwise_map]
  refine List.Pairwise.imp ?_ (srtI_le (ps.map (·.1)))
  intro a b hab h
  rcases h with h | ⟨h1, h2⟩
  · have h : b < a := h
    omega
  · have h1 : b = a := h1
    subst h1
    exact absurd h2 (Int.lt_irrefl _)
theorem dok_leaf {n : Nat} {d : R60.D} (h : match d with | .lst _ => False | .tup _ => False | _ => True) : DOk n d := by
  cases d <;> first
    | (cases n <;> trivial)
    | exact h.elim
theorem dok_ev {n : Nat} {e : Ev} (h : e.xs.length ≤ 10) : DOk (n + 1) e.d := by
  refine ⟨by simp; omega, fun x hx => ?_⟩
  rcases List.mem_cons.mp hx with rfl | hx
  · exact dok_leaf trivial
  · rcases List.mem_cons.mp hx with rfl | hx
    · exact dok_leaf trivial
    · obtain ⟨a, _, rfl⟩ := List.mem_map.mp hx
      cases a <;> exact dok_leaf trivial
theorem dok_trs {ts : List Tr} (hn : ts.length ≤ 1000) (h : ∀ t ∈ ts, TrOk t) : DOk 3 (trsD ts) := by
  refine ⟨by rw [List.length_map]; omega, fun x hx => ?_⟩
  obtain ⟨t, ht, rfl⟩ := List.mem_map.mp hx
  have hto := h t ht
  have := hto.n
  refine ⟨by rw [List.length_map]; omega, fun y hy => ?_⟩
  obtain ⟨e, he, rfl⟩ := List.mem_map.mp hy
  exact dok_ev (ok_fit (hto.ok e he)).n
theorem dok_pairs {qs : List (Int × Int)} (hn : qs.length ≤ 1000) : DOk 3 (pairsD qs) := by
  refine ⟨by rw [List.length_map]; omega, fun x hx => ?_⟩
  obtain ⟨t, ht, rfl⟩ := List.mem_map.mp hx
  refine ⟨by simp, fun y hy => ?_⟩
  rcases List.mem_cons.mp hy with rfl | hy
  · exact dok_leaf trivial
  · rw [List.mem_singleton.mp hy]
    exact dok_leaf trivial
section
variable {w : World} {K : PySem.W.Frag} {mg : Str → Option Value} {base : Heap} {MC TC DC : Addr}
structure BkN (b : Bk) : Prop where
  ok : BkOk b
  d : (b.map (·.1)).Nodup
  n : b.length ≤ 6
theorem dk_ins {i : DkR} {n : Str} (h : ([("book" : Str), "elder", "past", "ahead", "under"].all fun f => !(n == f)) = true) : ∀ F H, (mDr K MC TC DC i).I F H → ∃ dx fs, H i.x = some (.ins DC dx fs) ∧ fs.lookup n = none := fun F H ⟨dx, bv, ev, ps, as, h1, _⟩ => ⟨dx, _, h1, lk_none h⟩
def p_deck_so (K : PySem.W.Frag) (MC TC DC : Addr) : Sp := fun vs H Q _ => ∃ (i : DkR) (b : Bk) (F : Hp) (v : V), vs = [.ref i.x, v] ∧ Ex F H ∧ (mDr K MC TC DC i).I F H ∧ (LbT K b).p v F ∧ BkN b ∧ i.d.b = nrmB b ∧
  ∀ F' H', Gr (mDr K MC TC DC i).U F H F' H' → (mDr K MC TC DC i).I F' H' → Q (.bl true) H'
abbrev NDS : List Str := ["_law_deck", "_law_book", "_law_name", "_law_tape", "_law_due"]
theorem fl_deck_so (T : Txt w K mg MC TC DC) : CalX PG w K mg base 6 "_law_deck_so" (p_deck_so K MC TC DC) := by
  refine cal_of T.d_Ldeck_so sc_Ldeck_so bd_Ldeck_so (fun vs H Q E ⟨i, b, F, v, h, _⟩ => by rw [h] <;> rfl) ?_
  intro f cdv A outer s H us Q E hr h
  obtain ⟨i, b, F, v, rfl, ex, iI, pv, hb, hbb, q⟩ := h
  have hnl : (namesOf b).length = b.length := by unfold namesOf; rw [List.length_map]
  have hb6 := hb.n
  have hdl : i.d.b.length = b.length := by rw [hbb]; unfold nrmB; rw [List.length_map]
  refine ⟨_, semS, ?_⟩
  have gd : Good (mDr K MC TC DC i) [some (Vl (.ref i.x)), some (LbT K b), none, none, none] [some (.ref i.x), some v, none, none, none] F H := ⟨ex, iI, HoldsA.holds (Ts := [Vl (.ref i.x), LbT K b]) (vs := [.ref i.x, v]) (k := 3) ⟨rfl, pv, trivial⟩⟩
  have hkeys : (tk b (LtT K)).map (fun kt => keyD kt.1) = (namesOf b).map D.str := by
    unfold tk namesOf
    rw [List.map_map, List.map_map] <;> rfl
  refine go_ifF (EvT.eq (t_notB (t_bl (e_call (ι := { d : R60.D // DOk 2 d }) (α := Unit) (v := ()) ⟨.lst [.lst ((srtS (namesOf b)).map .str), .int (b.length : Nat), .bl false], ?_⟩ (fl_same T 2) hr (by decide) Sub.zero rfl (a_cons (e_lstD (ad_cons (EvE.eq (e_methM0 (ι := { i : DkR // i.d.b.length < 64 }) (α := Unit) (v := ()) ⟨i, by omega⟩ (f_Deck_names T) hr (by decide) (dk_ins (by decide +kernel)) Sub.refl rfl (e_var 0 rfl) rfl) ?_) (ad_cons (EvE.eq (e_lenOwn (ι := DkR) (cnt := fun i => i.d.b.length) i (f_Deck_len T) hr (by decide) (by show i.d.b.length ≤ 1000; omega) Sub.refl rfl (fun F H ⟨dx, bv, ev, ps, as, h1, _⟩ => ⟨dx, _, h1⟩) T.n_len (e_var 0 rfl)) (by show D.int _ = D.int _; rw [hdl])) (ad_cons (e_methM0 (ι := DkR) (α := Unit) (v := ()) i (f_Deck_busy T) hr (by decide) (dk_ins (by decide +kernel)) Sub.refl rfl (e_var 0 rfl) rfl) ad_nil)))) (a_cons (e_lstD (ad_cons (e_sortS (ns := namesOf b) T.n_sorted (by omega) (EvE.eq (e_listD (kts := tk b (LtT K)) rfl T.n_list (e_var 1 rfl)) (by rw [hkeys]))) (ad_cons (EvE.eq (e_lenD (kts := tk b (LtT K)) T.n_len (e_var 1 rfl)) ?_) (ad_cons e_bl ad_nil)))) a_nil)) rfl))) rfl) gd fun F1 H1 g1 i1 => ?_
  · refine ⟨by simp, fun x hx => ?_⟩
    rcases List.mem_cons.mp hx with rfl | hx
    · refine ⟨by rw [List.length_map, show (srtS (namesOf b)).length = (namesOf b).length from (srtBy_perm (namesOf b)).length_eq]; omega, fun y hy => ?_⟩
      obtain ⟨z, _, rfl⟩ := List.mem_map.mp hy
      exact dok_leaf trivial
    · rcases List.mem_cons.mp hx with rfl | hx
      · exact dok_leaf trivial
      · rw [List.mem_singleton.mp hx]
        exact dok_leaf trivial
  · show D.lst _ = D.lst _
    rw [hbb, names_nrm]
  · show D.int _ = D.int _
    unfold tk
    rw [List.length_map]
  · have gd1 := gd.next g1 i1
    refine go_forD (kts := tk b (LtT K)) (passes_of rfl) rfl 1 rfl (⟨gd1.ex, trivial, gd1.h⟩ : Good m0 _ _ _ _) fun r vs hr0 hkv hs1 od => ?_
    have hlv : vs.length = b.length := by rw [hkv.len]; unfold tk; rw [List.length_map]
    have nU : ¬ (mDr K MC TC DC i).U r := fun z => by
      obtain ⟨dx, bv, ev, ps, as, _, _, _, ⟨f1, f2, f3⟩, _⟩ := i1
      rcases z with z | z | z
      · rw [z, f1] at hr0; cases hr0
      · rw [z, f2] at hr0; cases hr0
      · rw [z, f3] at hr0; cases hr0
    have fin : ∀ σ' F' H', σ'[0]? = some (some (.ref i.x)) → σ'[1]? = some (some (.ref r)) → Gr (mDr K MC TC DC i).U F1 H1 F' H' → (mDr K MC TC DC i).I F' H' → tSemS (cxD PG w K mg base "_law_deck_so" s_Ldeck_so NDS f cdv A outer s H E) [.Return (some (.Constant (.bool true) 0 ⟨787, 11, 787, 15⟩)) ⟨787, 4, 787, 15⟩] { nx := fun _ H' => Q .non H', rt := Q } σ' H' := fun σ' F' H' e0 e1 g' i' => by
      have gd' : Good (mDr K MC TC DC i) [some (Vl (.ref i.x)), some (Vl (.ref r)), none, none, none] σ' F' H' := ⟨g'.fh, i', fun j S hj => by
        match j, hj with
        | 0, hj => cases hj; exact ⟨_, e0, rfl⟩
        | 1, hj => cases hj; exact ⟨_, e1, rfl⟩
        | 2, hj => cases hj
        | 3, hj => cases hj
        | 4, hj => cases hj
        | j + 5, hj => simp at hj⟩
      refine go_ret (P := Is K (.bl true)) e_bl gd' fun v9 F9 H9 g9 i9 p9 => ?_
      rw [show v9 = .bl true from DAt.b p9]
      exact q F9 H9 (g1.trans (g'.trans g9)) i9
    obtain ⟨e0, hs0⟩ : ∃ e0 : True, ([some (V.ref i.x), some v, none, none, none] : L2.St)[0]? = some (some (.ref i.x)) := ⟨trivial, rfl⟩
    cases b with
    | nil =>
      have : vs = [] := by
        cases vs with
        | nil => rfl
        | cons _ _ => simp at hlv
      subst this
      refine ⟨fun n σ' H' => n = 0 ∧ σ' = [some (.ref i.x), some v, none, none, none] ∧ H' = upd H1 r (.frz od (.dK [])), ⟨rfl, rfl, rfl⟩, ?_⟩
      rintro n σ' H' ⟨rfl, rfl, rfl⟩
      refine ⟨rfl, upd_same, fun _ => ?_, Nat.le_refl _, fun ky u hu => by simp at hu⟩
      have he : upd (upd H1 r (.frz od (.dK []))) r (.dK []) = H1 := by
        rw [upd_upd]
        funext c
        by_cases hc : c = r
        · rw [hc, upd_same, gd1.ex _ _ hr0]
        · rw [upd_ne hc]
      rw [he]
      exact fin _ F1 H1 rfl hs1 (Gr.refl gd1.ex) i1
    | cons b0 bt =>
      have hlk : LkR F1 r vs := by
        match vs, hkv, hlv with
        | (k0, v0) :: vt, hkv, _ =>
          obtain ⟨h1, h2, _⟩ := hkv
          obtain ⟨c, xs, rfl, h3, _⟩ := h2
          exact ⟨hr0, b0.1, c, xs, by rw [← h1]; exact List.mem_cons_self, h3⟩
      refine ⟨fun n σ' H' => ∃ F', n ≤ vs.length ∧ σ'[0]? = some (some (.ref i.x)) ∧ σ'[1]? = some (some (.ref r)) ∧ Gr (fun c => c = r ∨ (mDr K MC TC DC i).U c) (rmF F1 r) (upd H1 r (.frz od (.dK vs))) F' H' ∧ (mAnd (mFz (rmF F1 r) r (.frz od (.dK vs))) (mDr K MC TC DC i)).I F' H', ?_, ?_⟩
      · exact ⟨rmF F1 r, Nat.zero_le _, rfl, hs1, Gr.refl (ex_upd (rmF_ex.trans gd1.ex) rmF_at), ⟨upd_same, rmF_at, Same.refl _⟩, DkI.rm hlk i1⟩
      · rintro n σ' H' ⟨F', hn, e0, e1, G, iA⟩
        refine ⟨by rw [e1, hs1], iA.1.1, fun hl => ?_, hn, fun ky u hku => ?_⟩
        · refine fin σ' _ _ e0 e1 (Gr.unlock hr0 gd1.ex G iA.1.2.1) (DkI.back iA.2 iA.1.2.1 fun c hc e => nU (by rw [← e]; exact hc))
        · obtain ⟨U, hU, pu⟩ := hkv.get hku
          obtain ⟨nm, p, hbi, rfl, rfl⟩ := tk_get hU
          have hmem := List.mem_of_getElem? hbi
          have hpo : TpOk p := hb.ok _ hmem
          have pu' : (LtT K p).p u (rmF F1 r) := lt_rm hr0 ⟨nm, u, List.mem_of_getElem? hku⟩ pu
          have hval : valV vs (.inr nm) = some u := val_nodup (keys_nodup hb.d hkv) (List.mem_of_getElem? hku)
          have hat : tapeOf i.d.b nm = .ok (nrm p) := by
            unfold tapeOf
            rw [hbb, atK_nrm, atK_nodup hb.d hmem] <;> rfl
          have gd2 : Good (mAnd (mFz (rmF F1 r) r (.frz od (.dK vs))) (mDr K MC TC DC i)) [some (Vl (.ref i.x)), some (Vl (.ref r)), none, none, none] σ' F' H' := ⟨G.fh, iA, fun j S hj => by
            match j, hj with
            | 0, hj => cases hj; exact ⟨_, e0, rfl⟩
            | 1, hj => cases hj; exact ⟨_, e1, rfl⟩
            | 2, hj => cases hj
            | 3, hj => cases hj
            | 4, hj => cases hj
            | j + 5, hj => simp at hj⟩
          refine go_tg (T := Is K (.str nm)) gd2 (.str .nil) (tg_name 2 sc_Ldeck_so.nd) fun σ3 F3 H3 g3 gd3 => ?_
          refine go_set (m := mAnd (mFz (rmF F1 r) r (.frz od (.dK vs))) (mDr K MC TC DC i)) 3 (e_methM (ι := DkR × Str) (α := Tp) (v := nrm p) (i, nm) (f_Deck_tape T) hr (by decide) (fun F H h => dk_ins (by decide +kernel) F H h.2) (Sub.fz nU) hat (e_var 0 rfl) (a_cons (e_var 2 rfl) a_nil) rfl) gd3 (fun v4 F4 H4 g4 i4 p4 gd4 => ?_) sc_Ldeck_so.nd
          have ebk : ∀ {Γ : Gam} {p1 p2 p3 : Pos}, Γ[1]? = some (some (Vl (.ref r))) → Γ[2]? = some (some (Is K (.str nm))) → EvE (cxD PG w K mg base "_law_deck_so" s_Ldeck_so NDS f cdv A outer s H E) (mAnd (mFz (rmF F1 r) r (.frz od (.dK vs))) (mDr K MC TC DC i)) Γ (.Subscript (.Name "_law_book" p1) (.Name "_law_name" p2) p3) (LtT K p) := fun h1 h2 => e_dgetF (r := r) (ky := .inr nm) hr (e_var 1 h1) (e_var 2 h2) fun F H q => ⟨vs, u, .inr ⟨od, q.1.1⟩, hval, (LtT K p).mono _ _ _ q.1.2.2 pu'⟩
          refine go_set (m := mAnd (mFz (rmF F1 r) r (.frz od (.dK vs))) (mDr K MC TC DC i)) 4 (e_lstD (ad_cons (e_ixAt (k := 0) (ebk rfl rfl) e_int rfl) (ad_cons (e_call (ι := { ps : List (Int × Int) // Pcs ps }) (α := Unit) (v := ()) ⟨p.ps, hpo.ps⟩ (fl_pairs T) hr (by decide) Sub.zero rfl (a_cons (e_ixAt (k := 1) (ebk rfl rfl) e_int rfl) a_nil) rfl) (ad_cons (e_ixAt (k := 2) (ebk rfl rfl) e_int rfl) ad_nil)))) gd4 (fun v5 F5 H5 g5 i5 p5 gd5 => ?_) sc_Ldeck_so.nd
          have hn6 := hpo.n
          refine go_ifF (m := mAnd (mFz (rmF F1 r) r (.frz od (.dK vs))) (mDr K MC TC DC i)) (EvT.eq (t_notB (t_bl (e_call (ι := { d : R60.D // DOk 4 d }) (α := Unit) (v := ()) ⟨.lst [.int p.b, pairsD (srtP p.ps), trsD p.ts], ?_⟩ (fl_same T 4) hr (by decide) Sub.zero rfl (a_cons (e_lstD (ad_cons (e_meth0 (ι := Tp) (nrm p) (f_Tape_beat T) hr (by decide) (insAt_of rfl) Sub.zero rfl (e_var 3 rfl) rfl) (ad_cons (EvE.eq (e_meth0 (ι := Tp) (nrm p) (f_Tape_paces T) hr (by decide) (insAt_of rfl) Sub.zero rfl (e_var 3 rfl) rfl) ?_) (ad_cons (e_meth0 (ι := { p : Tp // p.ts.length ≤ 1000 }) ⟨nrm p, by show p.ts.length ≤ 1000; omega⟩ (f_Tape_tracks T) hr (by decide) (insAt_of rfl) Sub.zero rfl (e_var 3 rfl) rfl) ad_nil)))) (a_cons (e_var 4 rfl) a_nil)) rfl))) rfl) gd5 fun F6 H6 g6 i6 => go_end ?_
          · refine ⟨by simp, fun x hx => ?_⟩
            rcases List.mem_cons.mp hx with rfl | hx
            · exact dok_leaf trivial
            · rcases List.mem_cons.mp hx with rfl | hx
              · exact dok_pairs (by rw [show (srtP p.ps).length = p.ps.length from (srtBy_perm p.ps).length_eq]; exact Nat.le_trans hpo.ps.n (by decide))
              · rw [List.mem_singleton.mp hx]
                exact dok_trs (by omega) hpo.ts
          · show pairsD (srtP (srtP p.ps)) = _
            rw [srtP_srt hpo.ps.d]
          · obtain ⟨w0, s0, rfl⟩ := gd5.h 0 _ rfl
            obtain ⟨w1, s1, rfl⟩ := gd5.h 1 _ rfl
            refine ⟨F6, ?_, s0, s1, G.trans ((g3.weak.trans g4).trans (g5.trans g6)), i6⟩
            have := (List.getElem?_eq_some_iff.mp hbi).1
            omega
end
end R60

set_option Elab.async false
set_option linter.all false
set_option maxRecDepth 100000
set_option maxHeartbeats 1000000
namespace R60
open PySem
/-! ### the plain law: what the program does to a book is what the law does to its own -/
structure LawB (b : Bk) : Prop where
  n : BkN b
  nm : ∀ q ∈ b, q.1.length ≤ 8
theorem LawB.lk {b : Bk} (h : LawB b) : LkOk b := ⟨h.n.ok, h.nm, h.n.n⟩
theorem srtP_nil : srtP [] = [] := srtP_eq (List.Perm.refl _) .nil
theorem srtP_pw {ps : List (Int × Int)} (hd : (ps.map (·.1)).Nodup) : (srtP ps).Pairwise fun a b => ¬ ltPair b a := by
  rw [← pairs_srt hd, List.pairwise_map]
  refine List.Pairwise.imp ?_ (srtI_le (ps.map (·.1)))
  intro a b hab h
  rcases h with h | ⟨h1, h2⟩
  · have h : b < a := h
    omega
  · have h1 : b = a := h1
    subst h1
    exact absurd h2 (Int.lt_irrefl _)
theorem srtP_congr {ps qs : List (Int × Int)} (hd : (qs.map (·.1)).Nodup) (p : ps.Perm qs) : srtP ps = srtP qs := srtP_eq ((srtBy_perm qs).trans p.symm) (srtP_pw hd)
theorem any_perm {α : Type} {xs ys : List α} {f : α → Bool} (p : xs.Perm ys) : xs.any f = ys.any f := by
  have : ∀ {xs ys : List α}, xs.Perm ys → xs.any f = true → ys.any f = true := fun p h => by
    obtain ⟨x, hx, e⟩ := List.any_eq_true.mp h
    exact List.any_eq_true.mpr ⟨x, p.mem_iff.mp hx, e⟩
  cases h : xs.any f with
  | true => exact (this p h).symm
  | false =>
    cases h2 : ys.any f with
    | true => rw [this p.symm h2] at h; cases h
    | false => rfl
theorem setK_perm {ps qs : List (Int × Int)} {t c : Int} (p : ps.Perm qs) : (setK ps t c).Perm (setK qs t c) := by
  unfold setK
  rw [any_perm p]
  split
  · exact p.map _
  · exact p.append_right _
theorem atK_perm {ps qs : List (Int × Int)} {t : Int} (p : ps.Perm qs) : (atK ps t).isSome = (atK qs t).isSome := by
  rw [atK_any, atK_any, any_perm p]
theorem nrm_ok {p : Tp} (h : TpOk p) : TpOk (nrm p) := ⟨h.b, h.ps.srt, h.n, h.ts⟩
theorem nrmB_ok {b : Bk} (h : BkOk b) : BkOk (nrmB b) := fun q hq => by
  obtain ⟨x, hx, rfl⟩ := List.mem_map.mp hq
  exact nrm_ok (h x hx)
theorem nrm_set {b : Bk} {n : Str} {p : Tp} : nrmB (setK b n p) = setK (nrmB b) n (nrm p) := by
  unfold setK nrmB
  have e : ((b.map fun q => (q.1, nrm q.2)).any fun kv => decide (kv.1 = n)) = b.any fun kv => decide (kv.1 = n) := by
    rw [List.any_map]
    rfl
  rw [e]
  split
  · rw [List.map_map, List.map_map]
    refine List.map_congr_left fun q _ => ?_
    by_cases h : q.1 = n <;> simp [h]
  · rw [List.map_append]
    rfl
theorem nrm_del {b : Bk} {n : Str} : nrmB (delK b n) = delK (nrmB b) n := by
  unfold delK nrmB
  rw [List.filter_map]
  rfl
theorem nrmB_len {b : Bk} : (nrmB b).length = b.length := by unfold nrmB; rw [List.length_map]
theorem setK_at_len {b : Bk} {n : Str} {p q : Tp} (h : atK b n = some q) : (setK b n p).length = b.length := by
  rw [setK_len, if_pos (by rw [← atK_any, h] <;> rfl)]
theorem atK_name {b : Bk} {n : Str} {q : Tp} (h : atK b n = some q) : (n, q) ∈ b := atK_mem h
theorem set_lawB {b : Bk} {n : Str} {p q : Tp} (h : LawB b) (hq : atK b n = some q) (hp : TpOk p) : LawB (setK b n p) := by
  refine ⟨⟨fun x hx => ?_, setK_keys h.n.d, by rw [setK_at_len hq]; exact h.n.n⟩, fun x hx => ?_⟩
  · rcases setK_mem hx with hx | rfl
    · exact h.n.ok x hx
    · exact hp
  · rcases setK_mem hx with hx | rfl
    · exact h.nm x hx
    · exact h.nm (n, q) (atK_mem hq)
theorem del_lawB {b : Bk} {n : Str} (h : LawB b) : LawB (delK b n) := by
  have sub : List.Sublist (delK b n) b := List.filter_sublist
  exact ⟨⟨fun x hx => h.n.ok x (sub.subset hx), h.n.d.sublist (sub.map _), Nat.le_trans sub.length_le h.n.n⟩, fun x hx => h.nm x (sub.subset hx)⟩
/-- a deed of the program's, and what the law says of it -/
structure Aft (b : Bk) (d : Deed) : Prop where
  ok : wordL b d = "" → afterO (nrmB b) d = .ok (nrmB (doneL b d)) ∧ LawB (doneL b d)
  er : wordL b d ≠ "" → afterO (nrmB b) d = .error (wordL b d)
theorem needNew_law {b : Bk} {n : Str} : needNew (nrmB b) n = if nameW b n = "" then .ok () else .error (nameW b n) := by
  unfold needNew nameW
  rw [atK_nrm, Option.isSome_map]
  cases !lenOk n || !lowOk n with
  | true => exact (if_neg (show ¬ ("badname" : Str) = "" by decide +kernel)).symm
  | false =>
    cases (atK b n).isSome with
    | true => exact (if_neg (show ¬ ("taken" : Str) = "" by decide +kernel)).symm
    | false => exact (if_pos rfl).symm
theorem name_len {b : Bk} {n : Str} (h : nameW b n = "") : n.length ≤ 8 ∧ atK b n = none := by
  unfold nameW at h
  cases hl : !lenOk n || !lowOk n with
  | true =>
    rw [hl] at h
    exact absurd (show ("badname" : Str) = "" from h) (by decide +kernel)
  | false =>
    rw [hl] at h
    cases ha : (atK b n).isSome with
    | true =>
      rw [ha] at h
      exact absurd (show ("taken" : Str) = "" from h) (by decide +kernel)
    | false =>
      refine ⟨?_, by simpa using ha⟩
      rw [Bool.or_eq_false_iff] at hl
      have := hl.1
      unfold lenOk at this
      simp at this
      omega
theorem nbeat {t : Int} (h : ¬ (1 ≤ t ∧ t ≤ 960)) : (!(decide (1 ≤ t) && decide (t ≤ 960))) = true := by
  rw [← Bool.decide_and, decide_eq_false h] <;> rfl
theorem aft_new {b : Bk} {n : Str} {t : Int} (h : LawB b) : Aft b (.new n t) := by
  have hA : afterO (nrmB b) (.new n t) = match newO (nrmB b) n t with
      | .error z => .error z
      | .ok p => .ok (setK (nrmB b) n p) := rfl
  have hN : newO (nrmB b) n t = match needNew (nrmB b) n with
      | .error z => .error z
      | .ok () => match mkTape t none none with
        | .error z => .error z
        | .ok p => match needRoomD (nrmB b).length with
          | .error z => .error z
          | .ok () => .ok p := rfl
  rw [needNew_law] at hN
  have hM : mkTape t none none = if 1 ≤ t ∧ t ≤ 960 then .ok ⟨t, [], [[]]⟩ else .error "badbeat" := by
    by_cases ht : 1 ≤ t ∧ t ≤ 960
    · rw [if_pos ht]
      exact mkTape_ok ht (by decide)
    · rw [if_neg ht]
      unfold mkTape needBeat
      rw [nbeat ht]
      rfl
  have hR : needRoomD (nrmB b).length = if 5 < b.length then .error "full" else .ok () := by
    rw [nrmB_len]
    unfold needRoomD
    by_cases hb : 5 < b.length
    · rw [if_pos hb, decide_eq_true (by omega)] <;> rfl
    · rw [if_neg hb, decide_eq_false (by omega)] <;> rfl
  have hw : wordL b (.new n t) = (bif decide (newW b n t = "") && decide ((5 : Int) < (b.length : Nat)) then "full" else newW b n t : Str) := rfl
  have hw2 : newW b n t = (bif decide (nameW b n = "") && !(decide (1 ≤ t) && decide (t ≤ 960)) then "badbeat" else nameW b n : Str) := rfl
  by_cases hn : nameW b n = ""
  · rw [if_pos hn] at hN
    by_cases ht : 1 ≤ t ∧ t ≤ 960
    · rw [hM, if_pos ht] at hN
      rw [hn, decide_eq_true rfl, show (!(decide (1 ≤ t) && decide (t ≤ 960))) = false by simpa using ht] at hw2
      replace hw2 : newW b n t = "" := hw2
      by_cases hb : 5 < b.length
      · rw [hR, if_pos hb] at hN
        rw [hw2, decide_eq_true rfl, decide_eq_true (by omega)] at hw
        replace hw : wordL b (.new n t) = "full" := hw
        refine ⟨fun e => ?_, fun _ => ?_⟩
        · rw [hw] at e
          exact absurd e (by decide +kernel)
        · rw [hA, hN, hw]
      · rw [hR, if_neg hb] at hN
        rw [hw2, decide_eq_true rfl, decide_eq_false (by omega)] at hw
        replace hw : wordL b (.new n t) = "" := hw
        refine ⟨fun _ => ?_, fun e => absurd hw e⟩
        rw [hA, hN]
        have hd : doneL b (.new n t) = setK b n ⟨t, [], [[]]⟩ := rfl
        obtain ⟨nl, na⟩ := name_len hn
        refine ⟨?_, ?_⟩
        · rw [hd, nrm_set]
          unfold nrm
          rw [srtP_nil]
        · rw [hd]
          refine ⟨⟨fun x hx => ?_, setK_keys h.n.d, ?_⟩, fun x hx => ?_⟩
          · rcases setK_mem hx with hx | rfl
            · exact h.n.ok x hx
            · exact ⟨ht, ⟨Nat.zero_le _, List.nodup_nil, (fun q hq => nomatch hq), (fun q hq => nomatch hq)⟩, ⟨Nat.le_refl 1, Nat.le_of_ble_eq_true rfl⟩, fun u hu => by
                rw [List.mem_singleton.mp hu]
                exact TrOk.nil⟩
          · rw [setK_len, if_neg (by rw [← atK_any, na]; decide)]
            omega
          · rcases setK_mem hx with hx | rfl
            · exact h.nm x hx
            · exact nl
    · rw [hM, if_neg ht] at hN
      rw [hn, decide_eq_true rfl, nbeat ht] at hw2
      replace hw2 : newW b n t = "badbeat" := hw2
      rw [hw2, decide_eq_false (show ¬ ("badbeat" : Str) = "" by decide +kernel), Bool.false_and] at hw
      replace hw : wordL b (.new n t) = "badbeat" := hw
      refine ⟨fun e => ?_, fun _ => ?_⟩
      · rw [hw] at e
        exact absurd e (by decide +kernel)
      · rw [hA, hN, hw]
  · rw [if_neg hn] at hN
    rw [decide_eq_false hn, Bool.false_and] at hw2
    replace hw2 : newW b n t = nameW b n := hw2
    rw [hw2, decide_eq_false hn, Bool.false_and] at hw
    replace hw : wordL b (.new n t) = nameW b n := hw
    exact ⟨fun e => absurd (hw.symm.trans e) hn, fun _ => by rw [hA, hN, hw]⟩
theorem tapeOf_nrm {b : Bk} {n : Str} : tapeOf (nrmB b) n = match atK b n with
    | none => .error "notape"
    | some p => .ok (nrm p) := by
  unfold tapeOf
  rw [atK_nrm]
  cases atK b n <;> rfl
theorem aft_drop {b : Bk} {n : Str} (h : LawB b) : Aft b (.drop n) := by
  have hw := wordL_at (b := b) (d := .drop n) (by simp only [Deed.w]; decide +kernel)
  have hA := afterO_drop (b := nrmB b) (n := n)
  rw [tapeOf_nrm] at hA
  have hd : doneL b (.drop n) = delK b n := rfl
  cases e : atK b n with
  | none =>
    rw [show atK b (Deed.n (.drop n)) = none from e] at hw
    rw [e] at hA
    replace hw : wordL b (.drop n) = "notape" := hw
    refine ⟨fun z => ?_, fun _ => ?_⟩
    · rw [hw] at z
      exact absurd z (by decide +kernel)
    · rw [hA, hw]
  | some p =>
    rw [show atK b (Deed.n (.drop n)) = some p from e] at hw
    rw [e] at hA
    replace hw : wordL b (.drop n) = "" := hw
    refine ⟨fun _ => ⟨?_, ?_⟩, fun z => absurd hw z⟩
    · rw [hA, hd, nrm_del]
    · rw [hd]
      exact del_lawB h
/-- a deed at a tape that is there -/
theorem aft_at {b : Bk} {d : Deed} (h : LawB b) (h1 : d.w ≠ "new") (h2 : d.w ≠ "drop") (k0 : atK b d.n = none → actO (nrmB b) d = .error "notape") (k1 : ∀ p, atK b d.n = some p → TpOk p → (wordT p d = "" → actO (nrmB b) d = .ok (nrm (doneT p d)) ∧ TpOk (doneT p d)) ∧ (wordT p d ≠ "" → actO (nrmB b) d = .error (wordT p d))) : Aft b d := by
  have hw := wordL_at (b := b) h1
  have hA := afterO_act (b := nrmB b) h2
  cases e : atK b d.n with
  | none =>
    rw [e] at hw
    rw [k0 e] at hA
    replace hw : wordL b d = "notape" := hw
    refine ⟨fun z => ?_, fun _ => ?_⟩
    · rw [hw] at z
      exact absurd z (by decide +kernel)
    · rw [hA, hw]
  | some p =>
    rw [e] at hw
    replace hw : wordL b d = wordT p d := hw
    obtain ⟨q1, q2⟩ := k1 p e (h.n.ok.at e)
    refine ⟨fun z => ?_, fun z => ?_⟩
    · obtain ⟨r1, r2⟩ := q1 (hw.symm.trans z)
      rw [hA, r1, doneL_at h1 h2 e]
      exact ⟨by rw [nrm_set], set_lawB h e r2⟩
    · rw [hA, q2 (by rw [← hw]; exact z), hw]
theorem aft_add {b : Bk} {n : Str} (h : LawB b) : Aft b (.add n) := by
  refine aft_at h (by simp only [Deed.w]; decide +kernel) (by simp only [Deed.w]; decide +kernel) (fun e => ?_) fun p e hp => ?_
  · show addO (nrmB b) n = _
    unfold addO
    rw [tapeOf_nrm, show atK b n = none from e]
  · have hA : actO (nrmB b) (.add n) = mkTape p.b (some (srtP (srtP p.ps))) (some (p.ts ++ [[]])) := by
      show addO (nrmB b) n = _
      unfold addO
      rw [tapeOf_nrm, show atK b n = some p from e] <;> rfl
    rw [srtP_srt hp.ps.d] at hA
    rw [hA, wt_add]
    have hn := hp.n
    by_cases hl : 5 < p.ts.length
    · rw [decide_eq_true (show (5 : Int) < (p.ts.length : Nat) by omega)]
      refine ⟨fun z => absurd (show ("full" : Str) = "" from z) (by decide +kernel), fun _ => ?_⟩
      unfold mkTape
      rw [needBeat_ok hp.b]
      have : (!(decide ((1 : Int) ≤ (((some (p.ts ++ [[]])).getD [[]]).length : Nat)) && decide (((((some (p.ts ++ [[]])).getD [[]]).length : Nat) : Int) ≤ 6))) = true := by
        simp
        omega
      simp only [this]
      rfl
    · rw [decide_eq_false (show ¬ (5 : Int) < (p.ts.length : Nat) by omega)]
      refine ⟨fun _ => ⟨?_, hp.b, hp.ps, ?_, fun t ht => ?_⟩, fun z => absurd rfl z⟩
      · rw [mkTape_ok hp.b (by simp; omega)]
        rfl
      · show 1 ≤ (p.ts ++ [[]]).length ∧ (p.ts ++ [[]]).length ≤ 6
        simp
        omega
      · rcases List.mem_append.mp ht with ht | ht
        · exact hp.ts t ht
        · rw [List.mem_singleton.mp ht]
          exact TrOk.nil
theorem aft_pace {b : Bk} {n : Str} {t c : Int} (h : LawB b) : Aft b (.pace n t c) := by
  refine aft_at h (by simp only [Deed.w]; decide +kernel) (by simp only [Deed.w]; decide +kernel) (fun e => ?_) fun p e hp => ?_
  · show paceO (nrmB b) n t c = _
    unfold paceO
    rw [tapeOf_nrm, show atK b n = none from e]
  · have hA : actO (nrmB b) (.pace n t c) = match putPO (srtP p.ps) t c with
        | .error z => .error z
        | .ok qs => mkTape p.b (some (srtP qs)) (some p.ts) := by
      show paceO (nrmB b) n t c = _
      unfold paceO
      rw [tapeOf_nrm, show atK b n = some p from e]
      show (match putPO (srtP (srtP p.ps)) t c with | .error z => _ | .ok qs => _) = _
      rw [srtP_srt hp.ps.d]
      rfl
    have hpm : (srtP p.ps).Perm p.ps := srtBy_perm p.ps
    have hP : putPO (srtP p.ps) t c = match needTick t with
        | .error z => .error z
        | .ok () => match needPace c with
          | .error z => .error z
          | .ok () => bif !(atK p.ps t).isSome && decide ((20 : Int) ≤ (p.ps.length : Nat)) then .error "full" else .ok (setK (srtP p.ps) t c) := by
      unfold putPO
      rw [atK_perm hpm, hpm.length_eq] <;> rfl
    rw [wt_pace]
    rw [hP] at hA
    unfold needTick needPace thr at hA
    cases ht : !(decide (0 ≤ t) && decide (t ≤ 999999)) with
    | true =>
      rw [ht] at hA
      exact ⟨fun z => absurd (show ("badtick" : Str) = "" from z) (by decide +kernel), fun _ => hA⟩
    | false =>
      rw [ht] at hA
      cases hc : !(decide (1 ≤ c) && decide (c ≤ 16777215)) with
      | true =>
        rw [hc] at hA
        exact ⟨fun z => absurd (show ("badpace" : Str) = "" from z) (by decide +kernel), fun _ => hA⟩
      | false =>
        rw [hc] at hA
        have e20 : decide ((20 : Int) ≤ (p.ps.length : Nat)) = decide ((19 : Int) < (p.ps.length : Nat)) := decide_eq_decide.mpr (by omega)
        rw [e20] at hA
        cases hf : !(atK p.ps t).isSome && decide ((19 : Int) < (p.ps.length : Nat)) with
        | true =>
          rw [hf] at hA
          exact ⟨fun z => absurd (show ("full" : Str) = "" from z) (by decide +kernel), fun _ => hA⟩
        | false =>
          rw [hf] at hA
          have hA : actO (nrmB b) (.pace n t c) = mkTape p.b (some (srtP (setK (srtP p.ps) t c))) (some p.ts) := hA
          have hput : putPO p.ps t c = .ok (setK p.ps t c) := by
            unfold putPO needTick needPace thr
            rw [ht, hc]
            show (bif !(atK p.ps t).isSome && decide ((20 : Int) ≤ (p.ps.length : Nat)) then _ else _) = _
            rw [e20, hf]
            rfl
          obtain ⟨hps, _⟩ := putPO_ok hp.ps hput
          refine ⟨fun _ => ⟨?_, hp.b, hps, hp.n, hp.ts⟩, fun z => absurd rfl z⟩
          rw [hA, mkTape_ok (to := some p.ts) hp.b hp.n, srtP_congr hps.d (setK_perm hpm)]
          rfl
theorem trackOf_nrm {p : Tp} {i : Int} : trackOf (nrm p) i = trackOf p i := rfl
/-- a deed at a track -/
theorem trk_at {p : Tp} {d : Deed} (hk : d.trk = true) : (trackOf p d.ix = .error "notrack" ∧ wordT p d = "notrack") ∨ ∃ t j, d.ix = ((j : Nat) : Int) ∧ j < p.ts.length ∧ p.ts[j]? = some t ∧ trackOf p d.ix = .ok t ∧ wordT p d = trackW p t d := by
  rw [wordT_trk hk]
  unfold trackOf
  cases hc : !(decide (0 ≤ d.ix) && decide (d.ix < (p.ts.length : Nat))) with
  | true => exact .inl ⟨rfl, rfl⟩
  | false =>
    have h2 : 0 ≤ d.ix ∧ d.ix < (p.ts.length : Nat) := by simpa using hc
    obtain ⟨j, hj⟩ := Int.eq_ofNat_of_zero_le h2.1
    have hlt : j < p.ts.length := by omega
    have e : p.ts[d.ix.toNat]? = some p.ts[j] := by rw [hj]; simp [hlt]
    refine .inr ⟨p.ts[j], j, hj, hlt, by simp [hlt], ?_, ?_⟩
    · rw [e] <;> rfl
    · rw [e] <;> rfl
theorem set_tp {p : Tp} {j : Nat} {t : Tr} (hp : TpOk p) (hj : j < p.ts.length) (ht : TrOk t) : TpOk ⟨p.b, p.ps, p.ts.set j t⟩ := ⟨hp.b, hp.ps, by show 1 ≤ (p.ts.set j t).length ∧ (p.ts.set j t).length ≤ 6; rw [List.length_set]; exact hp.n, fun u hu => by
  rcases List.mem_or_eq_of_mem_set hu with hu | rfl
  · exact hp.ts u hu
  · exact ht⟩
theorem nrm_setT {p : Tp} {j : Nat} {t : Tr} (hp : TpOk p) : (nrm p).setT j t = nrm ⟨p.b, p.ps, p.ts.set j t⟩ := by
  unfold Tp.setT nrm
  show Tp.mk p.b (srtP (srtP p.ps)) _ = _
  rw [srtP_srt hp.ps.d]
theorem errs_law {t : Tr} {b : Int} : ∀ {i : Nat}, errs (fun _ (e : Ev) => needTick (e.t + b)) i t = if (t.all fun e => decide (0 ≤ e.t + b) && decide (e.t + b ≤ 999999)) = true then .ok () else .error "badtick" := by
  induction t with
  | nil => intro i; exact (if_pos rfl).symm
  | cons e r ih =>
    intro i
    unfold errs
    rw [List.all_cons]
    cases hc : decide (0 ≤ e.t + b) && decide (e.t + b ≤ 999999) with
    | true =>
      have : needTick (e.t + b) = .ok () := by
        unfold needTick
        rw [hc]
        rfl
      rw [this, Bool.true_and]
      exact ih
    | false =>
      have : needTick (e.t + b) = .error "badtick" := by
        unfold needTick
        rw [hc]
        rfl
      rw [this, Bool.false_and]
      exact (if_neg (by decide)).symm
theorem isOf_lane {e : Ev} {ch : Int} (h : e.ok = true) (hc : 0 ≤ ch) : isOf ch e = decide (laneI e = ch) := by
  rcases ok_two h with ⟨hk, z, hx, _⟩ | ⟨hk, c, r, hx, _⟩
  · unfold isOf laneI
    rw [hk, if_pos rfl, decide_eq_true rfl, decide_eq_false (by omega)]
    rfl
  · unfold isOf laneI
    rw [hx, if_neg hk, decide_eq_false hk]
    rfl
theorem aft_put {b : Bk} {n : Str} {i : Int} {e : Ev} (h : LawB b) : Aft b (.put n i e) := by
  refine aft_at h (by simp only [Deed.w]; decide +kernel) (by simp only [Deed.w]; decide +kernel) (fun z => ?_) fun p z hp => ?_
  · show putO (nrmB b) n i e = _
    unfold putO
    rw [tapeOf_nrm, show atK b n = none from z]
  · have hA : actO (nrmB b) (.put n i e) = match trackOf p i with
        | .error z => .error z
        | .ok t => match putIn t e with
          | .error z => .error z
          | .ok t' => .ok ((nrm p).setT i.toNat t') := by
      show putO (nrmB b) n i e = _
      unfold putO
      rw [tapeOf_nrm, show atK b n = some p from z] <;> rfl
    rcases trk_at (p := p) (d := .put n i e) rfl with ⟨q1, q2⟩ | ⟨t, j, hj, hlt, htr, q1, q2⟩
    · rw [show trackOf p i = _ from q1] at hA
      rw [q2]
      exact ⟨fun z => absurd z (by decide +kernel), fun _ => hA⟩
    · obtain rfl : i = (j : Int) := hj
      rw [show trackOf p (j : Int) = _ from q1] at hA
      rw [q2, tw_put]
      have hto : TrOk t := hp.ts t (List.mem_of_getElem? htr)
      have hD : doneT p (.put n (j : Int) e) = ⟨p.b, p.ps, p.ts.set j (put1 t e)⟩ := by
        show (match p.ts[((j : Nat) : Int).toNat]? with | none => p | some t => _) = _
        rw [Int.toNat_natCast, htr]
      replace hA : actO (nrmB b) (.put n (j : Int) e) = match putIn t e with
          | .error z => .error z
          | .ok t' => .ok ((nrm p).setT (j : Int).toNat t') := hA
      have hP : putIn t e = bif !e.ok then .error "badevent" else bif decide ((199 : Int) < (t.length : Nat)) then .error "full" else .ok (put1 t e) := by
        unfold putIn
        rw [show decide ((200 : Int) < ((t.length + 1 : Nat) : Int)) = decide ((199 : Int) < (t.length : Nat)) from decide_eq_decide.mpr (by omega)]
      cases h1 : !e.ok with
      | true =>
        rw [h1] at hP
        rw [hP] at hA
        exact ⟨fun z => absurd (show ("badevent" : Str) = "" from z) (by decide +kernel), fun _ => hA⟩
      | false =>
        rw [h1] at hP
        cases h2 : decide ((199 : Int) < (t.length : Nat)) with
        | true =>
          rw [h2] at hP
          rw [hP] at hA
          exact ⟨fun z => absurd (show ("full" : Str) = "" from z) (by decide +kernel), fun _ => hA⟩
        | false =>
          rw [h2] at hP
          have hP : putIn t e = .ok (put1 t e) := hP
          rw [hP] at hA
          refine ⟨fun _ => ?_, fun z => absurd rfl z⟩
          rw [hA, hD]
          show Except.ok ((nrm p).setT ((j : Int).toNat) (put1 t e)) = _ ∧ _
          rw [Int.toNat_natCast, nrm_setT hp]
          exact ⟨rfl, set_tp hp hlt (putIn_ok hto hP).1⟩
theorem aft_take {b : Bk} {n : Str} {i pl : Int} (h : LawB b) : Aft b (.take n i pl) := by
  refine aft_at h (by simp only [Deed.w]; decide +kernel) (by simp only [Deed.w]; decide +kernel) (fun z => ?_) fun p z hp => ?_
  · show takeO (nrmB b) n i pl = _
    unfold takeO
    rw [tapeOf_nrm, show atK b n = none from z]
  · have hA : actO (nrmB b) (.take n i pl) = match trackOf p i with
        | .error z => .error z
        | .ok t => bif !(decide (0 ≤ pl) && decide (pl < (t.length : Nat))) then .error "noevent" else .ok ((nrm p).setT i.toNat (t.take pl.toNat ++ t.drop (pl.toNat + 1))) := by
      show takeO (nrmB b) n i pl = _
      unfold takeO
      rw [tapeOf_nrm, show atK b n = some p from z] <;> rfl
    rcases trk_at (p := p) (d := .take n i pl) rfl with ⟨q1, q2⟩ | ⟨t, j, hj, hlt, htr, q1, q2⟩
    · rw [show trackOf p i = _ from q1] at hA
      rw [q2]
      exact ⟨fun z => absurd z (by decide +kernel), fun _ => hA⟩
    · obtain rfl : i = (j : Int) := hj
      rw [show trackOf p (j : Int) = _ from q1] at hA
      rw [q2, tw_take]
      have hto : TrOk t := hp.ts t (List.mem_of_getElem? htr)
      have hD : doneT p (.take n (j : Int) pl) = ⟨p.b, p.ps, p.ts.set j (t.take pl.toNat ++ t.drop (pl.toNat + 1))⟩ := by
        show (match p.ts[((j : Nat) : Int).toNat]? with | none => p | some t => _) = _
        rw [Int.toNat_natCast, htr]
      have hA : actO (nrmB b) (.take n (j : Int) pl) = bif !(decide (0 ≤ pl) && decide (pl < (t.length : Nat))) then .error "noevent" else .ok ((nrm p).setT (j : Int).toNat (t.take pl.toNat ++ t.drop (pl.toNat + 1))) := hA
      cases h1 : decide (0 ≤ pl) && decide (pl < ((t.length : Nat) : Int)) with
      | false =>
        rw [h1] at hA
        exact ⟨fun z => absurd (show ("noevent" : Str) = "" from z) (by decide +kernel), fun _ => hA⟩
      | true =>
        rw [h1] at hA
        refine ⟨fun _ => ?_, fun z => absurd rfl z⟩
        rw [hA, hD]
        show Except.ok ((nrm p).setT ((j : Int).toNat) (t.take pl.toNat ++ t.drop (pl.toNat + 1))) = _ ∧ _
        rw [Int.toNat_natCast, nrm_setT hp]
        exact ⟨rfl, set_tp hp hlt (take_ok hto _)⟩
theorem aft_later {b : Bk} {n : Str} {i by_ : Int} (h : LawB b) : Aft b (.later n i by_) := by
  refine aft_at h (by simp only [Deed.w]; decide +kernel) (by simp only [Deed.w]; decide +kernel) (fun z => ?_) fun p z hp => ?_
  · show laterPO (nrmB b) n i by_ = _
    unfold laterPO
    rw [tapeOf_nrm, show atK b n = none from z]
  · have hA : actO (nrmB b) (.later n i by_) = match trackOf p i with
        | .error z => .error z
        | .ok t => match laterO t by_ with
          | .error z => .error z
          | .ok t' => .ok ((nrm p).setT i.toNat t') := by
      show laterPO (nrmB b) n i by_ = _
      unfold laterPO
      rw [tapeOf_nrm, show atK b n = some p from z] <;> rfl
    rcases trk_at (p := p) (d := .later n i by_) rfl with ⟨q1, q2⟩ | ⟨t, j, hj, hlt, htr, q1, q2⟩
    · rw [show trackOf p i = _ from q1] at hA
      rw [q2]
      exact ⟨fun z => absurd z (by decide +kernel), fun _ => hA⟩
    · obtain rfl : i = (j : Int) := hj
      rw [show trackOf p (j : Int) = _ from q1] at hA
      rw [q2, tw_later]
      have hto : TrOk t := hp.ts t (List.mem_of_getElem? htr)
      have hD : doneT p (.later n (j : Int) by_) = ⟨p.b, p.ps, p.ts.set j (t.map (shift by_))⟩ := by
        show (match p.ts[((j : Nat) : Int).toNat]? with | none => p | some t => _) = _
        rw [Int.toNat_natCast, htr]
      replace hA : actO (nrmB b) (.later n (j : Int) by_) = match laterO t by_ with
          | .error z => .error z
          | .ok t' => .ok ((nrm p).setT (j : Int).toNat t') := hA
      have hP : laterO t by_ = match (if (t.all fun e => decide (0 ≤ e.t + by_) && decide (e.t + by_ ≤ 999999)) = true then .ok () else .error "badtick" : Except Str Unit) with
          | .error z => .error z
          | .ok _ => .ok (t.map (shift by_)) := by
        unfold laterO
        rw [errs_law]
        rfl
      cases h1 : t.all fun e => decide (0 ≤ e.t + by_) && decide (e.t + by_ ≤ 999999) with
      | false =>
        rw [h1, if_neg (by decide)] at hP
        rw [hP] at hA
        exact ⟨fun z => absurd (show ("badtick" : Str) = "" from z) (by decide +kernel), fun _ => hA⟩
      | true =>
        rw [h1, if_pos rfl] at hP
        have hP : laterO t by_ = .ok (t.map (shift by_)) := hP
        rw [hP] at hA
        refine ⟨fun _ => ?_, fun z => absurd rfl z⟩
        rw [hA, hD]
        show Except.ok ((nrm p).setT ((j : Int).toNat) (t.map (shift by_))) = _ ∧ _
        rw [Int.toNat_natCast, nrm_setT hp]
        exact ⟨rfl, set_tp hp hlt (later_ok hto hP).1⟩
theorem aft_part {b : Bk} {n : Str} {i ch : Int} (h : LawB b) : Aft b (.part n i ch) := by
  refine aft_at h (by simp only [Deed.w]; decide +kernel) (by simp only [Deed.w]; decide +kernel) (fun z => ?_) fun p z hp => ?_
  · show partO (nrmB b) n i ch = _
    unfold partO
    rw [tapeOf_nrm, show atK b n = none from z]
  · have hA : actO (nrmB b) (.part n i ch) = match trackOf p i with
        | .error z => .error z
        | .ok t => bif !(decide (0 ≤ ch) && decide (ch ≤ 15)) then .error "badchannel" else bif decide ((6 : Int) ≤ (p.ts.length : Nat)) then .error "full" else
          mkTape p.b (some (srtP (srtP p.ps))) (some ((p.ts.set i.toNat (t.filter fun e => !isOf ch e)) ++ [t.filter (isOf ch)])) := by
      show partO (nrmB b) n i ch = _
      unfold partO
      rw [tapeOf_nrm, show atK b n = some p from z] <;> rfl
    rcases trk_at (p := p) (d := .part n i ch) rfl with ⟨q1, q2⟩ | ⟨t, j, hj, hlt, htr, q1, q2⟩
    · rw [show trackOf p i = _ from q1] at hA
      rw [q2]
      exact ⟨fun z => absurd z (by decide +kernel), fun _ => hA⟩
    · obtain rfl : i = (j : Int) := hj
      rw [show trackOf p (j : Int) = _ from q1] at hA
      rw [q2, tw_part]
      have hto : TrOk t := hp.ts t (List.mem_of_getElem? htr)
      have hn := hp.n
      have hA : actO (nrmB b) (.part n (j : Int) ch) = bif !(decide (0 ≤ ch) && decide (ch ≤ 15)) then .error "badchannel" else bif decide ((6 : Int) ≤ (p.ts.length : Nat)) then .error "full" else
          mkTape p.b (some (srtP (srtP p.ps))) (some ((p.ts.set (j : Int).toNat (t.filter fun e => !isOf ch e)) ++ [t.filter (isOf ch)])) := hA
      rw [show decide ((6 : Int) ≤ (p.ts.length : Nat)) = decide ((5 : Int) < (p.ts.length : Nat)) from decide_eq_decide.mpr (by omega), Int.toNat_natCast, srtP_srt hp.ps.d] at hA
      cases h1 : !(decide (0 ≤ ch) && decide (ch ≤ 15)) with
      | true =>
        rw [h1] at hA
        exact ⟨fun z => absurd (show ("badchannel" : Str) = "" from z) (by decide +kernel), fun _ => hA⟩
      | false =>
        rw [h1] at hA
        cases h2 : decide ((5 : Int) < (p.ts.length : Nat)) with
        | true =>
          rw [h2] at hA
          exact ⟨fun z => absurd (show ("full" : Str) = "" from z) (by decide +kernel), fun _ => hA⟩
        | false =>
          rw [h2] at hA
          have hl : p.ts.length ≤ 5 := by
            have := of_decide_eq_false h2
            omega
          have hc : 0 ≤ ch := by
            have : 0 ≤ ch ∧ ch ≤ 15 := by simpa using h1
            exact this.1
          have e1 : t.filter (isOf ch) = t.filter fun e => decide (laneI e = ch) := List.filter_congr fun e he => isOf_lane (hto.ok e he) hc
          have e2 : (t.filter fun e => !isOf ch e) = t.filter fun e => !decide (laneI e = ch) := List.filter_congr fun e he => by rw [isOf_lane (hto.ok e he) hc]
          have hA : actO (nrmB b) (.part n (j : Int) ch) = mkTape p.b (some (srtP p.ps)) (some ((p.ts.set j (t.filter fun e => !isOf ch e)) ++ [t.filter (isOf ch)])) := hA
          have hD : doneT p (.part n (j : Int) ch) = ⟨p.b, p.ps, (p.ts ++ [t.filter fun e => decide (laneI e = ch)]).set j (t.filter fun e => !decide (laneI e = ch))⟩ := by
            show (match p.ts[((j : Nat) : Int).toNat]? with | none => p | some t => _) = _
            rw [Int.toNat_natCast, htr]
          rw [List.set_append_left _ _ hlt, ← e1, ← e2] at hD
          refine ⟨fun _ => ?_, fun z => absurd rfl z⟩
          rw [hA, hD, mkTape_ok hp.b (by simp; omega)]
          refine ⟨rfl, hp.b, hp.ps, by simp; omega, fun u hu => ?_⟩
          rcases List.mem_append.mp hu with hu | hu
          · rcases List.mem_or_eq_of_mem_set hu with hu | rfl
            · exact hp.ts u hu
            · exact filt_ok hto _
          · rw [List.mem_singleton.mp hu]
            exact filt_ok hto _
theorem aft {b : Bk} (h : LawB b) : ∀ d : Deed, Aft b d
  | .new n t => aft_new h
  | .drop n => aft_drop h
  | .add n => aft_add h
  | .put n i e => aft_put h
  | .take n i pl => aft_take h
  | .later n i t => aft_later h
  | .part n i ch => aft_part h
  | .pace n t p => aft_pace h
end R60

set_option Elab.async false
set_option pp.maxSteps 400
set_option linter.all false
set_option maxRecDepth 100000
set_option maxHeartbeats 1000000
namespace R60
open PySem PySem.Spec PyProof.Rows L2
/-! ### a lambda handed to a def that calls it in a try: what it raises is wished for at the def's own slots -/
section
variable {X : Cx} {pins : List (Addr × Obj)} {σ : L2.St} {H : Hp} {s : Shared}
/-- x() in the def that got the lambda -/
theorem pe_actS {CXg : CXT} {Eg : XK} {Ng : List Str} {qg : Str} {sg : Scope} {g f c' : Addr} {cdg pm ctv : Value} {params : Arguments} {body : Expr} {scope : Scope} {k i : Nat} {a : Str} {pn : List (Addr × Obj)} {xe : Value → Shared → Prop} {W : WX} {E : L2.St → XK} {tb : XK → TE} {p1 p2 : Pos}
    (I : Inv X pins σ H s) (L : LamX.LamS X.env.scope scope) (hf : s.heap.get? f = some (PySem.W.kla_obj "<lambda>" (X.env.qual ++ "<lambda>") params body scope (cloFrom X.env.cells scope.names []) pm c' ctv)) (hfn : H f = none) (hfr : f ∉ frs X.stack)
    (hbind : bindArgs (PySem.W.kla_fn "<lambda>" (X.env.qual ++ "<lambda>") params body scope (cloFrom X.env.cells scope.names []) pm (.ref c') ctv) ⟨[], []⟩ = pure [])
    (tk : Takes ((cxOf CXg X.prog X.w X.K X.mg X.base Ng qg sg g cdg X.A X.stack s H Eg).tr pn xe) W) (hW : ∀ cls d σ' H', E σ' cls d H' → W cls d σ' H') (hr : Room (k + 1) (X.A.deeper (envOfC qg sg s.heap.objs.size g cdg)))
    (hbody : ∀ (E : XK) (A : Around) (outer : List Env) (s : Shared) (H : Hp), Room k (A.deeper (LamX.lamEnv X scope s.heap.objs.size f c')) → PE (LamX.lamCx X A outer s H E scope f c') body (tb E))
    (hN : Ng[i]? = some a) (hv : Vis sg a) (hd : (a == ("__debug__" : Str)) = false := by decide) (hcd : (a == ("__classdict__" : Str)) = false := by decide) :
    PE ((cxOf CXg X.prog X.w X.K X.mg X.base Ng qg sg g cdg X.A X.stack s H Eg).tr pn xe) (.Call (.Name a p1) [] [] p2)
      (fun σZ HZ Q => σZ[i]? = some (some (.ref f)) ∧ HZ c' = some (LamX.CodeO c' (X.env.qual ++ "<lambda>")) ∧ tb (E σZ) σ HZ Q) := ⟨fun pz sz σz Hz Q Iz ⟨hs, hc, ht⟩ => by
  refine wpAny_Call_Name_kw (thn ((pe_var (pos := p1) (i := i) hN hv hd hcd).run pz sz σz Hz (fun v H1 => v = .ref f ∧ H1 = Hz) Iz ⟨.ref f, hs, rfl, rfl⟩) fun u s1 ⟨v, H1, I1, r1, ev, eH⟩ => ?_)
  subst ev
  subst eH
  obtain rfl : u = Value.ref f := r1
  have un : Un (frs X.stack) [] H H1 s.heap s1.heap := I1.base
  have of1 := un.keep f _ hf hfn hfr (fun z => nomatch (show f ∈ ([] : List Addr) from z))
  obtain ⟨⟨oc, vs, t, hoc, hdc, hvc⟩, _, _⟩ := I1.hok c' _ hc
  refine PySem.W.callWith_F0 ⟨_, _, _, _, of1⟩ (wpAny_call ?_)
  refine codeAny_mono (R := CR (L2.CX X.prog X.w) (envOfC qg sg s.heap.objs.size g cdg :: X.stack) X.prog X.w H1 s1 Q (E σz)) (PySem.W.kla_callFunE hr.depth of1 rfl L.co L.gen rfl ⟨c', oc, vs, t, rfl, hoc, hdc, hvc⟩ ?_) fun r s' hq => ?_
  · rw [List.append_nil, hbind]
    refine wpAny_pure (wpAny_newFunctionEnv (fun y hy => (L.own y hy).2) (fun y hy => absurd hy (by simp)) (fun h₁ hns hsb => ⟨I1.nolimit.fresh _ hsb, ?_⟩) L.kind)
    have J : Inv (LamX.lamCx X (X.A.deeper (envOfC qg sg s.heap.objs.size g cdg)) (envOfC qg sg s.heap.objs.size g cdg :: X.stack) s1 H1 (E σz) scope f c') [] σ H1 { s1 with heap := h₁, toks := s1.toks + ([] : List (Str × Value)).length } :=
      LamX.lam_start2 I L I1.env0 hr.hd un hns fun b o e => hsb.extBut b o (Nat.ne_of_lt (Heap.lt_size e)) (Heap.get?_push_of_some _ e)
    refine PySem.W.kla_codeExpr (wpAny_mono ((hbody (E σz) _ _ s1 H1 (hr.deeper _)).run [] _ _ H1 Q J ht) (fun v s' hq => ?_) fun e s' hq => hq)
    obtain ⟨w', H', J', rv, q⟩ := hq
    exact ⟨w', H', J'.os, J'.bare, J'.base, J'.hok, rv, q⟩
  · cases r with
    | error e => exact tk e s' (XE.of_call I1 (fun cls d H' h => hW cls d σz H' h) hq)
    | ok fl =>
      cases fl with
      | ret u => exact I1.after hq
      | next => exact False.elim hq
      | brk => exact False.elim hq
      | cont => exact False.elim hq⟩
end
/-- the def that calls what it got: TT is what it makes of the lambda's reading -/
def GivesS (X : Cx) (Ng : List Str) (x : Str) (sg : Scope) (g : Addr) (cdg : Value) (bg : List Stmt) (a : Str) (q : Str) (TT : (XK → Hp → VK → Prop) → Hp → VK → Prop) : Prop :=
  ∀ (f c' : Addr) (s : Shared) (H : Hp) (Q : VK) (tl : XK → Hp → VK → Prop),
    (∀ (W : WX) (pn : List (Addr × Obj)) (xe : Value → Shared → Prop) (E : L2.St → XK) (p1 p2 : Pos), Takes ((cxOf C8.CX0 X.prog X.w X.K X.mg X.base Ng x sg g cdg X.A X.stack s H C8.E0).tr pn xe) W → (∀ cls d σ' H', E σ' cls d H' → W cls d σ' H') →
      PE ((cxOf C8.CX0 X.prog X.w X.K X.mg X.base Ng x sg g cdg X.A X.stack s H C8.E0).tr pn xe) (.Call (.Name a p1) [] [] p2) (fun σZ HZ Q => σZ[0]? = some (some (.ref f)) ∧ HZ c' = some (LamX.CodeO c' q) ∧ tl (E σZ) HZ Q)) →
    H c' = some (LamX.CodeO c' q) → TT tl H Q →
    ∃ t, PSs (cxOf C8.CX0 X.prog X.w X.K X.mg X.base Ng x sg g cdg X.A X.stack s H C8.E0).nox bg t ∧ t { nx := fun _ H' => Q .non H', rt := Q } (L2.start Ng [.ref f]) H
section
variable {X : Cx}
/-- x(lambda: body) -/
theorem pe_lamS {T : List (Addr × Str)} {TT : (XK → Hp → VK → Prop) → Hp → VK → Prop} {x a : Str} {g c P : Addr} {k : Nat} {pg : Arguments} {bg : List Stmt} {sg : Scope} {dV kV doc pm cdv ct oc : Value} {an od : Option Addr} {osl : Array (Option Value)} {Ng : List Str}
    {params : Arguments} {body : Expr} {scope : Scope} {t : XK → TE} {p lpos pos : Pos} (hg : Gl X x) (hm : X.mg x = some (.ref g)) (hk : PySem.W.keepIn X.K (.ref g) = true)
    (lk : X.K.lookup g = some ⟨oc, od, .func (PySem.W.fnOf x x pg bg sg dV kV doc pm an cdv ct), osl⟩) (hcg : PySem.W.codeIn X.K cdv x = true) (hb : L2.Binds X.K (PySem.W.fnOf x x pg bg sg dV kV doc pm an cdv ct) [a] []) (Sg : FnScope Ng [a] sg) (hNg : Ng[0]? = some a) (hva : Vis sg a)
    (hG : GivesS X Ng x sg g cdv bg a (X.env.qual ++ "<lambda>") TT)
    (TB : LamX.TabB X.base X.mg c P) (hcode : X.env.code = .ref c) (hmT : (P, X.env.qual ++ "<lambda>") ∈ T) (hu : ∀ p ∈ T, p.1 = P → p.2 = X.env.qual ++ "<lambda>") (hr : Room (k + 2) X.A) (L : LamX.LamS X.env.scope scope) (hdef : defaultsOf params X.env = ([], []))
    (hbind : ∀ (q : Str) (cl : List (Str × Addr)) (pm cv ctv : Value), bindArgs (PySem.W.kla_fn "<lambda>" q params body scope cl pm cv ctv) ⟨[], []⟩ = pure [])
    (hbody : ∀ (A : Around) (outer : List Env) (s : Shared) (H : Hp) (E : XK) (f c' : Addr), Room k (A.deeper (LamX.lamEnv X scope s.heap.objs.size f c')) → PE (LamX.lamCx X A outer s H E scope f c') body (t E))
    (hdb : (x == ("__debug__" : Str)) = false := by decide) (hd : (a == ("__debug__" : Str)) = false := by decide) (hcd : (a == ("__classdict__" : Str)) = false := by decide) :
    PE X (.Call (.Name x p) [.Lambda params body scope lpos] [] pos) (LamX.tLam T TT t) := ⟨fun pins s σ H Q I ⟨hT, h⟩ => by
  refine wpAny_Call_Name_kw (ld_glob I hg hm (PySem.W.callWith_K (h₀ := X.base) I.ok.mod.kin hk ?_ (by rfl) (by rfl)) hdb)
  show wpAny _ _ (spliced ((false, eval (.Lambda params body scope lpos) X.env) :: backTo pos (starEach [] X.env))) _ _ s
  refine Calls.spliced_cons (LamX.lam_make2 I TB hcode hmT hu hT hdef (L.has I.ok) fun f c' pm' ctv H1 s' I1 eN T1 hf hfn hfr hco => Calls.spliced_nil ⟨I1.kIn, wpAny_call ?_⟩)
  refine codeAny_mono (R := CR C8.CX0 X.stack X.prog X.w H1 s' Q C8.E0) (LamX.run_ofS (N := Ng) (ps := [a]) (us := [.ref f]) (vs := [.ref f]) lk hcg Sg hr I1.env0 (hb s' [.ref f] I1.kIn rfl) (.cons rfl .nil) rfl fun hr' => ?_) fun r s2 hq => ?_
  · obtain ⟨t', ht', hq'⟩ := hG f c' s' H1 Q (fun E H' Q' => t E σ H' Q') (fun W pn xe E p1 p2 tk hW => pe_actS (i := 0) I1 L hf hfn hfr (hbind _ _ _ _ _) tk hW hr' (fun E A outer s H hr2 => hbody A outer s H E f c' hr2) hNg hva hd hcd) hco (h H1 eN T1)
    exact ⟨t', ht'.nox, hq'⟩
  · cases r with
    | error e => exact (show False from hq).elim
    | ok fl =>
      cases fl with
      | ret u => exact I1.after hq
      | next => exact False.elim hq
      | brk => exact False.elim hq
      | cont => exact False.elim hq⟩
end
/-- _law_tried: what came back and no word, or none and the error's word -/
def TTried (K : PySem.W.Frag) (mg : Str → Option Value) : (XK → Hp → VK → Prop) → Hp → VK → Prop := fun tl H Q => ∀ (E : XK) (QQ : VK), (∀ v H', (∀ p, H' p = none → Q (.ref p) (upd H' p (.tup [v, .str ""]))) → QQ v H') →
  (∀ C dd z H', ErrM K mg C → H' dd = some (errD z) → (∀ p, H' p = none → Q (.ref p) (upd H' p (.tup [.non, .str z]))) → E (.ref C) (some dd) H') → tl E H QQ
end R60

set_option Elab.async false
set_option pp.maxSteps 400
set_option linter.all false
set_option maxRecDepth 100000
set_option maxHeartbeats 4000000
namespace R60
open PySem PySem.Spec PyProof.Rows L2
/-! _law_tried, _law_begin -/
abbrev NTR : List Str := ["_law_ask", "_law_found", "_law_word_here", "e"]
theorem tried_gives {X : Cx} {MC TC DC : Addr} (T : Txt X.w X.K X.mg MC TC DC) {g : Addr} {cdg : Value} {q : Str} : GivesS X NTR "_law_tried" (defScope s_Ltried) g cdg (defBody s_Ltried) "_law_ask" q (TTried X.K X.mg) := by
  intro f c' s H Q tl act hc h
  obtain ⟨t1, m1⟩ := T.x_TapeError
  obtain ⟨t2, m2⟩ := T.x_MissingError
  refine ⟨_, pss_cons (ps_set (i := 1) sc_Ltried.nd rfl (.inl rfl) pe_non) (pss_cons (ps_set (i := 2) sc_Ltried.nd rfl (.inl rfl) pe_str) (pss_cons (ps_try_asMany (X := (cxOf C8.CX0 X.prog X.w X.K X.mg X.base NTR "_law_tried" (defScope s_Ltried) g cdg X.A X.stack s H C8.E0).nox) (i := 3)
    (tb := fun W D σ H => ∃ Ech : L2.St → XK, (∀ cls d σ' H', Ech σ' cls d H' → W cls d σ' H') ∧ σ[0]? = some (some (.ref f)) ∧ H c' = some (LamX.CodeO c' q) ∧ tl (Ech σ) H (fun v H' => D.nx (σ.set 1 (some v)) H'))
    rfl rfl sc_Ltried.nd rfl rfl LamX.takes0 (fun W pn xe tk _ => ?_) (.cons (c := .ref t1) ⟨rfl, by decide, .inl m1⟩ (fun a oe cls d pn hz hf => pss_one (ps_set (i := 2) sc_Ltried.nd rfl (.inl rfl) (pe_called (t1 := t1) (t2 := t2) hz hf (pe_var (i := 3) rfl (.inl rfl) (by decide) (by decide))))) (.cons (c := .ref t2) ⟨rfl, by decide, .inl m2⟩ (fun a oe cls d pn hz hf => pss_one (ps_set (i := 2) sc_Ltried.nd rfl (.inl rfl) (pe_called (t1 := t1) (t2 := t2) hz hf (pe_var (i := 3) rfl (.inl rfl) (by decide) (by decide))))) .nil)))
    (pss_one (ps_ret (pe_tup (pa_cons (pe_var (i := 1) rfl (.inl rfl) (by decide) (by decide)) (pa_cons (pe_var (i := 2) rfl (.inl rfl) (by decide) (by decide)) pa_nil))))))), ?_⟩
  · refine ⟨fun pins s' σ H' D I h' => ?_⟩
    obtain ⟨Ech, hW, a1, a2, a3⟩ := h'
    exact (pss_one (ps_set (i := 1) sc_Ltried.nd rfl (.inl rfl) (act W pn xe Ech _ _ tk hW))).run pins s' σ H' D I ⟨a1, a2, a3⟩
  · refine ⟨fun σ' cls d H' => wAsMany X.K 3 _ _ _ cls d σ' H', fun cls d σ' H' w => w, rfl, hc, ?_⟩
    refine h _ _ (fun v H' hq => ?_) fun C dd z H' hC hdd hq => ?_
    · exact ⟨_, rfl, _, rfl, Nat.le_trans (show 2 ≤ 5 by decide) (by decide), hq⟩
    · have eC := hC t1 t2 m1 m2
      have fin : ∀ a, H' a = none → _ := fun a ha => hq
      rcases eC.fam with f1 | ⟨f1, f2⟩
      · refine ⟨true, f1, fun _ a ha => ?_, fun z => nomatch z⟩
        exact ⟨_, rfl, C, dd, z, rfl, rfl, eC, rfl, hdd, _, rfl, _, rfl, Nat.le_trans (show 2 ≤ 5 by decide) (by decide), hq⟩
      · refine ⟨false, f1, (fun z => nomatch z), fun _ => ⟨true, f2, fun _ a ha => ?_, fun z => nomatch z⟩⟩
        exact ⟨_, rfl, C, dd, z, rfl, rfl, eC, rfl, hdd, _, rfl, _, rfl, Nat.le_trans (show 2 ≤ 5 by decide) (by decide), hq⟩
end R60

set_option Elab.async false
set_option pp.maxSteps 400
set_option linter.all false
set_option maxRecDepth 100000
set_option maxHeartbeats 1000000
namespace R60
open PySem PySem.Spec PyProof.Rows L2
/-! ### what a lambda's making leaves -/
abbrev Xn := @LamX.ExtN
/-- the fixed heap without the tables of code objects -/
def noT (F : Hp) : Hp := fun b => match F b with
  | some (.tbl _) => none
  | o => o
theorem noT_x {F : Hp} : LamX.ExtN F (noT F) := fun b o h n => by
  unfold noT
  rw [h]
  cases o <;> first | rfl | exact absurd rfl (n _)
theorem noT_some {F : Hp} {b : Addr} {o : HO} (h : noT F b = some o) : F b = some o ∧ ∀ ps, o ≠ .tbl ps := by
  unfold noT at h
  cases hf : F b with
  | none => rw [hf] at h; cases h
  | some u =>
    rw [hf] at h
    cases u with
    | tbl ps => cases h
    | _ => cases h; exact ⟨rfl, fun _ z => by cases z⟩
theorem noT_none {F : Hp} {b : Addr} (h : F b = none) : noT F b = none := by
  unfold noT
  rw [h]
theorem noT_ex {F H H1 : Hp} (e : Ex F H) (x : LamX.ExtN H H1) : Ex (noT F) H1 := fun b o h => by
  obtain ⟨h1, h2⟩ := noT_some h
  exact x b o (e b o h1) h2
theorem noT_of {F F' : Hp} (e : Ex F F') : LamX.ExtN F (noT F') := (LamX.ExtN.of e).trans noT_x
def Ntt (T : Ty) : Prop := ∀ v F G, LamX.ExtN F G → T.p v F → T.p v G
section
variable {K : PySem.W.Frag} {F G : Hp}
theorem xn_sqt {a : Addr} {xs : List V} (e : LamX.ExtN F G) (h : SqT K F a xs) : SqT K G a xs := by
  rcases h with (h | ⟨o, h⟩) | h
  · exact .inl (.inl (e _ _ h fun _ z => nomatch z))
  · exact .inl (.inr ⟨o, e _ _ h fun _ z => nomatch z⟩)
  · exact .inr h
theorem DAs.xn {ds : List D} {vs : List V} (e : LamX.ExtN F G) (h : DAs K F ds vs) : DAs K G ds vs := by
  induction h with
  | nil => exact .nil
  | non _ ih => exact .non ih
  | bl _ ih => exact .bl ih
  | int _ ih => exact .int ih
  | str _ ih => exact .str ih
  | lst h _ _ i1 i2 => exact .lst (e _ _ h fun _ z => nomatch z) i1 i2
  | tup h _ _ i1 i2 => exact .tup (xn_sqt e h) i1 i2
theorem HoldsA.xn (e : LamX.ExtN F G) {Ts : List Ty} {vs : List V} (h : HoldsA Ts vs F) (n : ∀ T ∈ Ts, Ntt T) : HoldsA Ts vs G := h.imp fun T hT v p => n T hT v F G e p
theorem KvT.xn {κ : Type} (e : LamX.ExtN F G) {kts : List (κ × Ty)} {vs : List (κ × V)} (h : KvT kts vs F) (n : ∀ q ∈ kts, Ntt q.2) : KvT kts vs G := h.imp fun q hq v p => n q hq v F G e p
theorem ntt_is {d : D} : Ntt (Is K d) := fun v F G e p => DAs.xn e p
theorem ntt_vl {u : V} : Ntt (Vl u) := fun v F G e p => p
theorem ntt_tut {Ts : List Ty} (n : ∀ T ∈ Ts, Ntt T) : Ntt (TuT K Ts) := fun v F G e ⟨a, vs, h1, h2, h3⟩ => ⟨a, vs, h1, xn_sqt e h2, h3.xn e n⟩
theorem ntt_lst {Ts : List Ty} (n : ∀ T ∈ Ts, Ntt T) : Ntt (LsT Ts) := fun v F G e ⟨a, vs, h1, h2, h3⟩ => ⟨a, vs, h1, e _ _ h2 (fun _ z => nomatch z), h3.xn e n⟩
theorem ntt_dic {kts : List (L2.Key × Ty)} (n : ∀ q ∈ kts, Ntt q.2) : Ntt (DicT kts) := fun v F G e ⟨a, vs, h1, h2, h3⟩ => ⟨a, vs, h1, e _ _ h2 (fun _ z => nomatch z), h3.xn e n⟩
theorem ntt_ins {C : Addr} {kts : List (Str × Ty)} (n : ∀ q ∈ kts, Ntt q.2) : Ntt (InsT C kts) := fun v F G e ⟨a, dx, vs, h1, h2, h3⟩ => ⟨a, dx, vs, h1, e _ _ h2 (fun _ z => nomatch z), h3.xn e n⟩
theorem ntt_lsP {P : Ty} {k : Nat} (n : Ntt P) : Ntt (LsP P k) := fun v F G e ⟨a, vs, h1, h2, h3, h4⟩ => ⟨a, vs, h1, e _ _ h2 (fun _ z => nomatch z), h3, fun u hu => n _ _ _ e (h4 u hu)⟩
theorem ntt_kn {ps : List (Int × Int)} : Ntt (KnT K ps) := ntt_dic fun q hq => by
  obtain ⟨t, _, rfl⟩ := List.mem_map.mp hq
  exact ntt_is
theorem mem3 {A B C : Ty} (a : Ntt A) (b : Ntt B) (c : Ntt C) : ∀ T ∈ [A, B, C], Ntt T := fun T hT => by
  rcases List.mem_cons.mp hT with rfl | hT
  · exact a
  · rcases List.mem_cons.mp hT with rfl | hT
    · exact b
    · rw [List.mem_singleton.mp hT]; exact c
theorem mem2 {A B : Ty} (a : Ntt A) (b : Ntt B) : ∀ T ∈ [A, B], Ntt T := fun T hT => by
  rcases List.mem_cons.mp hT with rfl | hT
  · exact a
  · rw [List.mem_singleton.mp hT]; exact b
theorem ntt_lt {p : Tp} : Ntt (LtT K p) := ntt_lst (mem3 ntt_is ntt_kn ntt_is)
theorem ntt_lb {b : Bk} : Ntt (LbT K b) := ntt_dic fun q hq => by
  unfold tk at hq
  obtain ⟨t, _, rfl⟩ := List.mem_map.mp hq
  exact ntt_lt
theorem ntt_map {MC : Addr} {b : Int} {ps : List (Int × Int)} : Ntt (MapT K MC b ps) := ntt_ins fun q hq => by
  rcases List.mem_cons.mp hq with rfl | hq
  · exact ntt_is
  · rw [List.mem_singleton.mp hq]; exact ntt_kn
theorem ntt_tape {MC TC : Addr} {t : Tp} : Ntt (TapeT K MC TC t) := ntt_ins fun q hq => by
  rcases List.mem_cons.mp hq with rfl | hq
  · exact ntt_map
  · rw [List.mem_singleton.mp hq]; exact ntt_is
theorem ntt_book {MC TC : Addr} {b : Bk} : Ntt (BookT K MC TC b) := ntt_dic fun q hq => by
  unfold tk at hq
  obtain ⟨t, _, rfl⟩ := List.mem_map.mp hq
  exact ntt_tape
theorem ntt_ent {MC TC : Addr} {e : Deed × Bk} : Ntt (entT K MC TC e) := ntt_tut (mem2 ntt_is ntt_book)
end
/-- a state that goes through a lambda's making -/
def NttM (m : Mu) : Prop := ∀ F H G H1, m.I F H → LamX.ExtN F G → (∀ b, F b = none → G b = none) → LamX.ExtN H H1 → m.I G H1
/-- a state that others' work leaves -/
def Rb (m : Mu) : Prop := ∀ (U : Addr → Prop) F H F' H', (∀ b, m.U b → ¬ U b) → Gr U F H F' H' → m.I F H → m.I F' H'
theorem nttM_dk {K : PySem.W.Frag} {MC TC DC x pl al : Addr} {d : Dk} {u : Int} : NttM (mDk K MC TC DC x pl al d u) := fun F H G H1 ⟨dx, bv, ev, ps, as, h1, h2, h3, ⟨f1, f2, f3⟩, ne, t1, t2, t3⟩ e n eh =>
  ⟨dx, bv, ev, ps, as, eh _ _ h1 (fun _ z => nomatch z), eh _ _ h2 (fun _ z => nomatch z), eh _ _ h3 (fun _ z => nomatch z), ⟨n _ f1, n _ f2, n _ f3⟩, ne, ntt_book _ _ _ e t1, t2.xn e fun T hT => by
    obtain ⟨q, _, rfl⟩ := List.mem_map.mp hT
    exact ntt_ent, t3.xn e fun T hT => by
    obtain ⟨q, _, rfl⟩ := List.mem_map.mp hT
    exact ntt_ent⟩
theorem rb_dk {K : PySem.W.Frag} {MC TC DC x pl al : Addr} {d : Dk} {u : Int} : Rb (mDk K MC TC DC x pl al d u) := fun U F H F' H' nU g ⟨dx, bv, ev, ps, as, h1, h2, h3, ⟨f1, f2, f3⟩, ne, t1, t2, t3⟩ =>
  ⟨dx, bv, ev, ps, as, g.hh _ _ (nU _ (.inl rfl)) h1, g.hh _ _ (nU _ (.inr (.inl rfl))) h2, g.hh _ _ (nU _ (.inr (.inr rfl))) h3, ⟨g.nw _ f1 (by rw [h1]; simp), g.nw _ f2 (by rw [h2]; simp), g.nw _ f3 (by rw [h3]; simp)⟩, ne, (BookT K MC TC d.b).mono _ _ _ g.ff t1, t2.mono g.ff, t3.mono g.ff⟩
theorem nttM_draw {d : Dr} : NttM (mDraw d) := fun F H G H1 ⟨s, h1, h2, h3, h4, h5⟩ e n eh => ⟨s, eh _ _ h1 (fun _ z => nomatch z), n _ h2, h3, e _ _ h4 (fun _ z => nomatch z), h5⟩
theorem rb_draw {d : Dr} : Rb (mDraw d) := fun U F H F' H' nU g ⟨s, h1, h2, h3, h4, h5⟩ => ⟨s, g.hh _ _ (nU _ rfl) h1, g.nw _ h2 (by rw [h1]; simp), h3, g.ff _ _ h4, h5⟩
/-- a list that may change, the kinds in it -/
def mLs (a : Addr) (Ts : List Ty) : Mu where
  U b := b = a
  I F H := ∃ vs, H a = some (.lst vs) ∧ F a = none ∧ HoldsA Ts vs F
  st := fun F H F' H' g ⟨vs, h1, h2, h3⟩ => ⟨vs, g.same _ _ h1, g.nw _ h2 (by rw [h1]; simp), h3.mono g.ff⟩
  up := fun F H b ⟨vs, h1, _⟩ hb => by rw [hb, h1]; simp
  loc := fun F H H' q ⟨vs, h1, h2, h3⟩ => ⟨vs, (q _ rfl).trans h1, h2, h3⟩
  add := fun F H p o hp f0 ⟨vs, h1, h2, h3⟩ => ⟨vs, h1, by rw [upd_ne (fun z => hp z.symm)]; exact h2, h3.mono fun b u z => by rw [upd_ne (ne_of_none z f0)]; exact z⟩
theorem nttM_ls {a : Addr} {Ts : List Ty} (h : ∀ T ∈ Ts, Ntt T) : NttM (mLs a Ts) := fun F H G H1 ⟨vs, h1, h2, h3⟩ e n eh => ⟨vs, eh _ _ h1 (fun _ z => nomatch z), n _ h2, h3.xn e h⟩
theorem rb_ls {a : Addr} {Ts : List Ty} : Rb (mLs a Ts) := fun U F H F' H' nU g ⟨vs, h1, h2, h3⟩ => ⟨vs, g.hh _ _ (nU _ rfl) h1, g.nw _ h2 (by rw [h1]; simp), h3.mono g.ff⟩
theorem NttM.and {m1 m2 : Mu} (a : NttM m1) (b : NttM m2) : NttM (mAnd m1 m2) := fun F H G H1 h e n eh => ⟨a _ _ _ _ h.1 e n eh, b _ _ _ _ h.2 e n eh⟩
theorem Rb.and {m1 m2 : Mu} (a : Rb m1) (b : Rb m2) : Rb (mAnd m1 m2) := fun U F H F' H' nU g h => ⟨a U _ _ _ _ (fun c hc => nU c (.inl hc)) g h.1, b U _ _ _ _ (fun c hc => nU c (.inr hc)) g h.2⟩
theorem Gr.wider {U U' : Addr → Prop} {F H F' H' : Hp} (g : Gr U F H F' H') (h : ∀ b, U b → U' b) : Gr U' F H F' H' := ⟨g.ff, g.fh, fun b o n e => g.hh b o (fun z => n (h b z)) e, g.dm, g.nw⟩
/-- places that were not yet there need not be named -/
theorem Gr.fewer {U U' : Addr → Prop} {F H F' H' : Hp} (g : Gr U F H F' H') (h : ∀ b, U b → U' b ∨ H b = none) : Gr U' F H F' H' := ⟨g.ff, g.fh, fun b o n e => g.hh b o (fun z => (h b z).elim n fun q => by rw [q] at e; cases e) e, g.dm, g.nw⟩
theorem Sub.andL {m1 m2 : Mu} (r : Rb m2) (d : ∀ b, m2.U b → ¬ m1.U b) : Sub m1 (mAnd m1 m2) := ⟨fun _ _ h => h.1, fun F H F' H' g i i' => ⟨g.wider fun b h => .inl h, i', r _ _ _ _ _ d g i.2⟩⟩
theorem Sub.andR {m1 m2 : Mu} (r : Rb m1) (d : ∀ b, m1.U b → ¬ m2.U b) : Sub m2 (mAnd m1 m2) := ⟨fun _ _ h => h.2, fun F H F' H' g i i' => ⟨g.wider fun b h => .inr h, r _ _ _ _ _ d g i.1, i'⟩⟩
theorem Sub.trans {m1 m2 m3 : Mu} (a : Sub m1 m2) (b : Sub m2 m3) : Sub m1 m3 := ⟨fun F H h => a.i _ _ (b.i _ _ h), fun F H F' H' g i i' => by
  obtain ⟨g2, i2⟩ := a.g _ _ _ _ g (b.i _ _ i) i'
  exact b.g _ _ _ _ g2 i i2⟩
/-! ### tables of code objects, kept -/
def TE_ : HO → Prop
  | .tbl _ => True
  | .ext _ => True
  | _ => False
def Kp (H H' : Hp) : Prop := ∀ b o, H b = some o → TE_ o → H' b = some o
theorem Kp.trans {H H1 H2 : Hp} (a : Kp H H1) (b : Kp H1 H2) : Kp H H2 := fun c o h t => b c o (a c o h t) t
theorem Kp.refl (H : Hp) : Kp H H := fun _ _ h _ => h
theorem Kp.gr {U : Addr → Prop} {F H F' H' : Hp} (g : Gr U F H F' H') (n : ∀ b, U b → ∀ o, H b = some o → ¬ TE_ o) : Kp H H' := fun b o h t => g.hh b o (fun z => n b z o h t) h
theorem Kp.gr0 {F H F' H' : Hp} (g : Gr0 F H F' H') : Kp H H' := Kp.gr g fun _ z => z.elim
theorem Kp.upd {H : Hp} {a : Addr} {o o' : HO} (h : H a = some o) (n : ¬ TE_ o) : Kp H (upd H a o') := fun b u e t => by
  rw [upd_ne (fun z => by rw [z, h] at e; cases e; exact n t)]
  exact e
theorem Kp.new {H : Hp} {a : Addr} {o' : HO} (h : H a = none) : Kp H (L2.upd H a o') := fun b u e t => by
  rw [upd_ne (ne_of_none e h)]
  exact e
theorem tabs_kp {T : List (Addr × Str)} {H H' : Hp} (t : LamX.Tabs T H) (k : Kp H H') : LamX.Tabs T H' := fun p hp => by
  obtain ⟨ps, h1, h2, h3⟩ := t p hp
  refine ⟨ps, k _ _ h1 trivial, h2, fun pos cv hc => ?_⟩
  obtain ⟨c, e1, e2⟩ := h3 pos cv hc
  exact ⟨c, e1, k _ _ e2 trivial⟩
end R60

set_option Elab.async false
set_option pp.maxSteps 400
set_option linter.all false
set_option maxRecDepth 100000
set_option maxHeartbeats 1000000
namespace R60
open PySem PySem.Spec PyProof.Rows L2
def NoTE (m : Mu) : Prop := ∀ F H b o, m.I F H → m.U b → H b = some o → ¬ TE_ o
theorem noTE_dk {K : PySem.W.Frag} {MC TC DC x pl al : Addr} {d : Dk} {u : Int} : NoTE (mDk K MC TC DC x pl al d u) := fun F H b o ⟨dx, bv, ev, ps, as, h1, h2, h3, _⟩ hb ho => by
  rcases hb with rfl | rfl | rfl
  · rw [h1] at ho; cases ho; exact id
  · rw [h2] at ho; cases ho; exact id
  · rw [h3] at ho; cases ho; exact id
theorem noTE_draw {d : Dr} : NoTE (mDraw d) := fun F H b o ⟨s, h1, _⟩ hb ho => by
  rw [show b = d.a from hb, h1] at ho; cases ho; exact id
theorem noTE_ls {a : Addr} {Ts : List Ty} : NoTE (mLs a Ts) := fun F H b o ⟨s, h1, _⟩ hb ho => by
  rw [show b = a from hb, h1] at ho; cases ho; exact id
theorem NoTE.and {m1 m2 : Mu} (a : NoTE m1) (b : NoTE m2) : NoTE (mAnd m1 m2) := fun F H c o h hc ho => hc.elim (fun z => a F H c o h.1 z ho) fun z => b F H c o h.2 z ho
theorem NoTE.kp {m : Mu} (n : NoTE m) {F H F' H' : Hp} (i : m.I F H) (g : Gr m.U F H F' H') : Kp H H' := Kp.gr g fun b z o h => n F H b o i z h
/-! ### from one to the next, whatever they ask -/
section
variable {X : Cx} {m : Mu} {E : XK} {Γ : Gam} {e a b c o value ix : Expr} {P T : Ty} {Ts : List Ty} {pos pos' p apos cpos spos p2 : Pos} {j k : Nat} {rest body orelse : List Stmt} {D : Ends} {σ : L2.St} {F H : Hp} {Q : VK} {x y mn : Str} {sp : Sp} {C d : Addr}
theorem go_setR (i : Nat) (h : i < σ.length → tSem X e σ H fun v H' => tSemS X rest D (σ.set i (some v)) H') (hN : X.N.Nodup) (hi : X.N[i]? = some x := by rfl) (hx : Loc X.env.scope x := by first | exact Or.inl rfl | exact Or.inr rfl)
    (hs : swapsWith e (some (.Name x pos')) pos.line X.env = pure false := by rfl) (hf : X.fn x = true ∨ X.env.scope.names.lookup x = some .local := by first | exact .inl rfl | exact .inr rfl) : tSemS X (.Assign [.Name x pos'] e pos :: rest) D σ H := fun pins s I =>
  (pss_cons (ps_set hN hi hx sem hs hf) semS).run pins s σ H D I (h (by
    rw [I.len]
    exact (List.getElem?_eq_some_iff.mp hi).1))
theorem go_exprR (h : tSem X e σ H fun _ H' => tSemS X rest D σ H') (hs : swapsWith e none pos.line X.env = pure false := by rfl) : tSemS X (.Expr e pos :: rest) D σ H := fun pins s I => (pss_cons (ps_expr sem hs) semS).run pins s σ H D I h
theorem go_retR (h : tSem X e σ H D.rt) : tSemS X (.Return (some e) pos :: rest) D σ H := fun pins s I => (pss_cons (ps_ret sem) semS).run pins s σ H D I h
theorem go_ifR (h : tSemT X c σ H fun b H' => if b = true then tSemS X body { D with nx := tSemS X rest D } σ H' else tSemS X orelse { D with nx := tSemS X rest D } σ H') : tSemS X (.If c body orelse pos :: rest) D σ H := fun pins s I => (pss_cons (ps_if semT semS semS) semS).run pins s σ H D I h
theorem tSem_ifT (h : EvT X m Γ c (Eq true)) (g : Good m Γ σ F H) (kk : ∀ F' H', Gr m.U F H F' H' → m.I F' H' → tSem X a σ H' Q) : tSem X (.IfExp c a b pos) σ H Q := fun pins s I =>
  (pe_ifExp semT sem sem).run pins s σ H Q I (h σ F H g _ fun k F1 H1 g1 i1 e => by
    subst e
    exact kk F1 H1 g1 i1)
theorem tSem_ifF (h : EvT X m Γ c (Eq false)) (g : Good m Γ σ F H) (kk : ∀ F' H', Gr m.U F H F' H' → m.I F' H' → tSem X b σ H' Q) : tSem X (.IfExp c a b pos) σ H Q := fun pins s I =>
  (pe_ifExp semT sem sem).run pins s σ H Q I (h σ F H g _ fun k F1 H1 g1 i1 e => by
    subst e
    exact kk F1 H1 g1 i1)
theorem tSem_meth0 {r : Addr} (c : MetX X.prog X.w X.K X.mg X.base k C mn sp) (hr : Room j X.A) (hk : k ≤ j) (hx : Passes (L2.CX X.prog X.w) X E) (ho : EvE X m Γ o (Vl (.ref r))) (g : Good m Γ σ F H) (hI : ∀ F H, m.I F H → ∃ dx fs, H r = some (.ins C dx fs) ∧ fs.lookup mn = none)
    (kk : ∀ F1 H1, Gr m.U F H F1 H1 → m.I F1 H1 → sp [.ref r] H1 Q E) {pl : Sem Bool}
    (ht : eval (.Call (.Attribute o mn apos) [] [] pos) X.env = (do
      let ov ← eval o X.env
      standAt apos.atName
      let (f, first) ← holding [ov] (getMethod ov mn pl)
      callWith pos f first (backTo pos (starEach [] X.env)) (backToKw pos (keywordEach [] X.env))) := by rfl) : tSem X (.Call (.Attribute o mn apos) [] [] pos) σ H Q := fun pins s I =>
  (pe_mx0 c hr hk hx sem ht).run pins s σ H Q I (ho σ F H g _ fun u F1 H1 g1 i1 p1 => by
    obtain rfl : u = .ref r := p1
    obtain ⟨dx, fs, e1, e2⟩ := hI F1 H1 i1
    exact ⟨r, dx, fs, rfl, e1, e2, kk F1 H1 g1 i1⟩)
theorem tSem_meth {r : Addr} {es : List Expr} {Ps : List Ty} (c : MetX X.prog X.w X.K X.mg X.base k C mn sp) (hr : Room j X.A) (hk : k ≤ j) (hx : Passes (L2.CX X.prog X.w) X E) (ho : EvE X m Γ o (Vl (.ref r))) (ha : EvA X m Γ (e :: es) Ps) (g : Good m Γ σ F H) (hI : ∀ F H, m.I F H → ∃ dx fs, H r = some (.ins C dx fs) ∧ fs.lookup mn = none)
    (kk : ∀ vs F1 H1, Gr m.U F H F1 H1 → m.I F1 H1 → HoldsA Ps vs F1 → sp (.ref r :: vs) H1 Q E)
    (hst : starEach (e :: es) X.env = (false, eval e X.env) :: starEach es X.env := by rfl) (hpl : (backTo pos (starEach es X.env)).any (·.1) = false := by rfl) {pl : Sem Bool}
    (ht : eval (.Call (.Attribute o mn apos) (e :: es) [] pos) X.env = (do
      let ov ← eval o X.env
      standAt apos.atName
      let (f, first) ← holding [ov] (getMethod ov mn pl)
      callWith pos f first (backTo pos (starEach (e :: es) X.env)) (backToKw pos (keywordEach [] X.env))) := by rfl) : tSem X (.Call (.Attribute o mn apos) (e :: es) [] pos) σ H Q := fun pins s I =>
  (pe_mx c hr hk hx sem semA hst hpl ht).run pins s σ H Q I (ho σ F H g _ fun u F1 H1 g1 i1 p1 => by
    obtain rfl : u = .ref r := p1
    obtain ⟨dx, fs, e1, e2⟩ := hI F1 H1 i1
    exact ⟨r, dx, fs, rfl, e1, e2, ha σ F1 H1 (g.next g1 i1) _ fun vs F2 H2 g2 i2 p2 => by
      rw [List.append_nil]
      exact kk vs F2 H2 (Gr.trans g1 g2) i2 p2⟩)
theorem tSem_call {es : List Expr} {Ps : List Ty} (c : CalX X.prog X.w X.K X.mg X.base k x sp) (hr : Room j X.A) (hk : k ≤ j) (hx : Passes (L2.CX X.prog X.w) X E) (ha : EvA X m Γ (e :: es) Ps) (g : Good m Γ σ F H)
    (kk : ∀ vs F1 H1, Gr m.U F H F1 H1 → m.I F1 H1 → HoldsA Ps vs F1 → sp vs H1 Q E) (hg : Gl X x := by rfl)
    (hdb : (x == ("__debug__" : Str)) = false := by decide) (he : starEach (e :: es) X.env = (false, eval e X.env) :: starEach es X.env := by rfl) (hpl : (backTo pos (starEach es X.env)).any (·.1) = false := by rfl) : tSem X (.Call (.Name x p) (e :: es) [] pos) σ H Q := fun pins s I =>
  (pe_cx c hr hk hg hx semA hdb he hpl).run pins s σ H Q I (ha σ F H g _ fun vs F1 H1 g1 i1 p1 => by
    show sp (vs ++ []) H1 Q E
    rw [List.append_nil]
    exact kk vs F1 H1 g1 i1 p1)
theorem tSem_make0 (c : MakX X.prog X.w X.K X.mg X.base k x C sp []) (hr : Room j X.A) (hk : k + 1 ≤ j) (hx : Passes (L2.CX X.prog X.w) X E) (kk : ∀ y dx, H y = none → H dx = none → dx ≠ y → sp [.ref y] (upd (upd H dx (.own y)) y (.ins C dx [])) (fun v H2 => v = .non ∧ Q (.ref y) H2) E) (hg : Gl X x := by rfl) (hdb : (x == ("__debug__" : Str)) = false := by decide) :
    tSem X (.Call (.Name x p) [] [] pos) σ H Q := fun pins s I => (pe_nx0 c hr hk hg hx hdb).run pins s σ H Q I fun y dx h1 h2 h3 => kk y dx h1 h2 h3
/-- two arguments, whatever they ask -/
theorem tSem_call2 (c : CalX X.prog X.w X.K X.mg X.base k x sp) (hr : Room j X.A) (hk : k ≤ j) (hx : Passes (L2.CX X.prog X.w) X E) (h : tSem X a σ H fun v H1 => tSem X b σ H1 fun u H2 => sp [v, u] H2 Q E) (hg : Gl X x := by rfl)
    (hdb : (x == ("__debug__" : Str)) = false := by decide) (he : starEach [a, b] X.env = (false, eval a X.env) :: starEach [b] X.env := by rfl) (he2 : starEach [b] X.env = (false, eval b X.env) :: starEach [] X.env := by rfl) (hpl : (backTo pos (starEach [b] X.env)).any (·.1) = false := by rfl) : tSem X (.Call (.Name x p) [a, b] [] pos) σ H Q := fun pins s I =>
  (pe_cx c hr hk hg hx (pa_cons sem (pa_cons sem pa_nil he2) he) hdb he hpl).run pins s σ H Q I h
theorem tSemT_val {S : Bool → Hp → Prop} (h : tSem X e σ H fun v H' => ∃ b, v = .bl b ∧ S b H') (he : ∀ whole, isTrue e X.env whole = (do let v ← whole; standAt e.pos; holding [v] (truthy v)) := by intro _; rfl) : tSemT X e σ H S := fun pins s I => (pt_val sem he).run pins s σ H S I h
theorem tSemT_not {S : Bool → Hp → Prop} (h : tSemT X a σ H fun b H' => S (!b) H') : tSemT X (.UnaryOp .Not a pos) σ H S := fun pins s I => (pt_not semT).run pins s σ H S I h
theorem tSem_cmp {op : CmpOp} {r : R2} (ho : OpR X (compareOp op) r) (hm : behindInMarks op b = false) (h : tSem X a σ H fun v H1 => tSem X b σ H1 fun u H2 => r v u H2 Q) : tSem X (.Compare a [op] [b] pos) σ H Q := fun pins s I => (pe_cmpR ho sem sem hm).run pins s σ H Q I h
theorem go_parR (i i' : Nat) {px py pt pt2 : Pos} {kt k2} (h : i < σ.length → i' < σ.length → tSem X a σ H fun v H1 => tSem X b σ H1 fun u H2 => tSemS X rest D ((σ.set i (some v)).set i' (some u)) H2)
    (hN : X.N.Nodup) (hc : X.calm = true := by rfl) (hij : i ≠ i' := by decide) (hi : X.N[i]? = some x := by rfl) (hj : X.N[i']? = some y := by rfl) (hx : X.env.scope.names.lookup x = some .local := by rfl) (hy : X.env.scope.names.lookup y = some .local := by rfl)
    (hw : swappedStores [.Tuple [.Name x px, .Name y py] kt pt] (.Tuple [a, b] k2 pt2) X.env = pure (some [x, y]) := by rfl)
    (hs : swapsWithSole [.Tuple [.Name x px, .Name y py] kt pt] (.Tuple [a, b] k2 pt2) pos.line X.env = pure false := by rfl) (he : starEach [a, b] X.env = (false, eval a X.env) :: starEach [b] X.env := by rfl) (he2 : starEach [b] X.env = (false, eval b X.env) :: starEach [] X.env := by rfl) : tSemS X (.Assign [.Tuple [.Name x px, .Name y py] kt pt] (.Tuple [a, b] k2 pt2) pos :: rest) D σ H := fun pins s I =>
  (pss_cons (ps_par hc hN hi hj hij hx hy (pa_cons sem (pa_cons sem pa_nil he2) he) hw hs) semS).run pins s σ H D I (by
    intro pins s I
    refine thn (h (by rw [I.len]; exact (List.getElem?_eq_some_iff.mp hi).1) (by rw [I.len]; exact (List.getElem?_eq_some_iff.mp hj).1) pins s I) fun v s1 ⟨v', H1, I1, r1, h1⟩ => ?_
    exact ⟨v', H1, I1, r1, fun pins s I => thn (h1 pins s I) fun v s1 ⟨u', H2, I2, r2, h2⟩ => ⟨u', H2, I2, r2, v', u', rfl, h2⟩⟩)
/-! ### lists that may change -/
theorem e_lenM {n : Nat} (hm : X.mg "len" = none) (ho : EvE X m Γ o (Vl (.ref d))) (hI : ∀ F H, m.I F H → ∃ vs, H d = some (.lst vs) ∧ vs.length = n) (hg : Gl X "len" := by rfl) (hs : starEach [o] X.env = [(false, eval o X.env)] := by rfl) (hpl : (backTo pos (starEach [] X.env)).any (·.1) = false := by rfl) : EvE X m Γ (.Call (.Name "len" p) [o] [] pos) (Is X.K (.int n)) :=
  EvE.of (pe_callB call_len hg hm PySem.boot_len semA (by decide) (by decide) hs hpl) fun σ F H Q g q => (a_cons ho a_nil hs) σ F H g _ fun vs F1 H1 g1 i1 p1 => by
    obtain ⟨v, rfl, p2⟩ := one_of p1
    obtain rfl : v = .ref d := p2
    obtain ⟨us, h1, h2⟩ := hI F1 H1 i1
    exact ⟨_, us.length, rfl, .inl ⟨us, SqL.of h1, rfl⟩, q _ F1 H1 g1 i1 (by rw [h2]; exact .int .nil)⟩
theorem t_ne0M {b : Bool} {lp : Pos} (hr : Room j X.A) (ho : EvE X m Γ o (Vl (.ref d))) (hx : ∀ F H, m.I F H → ∃ vs, H d = some (.lst vs) ∧ vs.isEmpty = b) (hm : behindInMarks .NotEq (.List [] lp) = false := by rfl) : EvT X m Γ (.Compare o [.NotEq] [.List [] lp] pos) (Eq (!b)) :=
  EvT.of (pt_cmpR (op_ne0 (Nat.lt_of_succ_lt (hu_of hr))) sem sem hm) fun σ F H Q g q => ev_two ho (e_lstD ad_nil) g fun v u F1 H1 g1 gg p1 p2 => by
    obtain ⟨l, xs, rfl, h2, h3⟩ := DAt.l p2
    obtain rfl := h3.nl
    obtain ⟨vs, e1, e2⟩ := hx F1 H1 gg.i
    exact ⟨d, l, vs, p1, rfl, e1, gg.ex _ _ h2, _, rfl, q _ F1 H1 g1 gg.i (by rw [e2]; rfl)⟩
theorem e_ixAtT {k : Nat} (ha : EvE X m Γ a (TuT X.K Ts)) (hb : EvE X m Γ b (Is X.K (.int k))) (hk : Ts[k]? = some T) (hs : PlainIx b := by exact fun _ _ => rfl) : EvE X m Γ (.Subscript a b pos) T :=
  e_ix ix_tup ha hb (fun v u F H Q ex ⟨a, vs, e1, e2, e3⟩ p2 q => by
    have hl : k < vs.length := by
      rw [e3.len]
      exact (List.getElem?_eq_some_iff.mp hk).1
    obtain ⟨S, h1, h2⟩ := holdsA_get e3 (i := k) (v := vs[k]) (by simp [hl])
    rw [hk] at h1
    cases h1
    refine ⟨a, vs, k, vs[k], e1, DAt.i p2, ex_sqt ex e2, ?_, q _ F H (Gr.refl ex) h2⟩
    unfold atI ixN
    rw [if_pos (by omega), if_pos (by omega)]
    simp [hl]) hs
theorem cutV_from {xs : List V} {n : Nat} : cutV xs (some (n : Int)) none = xs.drop n := by
  unfold cutV
  have h1 : HT.sIx xs.length 0 (some (n : Int)) = min n xs.length := by rw [HT.sIx_nat]
  rw [h1]
  simp only [HT.sIx]
  rw [List.take_of_length_le (by rw [List.length_drop]; omega)]
  by_cases h : n ≤ xs.length
  · rw [Nat.min_eq_left h]
  · rw [Nat.min_eq_right (by omega), List.drop_of_length_le (Nat.le_refl _), List.drop_of_length_le (by omega)]
theorem holdsA_drop {F : Hp} : ∀ {Ts : List Ty} {vs : List V} (n : Nat), HoldsA Ts vs F → HoldsA (Ts.drop n) (vs.drop n) F
  | _, _, 0, h => h
  | [], [], n + 1, h => h
  | _ :: _, _ :: _, n + 1, h => holdsA_drop n h.2
theorem e_slM {kl : Nat} {lo : Expr} (ho : EvE X m Γ o (Vl (.ref d))) (hlo : EvE X m Γ lo (Is X.K (.int kl))) (hI : ∀ F H, m.I F H → ∃ vs, H d = some (.lst vs) ∧ HoldsA Ts vs F) : EvE X m Γ (.Subscript o (.Slice (some lo) none none p2) pos) (LsT (Ts.drop kl)) := by
  obtain ⟨tl, P1, r1⟩ := evo_pe (evo_some hlo)
  obtain ⟨th, P2, r2⟩ := evo_pe (X := X) (m := m) (Γ := Γ) evo_none
  refine EvE.of (pe_slice sl_list sem P1 P2) fun σ F H Q g q => ho σ F H g _ fun v F1 H1 g1 i1 p1 => r1 σ F1 H1 (g.next g1 i1) _ fun F2 H2 g2 i2 => r2 σ F2 H2 ((g.next g1 i1).next g2 i2) _ fun F3 H3 g3 i3 => ?_
  obtain rfl : v = .ref d := p1
  obtain ⟨vs, h1, h2⟩ := hI F3 H3 i3
  refine ⟨d, vs, rfl, SqL.of h1, fun p hp => ?_⟩
  have gn : Gr0 F3 H3 (upd F3 p (.lst (cutV vs (some (kl : Int)) none))) (upd H3 p (.lst (cutV vs (some (kl : Int)) none))) := Gr.new g3.fh hp
  refine q _ _ _ (((g1.trans g2).trans g3).trans gn.weak) (m.st _ _ _ _ gn i3) ⟨p, _, rfl, upd_same, ?_⟩
  have := (holdsA_drop kl h2).mono gn.ff
  rw [cutV_from]
  rw [cutV_from] at this
  exact this
theorem e_mulB {n : Nat} {x : R60.D} (ha : EvE X m Γ a (Is X.K (.lst [x]))) (hb : EvE X m Γ b (Is X.K (.int n))) (hn : n ≤ 1000) : EvE X m Γ (.BinOp a .Mult b pos) (Is X.K (.lst (List.replicate n x))) :=
  e_bin op_rep ha hb fun v u F H Q ex p1 p2 q => by
    obtain ⟨l, xs, rfl, h1, h2⟩ := DAt.l p1
    obtain rfl := DAt.i p2
    have hl := h2.length
    have hz : (1000 : Nat) ≤ sizeLine := by decide
    refine ⟨l, (n : Int), xs, rfl, rfl, ex _ _ h1, by omega, by omega, ?_, fun p hp => ?_⟩
    · rw [Int.toNat_natCast, ← hl]
      simp
      omega
    · rw [Int.toNat_natCast]
      have gn : Gr0 F H (upd F p (.lst (List.replicate n xs).flatten)) (upd H p (.lst (List.replicate n xs).flatten)) := Gr.new ex hp
      refine q _ _ _ gn (.lst upd_same ?_ .nil)
      obtain ⟨v, r, rfl, q1, q2⟩ := h2.un
      obtain rfl := q2.nl
      have e : ∀ k : Nat, DAs X.K (upd F p (.lst (List.replicate n [v]).flatten)) (List.replicate k x) (List.replicate k [v]).flatten := fun k => by
        induction k with
        | zero => exact .nil
        | succ k ih =>
          rw [List.replicate_succ, List.replicate_succ, List.flatten_cons]
          exact DAs.cons (q1.mono gn.ff) ih
      exact e n
/-- o.append(o2.pop()) -/
theorem go_appPop {o2 : Expr} {d2 : Addr} {vs us : List V} {v : V} {apos2 cpos2 : Pos} (ho : EvE X m0 Γ o (Vl (.ref d))) (ho2 : EvE X m0 Γ o2 (Vl (.ref d2))) (g : Good m0 Γ σ F H) (hx : H d = some (.lst vs)) (hx2 : H d2 = some (.lst (us ++ [v]))) (hne : d ≠ d2) (hl : vs.length < 100000)
    (kk : ∀ F' H', Gr0 F H F' H' → tSemS X rest D σ (L2.upd (L2.upd H' d2 (.lst us)) d (.lst (vs ++ [v])))) (mm : M1 X o "append" apos (.Call (.Attribute o2 "pop" apos2) [] [] cpos2) cpos := by exact ⟨rfl, rfl, rfl, rfl⟩) (hs : swapsWith (.Call (.Attribute o "append" apos) [.Call (.Attribute o2 "pop" apos2) [] [] cpos2] [] cpos) none spos.line X.env = pure false := by rfl)
    (h1 : starEach [.Call (.Attribute o2 "pop" apos2) [] [] cpos2] X.env = [(false, eval (.Call (.Attribute o2 "pop" apos2) [] [] cpos2) X.env)] := by rfl) (hpl : (backTo cpos (starEach [] X.env)).any (·.1) = false := by rfl)
    (hb : attributeBase o2 "pop" X.env (eval o2 X.env) = eval o2 X.env := by rfl) (hline : (apos2.endLine == cpos2.line) = true := by rfl) :
    tSemS X (.Expr (.Call (.Attribute o "append" apos) [.Call (.Attribute o2 "pop" apos2) [] [] cpos2] [] cpos) spos :: rest) D σ H := fun pins s I =>
  (pss_cons (ps_expr (pe_bm PySem.F.plainAttrs_list PySem.F.slot_list_append PySem.F.type_list_append mt_append sem (pa_cons (pe_bm0 PySem.F.plainAttrs_list PySem.F.slot_list_pop PySem.F.type_list_pop mt_pop sem hb hline) pa_nil h1) mm.base mm.few mm.line h1 hpl) hs) semS).run pins s σ H D I (ho σ F H g _ fun u F1 H1 g1 i1 p1 => by
    obtain rfl : u = .ref d := p1
    refine ⟨.inl ⟨rfl, vs, SqL.of (g1.same _ _ hx)⟩, ho2 σ F1 H1 (g.next g1 i1) _ fun u2 F2 H2 g2 i2 p2 => ?_⟩
    obtain rfl : u2 = .ref d2 := p2
    refine ⟨.inl ⟨rfl, _, SqL.of (g2.same _ _ (g1.same _ _ hx2))⟩, d2, us ++ [v], v, rfl, rfl, g2.same _ _ (g1.same _ _ hx2), by simp, ?_⟩
    rw [List.dropLast_concat]
    exact ⟨d, vs, v, rfl, rfl, by rw [upd_ne hne]; exact g2.same _ _ (g1.same _ _ hx), Nat.lt_of_lt_of_le hl (by decide), kk F2 H2 (Gr.trans g1 g2)⟩)
/-- _law_same of a list that is not fixed, and its like -/
theorem e_sameN {n : Nat} {tl : Addr} {ds : List R60.D} (c : CalX X.prog X.w X.K X.mg X.base (n + 1) "_law_same" (p_same X.K X.mg n)) (hr : Room j X.A) (hk : n + 1 ≤ j) (h1 : EvE X m Γ a (Vl (.ref tl))) (h2 : EvE X m Γ b (Is X.K (.lst ds))) (hI : ∀ F H, m.I F H → ∃ acc, H tl = some (.lst acc) ∧ F tl = none ∧ DAs X.K F ds acc) (hd : DOk n (.lst ds))
    (hg : Gl X "_law_same" := by rfl) (he : starEach [a, b] X.env = (false, eval a X.env) :: starEach [b] X.env := by rfl) (he2 : starEach [b] X.env = (false, eval b X.env) :: starEach [] X.env := by rfl) (hpl : (backTo pos (starEach [b] X.env)).any (·.1) = false := by rfl) : EvE X m Γ (.Call (.Name "_law_same" p) [a, b] [] pos) (Is X.K (.bl true)) :=
  EvE.of (pe_cx c hr hk hg passL (pa_cons sem (pa_cons sem pa_nil he2) he) (by decide) he hpl) fun σ F H Q g q => h1 σ F H g _ fun v F1 H1 g1 i1 p1 => h2 σ F1 H1 (g.next g1 i1) _ fun u F2 H2 g2 i2 p2 => by
    obtain rfl : v = .ref tl := p1
    obtain ⟨acc, e1, e2, e3⟩ := hI F2 H2 i2
    have ex : Ex F2 (upd F2 tl (.lst acc)) := fun b u z => by rw [upd_ne (ne_of_none z e2)]; exact z
    have ex2 : Ex (upd F2 tl (.lst acc)) H2 := fun b u z => by
      by_cases hb : b = tl
      · rw [hb, upd_same] at z
        rw [hb]
        cases z
        exact e1
      · rw [upd_ne hb] at z
        exact g2.fh _ _ z
    refine ⟨⟨.lst ds, hd⟩, upd F2 tl (.lst acc), ex2, trivial, ⟨.lst upd_same (e3.mono ex) .nil, p2.mono ex, trivial⟩, fun w F3 H3 g3 _ p3 => ?_⟩
    have g4 : Gr0 F2 H2 F2 H3 := ⟨Same.refl _, fun b o z => g3.fh _ _ (g3.ff _ _ (ex _ _ z)), g3.hh, g3.dm, fun b z _ => z⟩
    exact q w F2 H3 ((g1.trans g2).trans g4.weak) (m.st _ _ _ _ g4 i2) (by rw [show w = .bl true from DAt.b p3]; exact .bl .nil)
/-! ### loops -/
theorem go_forR {N : Nat} {tg : Expr} (W : Nat → L2.St → Hp → Prop) (hp : PassesOwn (model X.prog X.w) X.A X.env X.xe) (hc : X.calm = true) (hm : X.mg "range" = none) (h : EvE X m Γ a (IntS fun r => 0 ≤ r ∧ r ≤ N)) (hN : N ≤ 1000000) (g : Good m Γ σ F H)
    (w0 : ∀ F' H', Gr m.U F H F' H' → m.I F' H' → W 0 σ H') (step : ∀ (i : Nat) σ' H', i < N → W i σ' H' → tSemG X tg (.int i) σ' H' fun σ2 H2 => tSemS X body { nx := W (i + 1), ct := W (i + 1), bk := tSemS X rest D, rt := D.rt } σ2 H2) (stop : ∀ (i : Nat) σ' H', i ≤ N → W i σ' H' → tSemS X rest D σ' H')
    (hg : Gl X "range" := by rfl) (hs : starEach [a] X.env = [(false, eval a X.env)] := by rfl) (hf : ∀ y, foldedSetIterable (.Call (.Name "range" p) [a] [] cpos) X.env y = pure y := by intro _; rfl) : tSemS X (.For tg (.Call (.Name "range" p) [a] [] cpos) body [] pos :: rest) D σ H := fun pins s I =>
  (pss_cons (ps_for hp hc (pi_range1 hg hm semA hs) semG semS hf) semS).run pins s σ H D I ((a_cons h a_nil hs) σ F H g _ fun vs F1 H1 g1 i1 p1 => by
    obtain ⟨v, rfl, r, rfl, h0, h1⟩ := one_of p1
    obtain ⟨n, rfl⟩ := Int.eq_ofNat_of_zero_le h0
    refine ⟨(n : Int), rfl, by omega, by omega, ?_⟩
    rw [Int.toNat_natCast]
    refine ⟨fun i left σ' H' => i ≤ n ∧ left = n - i ∧ W i σ' H', ⟨n, by omega, rfl, w0 F1 H1 g1 i1⟩, ?_⟩
    rintro i left σ' H' ⟨hi, rfl, w⟩
    by_cases hl : i < n
    · refine .inr ⟨hl, W (i + 1), fun σ2 H2 w2 => ⟨n - (i + 1), by omega, by omega, rfl, w2⟩, ?_⟩
      rintro y H2 ⟨rfl, rfl⟩
      rw [Int.zero_add]
      exact step i σ' H2 (by omega) w
    · exact .inl ⟨by show n ≤ i; omega, stop i σ' H' (by omega) w⟩)
theorem go_forL {bs : List Bool} {tg iter : Expr} (hp : PassesOwn (model X.prog X.w) X.A X.env X.xe) (hc : X.calm = true) (h : EvE X m Γ iter (Is X.K (.lst (bs.map R60.D.bl)))) (g : Good m Γ σ F H)
    (kk : ∀ r F' H', Gr m.U F H F' H' → m.I F' H' → F' r = some (.lst (bs.map V.bl)) → ∃ W : Nat → L2.St → Hp → Prop, W 0 σ H' ∧ (∀ i σ' H', W i σ' H' → H' r = some (.lst (bs.map V.bl))) ∧ (∀ i b σ' H', bs[i]? = some b → W i σ' H' → tSemG X tg (.bl b) σ' H' fun σ2 H2 => tSemS X body { nx := W (i + 1), ct := W (i + 1), bk := tSemS X rest D, rt := D.rt } σ2 H2) ∧ (∀ i σ' H', W i σ' H' → tSemS X rest D σ' H'))
    (hf : ∀ y, foldedSetIterable iter X.env y = pure y := by intro _; rfl) : tSemS X (.For tg iter body [] pos :: rest) D σ H := fun pins s I =>
  (pss_cons (ps_for hp hc (pi_list sem) semG semS hf) semS).run pins s σ H D I (h σ F H g _ fun v F1 H1 g1 i1 p1 => by
    obtain ⟨r, vs, rfl, h1, h2⟩ := DAt.l p1
    obtain rfl := h2.isBls
    obtain ⟨W, w0, wh, step, stop⟩ := kk r F1 H1 g1 i1 h1
    refine ⟨r, rfl, ⟨_, SqL.of (g1.fh _ _ h1)⟩, fun i left σ' H' => left = bs.length - i ∧ W i σ' H', ⟨bs.length, rfl, w0⟩, ?_⟩
    rintro i left σ' H' ⟨rfl, w⟩
    have hH := wh i σ' H' w
    by_cases hl : i < bs.length
    · refine .inr ⟨⟨_, .bl bs[i], SqL.of hH, by simp [hl]⟩, W (i + 1), fun σ2 H2 w2 => ⟨bs.length - (i + 1), by omega, rfl, w2⟩, ?_⟩
      rintro y H2 ⟨rfl, hy⟩
      have := hy _ (SqL.of hH)
      rw [List.getElem?_map, List.getElem?_eq_getElem hl] at this
      cases this
      exact step i bs[i] σ' H2 (by simp [hl]) w
    · exact .inl ⟨⟨_, SqL.of hH, by simp; omega⟩, stop i σ' H' w⟩)
end
end R60

set_option Elab.async false
set_option pp.maxSteps 400
set_option linter.all false
set_option maxRecDepth 100000
set_option maxHeartbeats 4000000
namespace R60
open PySem PySem.Spec PyProof.Rows L2
/-! _law_begin -/
section
variable {w : World} {K : PySem.W.Frag} {mg : Str → Option Value} {base : Heap} {MC TC DC : Addr}
def p_begin (K : PySem.W.Frag) : Sp := fun vs H Q _ => ∃ (a : Addr) (ns : List Int) (F : Hp), vs = [.ref a] ∧ SqL K H a (ns.map .int) ∧ ns.length ≤ 63 ∧ Ex F H ∧
  ∀ d cl F' H', Gr0 F H F' H' → H d = none → F' d = none → H' d = some (.lst [.ref cl, .int 0, .int 0, .int 1, .int 0]) → F' cl = some (.lst (ns.map .int)) → Q (.ref d) H'
theorem fl_begin (T : Txt w K mg MC TC DC) : CalX PG w K mg base 1 "_law_begin" (p_begin K) := by
  refine cal_of T.d_Lbegin sc_Lbegin bd_Lbegin (fun vs H Q E ⟨a, ns, F, h, _⟩ => by rw [h] <;> rfl) ?_
  intro f cdv A outer s H us Q E hr h
  obtain ⟨a, ns, F, rfl, hsq, hn, ex, q⟩ := h
  refine ⟨_, semS, go_retR fun pins s' I => (pe_lst (pa_cons (pe_callTy call_list_of (by rfl) T.n_list (by decide +kernel) (pa_cons (pe_slice sl_list (pe_var (i := 0) (by rfl) (.inl (by rfl)) (by decide) (by decide)) po_none (po_some pe_int)) pa_nil)) (pa_cons pe_int (pa_cons pe_int (pa_cons pe_int (pa_cons pe_int pa_nil)))))).run pins s' _ _ _ I ?_⟩
  refine ⟨_, rfl, 63, rfl, a, _, rfl, hsq, fun p1 h1 => ?_⟩
  have ecut : cutV (ns.map V.int) none (some 63) = ns.map V.int := by
    unfold cutV
    rw [show (63 : Int) = ((63 : Nat) : Int) from rfl, HT.sIx_nat, show HT.sIx (ns.map V.int).length 0 none = 0 from rfl]
    rw [List.drop_zero, List.take_of_length_le]
    rw [List.length_map]
    omega
  rw [ecut]
  refine ⟨p1, _, rfl, .inl (SqL.of upd_same), fun cl hcl => ⟨Nat.le_trans (show 5 ≤ 5 by decide) (by decide), fun d hd => ?_⟩⟩
  have g1 : Gr0 F H F (upd H p1 (.lst (ns.map V.int))) := Gr.scratch ex h1
  have g2 := Gr.new (U := fun _ => False) (o := .lst (ns.map V.int)) g1.fh hcl
  have g3 : Gr0 _ _ _ (upd (upd (upd H p1 (.lst (ns.map V.int))) cl (.lst (ns.map V.int))) d (.lst [.ref cl, .int 0, .int 0, .int 1, .int 0])) := Gr.scratch g2.fh hd
  refine q d cl _ _ ((g1.trans g2).trans g3) ((g1.trans g2).dm _ hd) (Same.free g2.fh hd) upd_same upd_same
end
end R60

set_option Elab.async false
set_option pp.maxSteps 400
set_option linter.all false
set_option maxRecDepth 100000
set_option maxHeartbeats 4000000
namespace R60
open PySem PySem.Spec PyProof.Rows L2
/-! the law's world: its deck, its draws, what it holds of past and ahead -/
theorem dok_deed {d : Deed} (h : d.fit) : DOk 2 d.d := by
  have leaf : ∀ {xs : List R60.D}, xs.length ≤ 100000 → (∀ x ∈ xs, DOk 1 x) → DOk 2 (.tup xs) := fun h1 h2 => ⟨h1, h2⟩
  have hs : ∀ {z : Str}, DOk 1 (.str z) := dok_leaf trivial
  have hi : ∀ {i : Int}, DOk 1 (.int i) := dok_leaf trivial
  have two : ∀ {a b : R60.D}, DOk 1 a → DOk 1 b → ∀ x ∈ [a, b], DOk 1 x := fun {a b} h1 h2 x hx => by
    rcases List.mem_cons.mp hx with rfl | hx
    · exact h1
    · rw [List.mem_singleton.mp hx]; exact h2
  have con : ∀ {a : R60.D} {r : List R60.D}, DOk 1 a → (∀ x ∈ r, DOk 1 x) → ∀ x ∈ a :: r, DOk 1 x := fun {a r} h1 h2 x hx => by
    rcases List.mem_cons.mp hx with rfl | hx
    · exact h1
    · exact h2 x hx
  have nil : ∀ x ∈ ([] : List R60.D), DOk 1 x := fun x hx => nomatch hx
  cases d with
  | put n i e => exact leaf (by simp [Deed.th]) (con hs (con hs (con hi (con (dok_ev h.2.n) nil))))
  | drop n => exact leaf (by simp [Deed.th]) (con hs (con hs nil))
  | add n => exact leaf (by simp [Deed.th]) (con hs (con hs nil))
  | new n b => exact leaf (by simp [Deed.th]) (con hs (con hs (con hi nil)))
  | take n i p => exact leaf (by simp [Deed.th]) (con hs (con hs (con hi (con hi nil))))
  | later n i p => exact leaf (by simp [Deed.th]) (con hs (con hs (con hi (con hi nil))))
  | part n i p => exact leaf (by simp [Deed.th]) (con hs (con hs (con hi (con hi nil))))
  | pace n i p => exact leaf (by simp [Deed.th]) (con hs (con hs (con hi (con hi nil))))
theorem dok_row {d : Deed} (h : d.fit) : DOk 3 (.lst [d.d]) := ⟨by simp, fun x hx => by
  rw [List.mem_singleton.mp hx]
  exact dok_deed h⟩
/-- where a def stands whose code object is known -/
def DefT (K : PySem.W.Frag) (mg : Str → Option Value) (x qual : Str) (st : Stmt) (c : Addr) : Prop := ∃ (f : Addr) (oc : Value) (od : Option Addr) (kV doc pm : Value) (an : Option Addr) (ct : Value) (osl : Array (Option Value)), mg x = some (.ref f) ∧
  K.lookup f = some ⟨oc, od, .func (PySem.W.fnOf x qual (defArgs st) (defBody st) (defScope st) .none kV doc pm an (.ref c) ct), osl⟩ ∧ PySem.W.codeIn K (.ref c) qual = true ∧ PySem.W.keepIn K (.ref f) = true
theorem cal_ofT {P : Program} {w : World} {K : PySem.W.Frag} {mg : Str → Option Value} {base : Heap} {x : Str} {st : Stmt} {c : Addr} {N ps : List Str} {k : Nat} {sp : Sp} (D : DefT K mg x x st c) (S : FnScope N ps (defScope st)) (b : BindH x x st ps) (len : ∀ vs H Q E, sp vs H Q E → vs.length = ps.length)
    (hb : ∀ (f : Addr) (A : Around) (outer : List Env) (s : Shared) (H : Hp) (vs : List V) (Q : VK) (E : XK), Room k (A.deeper (envOfC x (defScope st) s.heap.objs.size f (.ref c))) → sp vs H Q E →
      ∃ t, PSs (cxOf (L2.CX P w) P w K mg base N x (defScope st) f (.ref c) A outer s H E) (defBody st) t ∧ t { nx := fun _ H' => Q .non H', rt := Q } (start N vs) H) : CalX P w K mg base (k + 1) x sp := by
  obtain ⟨f, oc, od, kV, doc, pm, an, ct, osl, h1, lk, hcd, hk⟩ := D
  exact ⟨f, _, ps, h1, hk, (fun_mk lk hcd hk).binds b, fn_of lk hcd S len fun A outer s H vs Q E hr h => hb f A outer s H vs Q E hr h⟩
/-- _law_tried(lambda: ..) -/
theorem pe_tried {X : Cx} {MC TC DC : Addr} (Tx : Txt X.w X.K X.mg MC TC DC) {T : List (Addr × Str)} {c P : Addr} {k : Nat} {params : Arguments} {body : Expr} {scope : Scope} {t : XK → TE} {p lpos pos : Pos} (TB : LamX.TabB X.base X.mg c P) (hcode : X.env.code = .ref c) (hmT : (P, X.env.qual ++ "<lambda>") ∈ T) (hu : ∀ p ∈ T, p.1 = P → p.2 = X.env.qual ++ "<lambda>") (hr : Room (k + 2) X.A)
    (L : LamX.LamS X.env.scope scope) (hdef : defaultsOf params X.env = ([], [])) (hbind : ∀ (q : Str) (cl : List (Str × Addr)) (pm cv ctv : Value), bindArgs (PySem.W.kla_fn "<lambda>" q params body scope cl pm cv ctv) ⟨[], []⟩ = pure [])
    (hbody : ∀ (A : Around) (outer : List Env) (s : Shared) (H : Hp) (E : XK) (f c' : Addr), Room k (A.deeper (LamX.lamEnv X scope s.heap.objs.size f c')) → PE (LamX.lamCx X A outer s H E scope f c') body (t E)) (hg : Gl X "_law_tried" := by rfl) :
    PE X (.Call (.Name "_law_tried" p) [.Lambda params body scope lpos] [] pos) (LamX.tLam T (TTried X.K X.mg) t) := by
  obtain ⟨g, fd, hm, F⟩ := Tx.d_Ltried
  obtain ⟨oc, od, kV, doc, pm, an, cdv, ct, osl, rfl, lk, hcd⟩ := F.ex
  exact pe_lamS hg hm F.kp lk hcd (F.binds bd_Ltried) sc_Ltried (by rfl) (.inl (by rfl)) (tried_gives Tx) TB hcode hmT hu hr L hdef hbind hbody
/-! the world -/
structure Wd where
  i : DkR
  dr : Dr
  sl : Addr
  hl : Addr
  ss : List (Deed × Bk)
  as : List (Deed × Bk)
def rowD (ds : List Deed) : R60.D := .lst (ds.map Deed.d)
def stT (K : PySem.W.Frag) (e : List Deed × Bk) : Ty := TuT K [Is K (rowD e.1), LbT K e.2]
def Wd.st (w : Wd) : List (List Deed × Bk) := ([], []) :: w.ss.map fun e => ([e.1], e.2)
def Wd.ah (w : Wd) : List (List Deed × Bk) := w.as.map fun e => ([e.1], e.2)
def Wd.mR (K : PySem.W.Frag) (w : Wd) : Mu := mAnd (mDraw w.dr) (mAnd (mLs w.sl (w.st.map (stT K))) (mLs w.hl (w.ah.map (stT K))))
def Wd.m (K : PySem.W.Frag) (MC TC DC : Addr) (w : Wd) : Mu := mAnd (mDr K MC TC DC w.i) (w.mR K)
noncomputable def pastB : Bk → List (Deed × Bk) → List (Deed × Bk)
  | _, [] => []
  | b0, (d, b) :: r => (d, nrmB b0) :: pastB b r
def lastB : Bk → List (Deed × Bk) → Bk
  | b0, [] => b0
  | _, (_, b) :: r => lastB b r
theorem pastB_snoc {d : Deed} {b : Bk} : ∀ {ss : List (Deed × Bk)} {b0 : Bk}, pastB b0 (ss ++ [(d, b)]) = pastB b0 ss ++ [(d, nrmB (lastB b0 ss))]
  | [], b0 => rfl
  | (d1, b1) :: r, b0 => congrArg ((d1, nrmB b0) :: ·) (pastB_snoc (ss := r) (b0 := b1))
theorem lastB_snoc {d : Deed} {b : Bk} : ∀ {ss : List (Deed × Bk)} {b0 : Bk}, lastB b0 (ss ++ [(d, b)]) = b
  | [], b0 => rfl
  | (d1, b1) :: r, b0 => lastB_snoc (ss := r) (b0 := b1)
theorem pastB_len : ∀ {ss : List (Deed × Bk)} {b0 : Bk}, (pastB b0 ss).length = ss.length
  | [], b0 => rfl
  | (d1, b1) :: r, b0 => congrArg (· + 1) (pastB_len (ss := r) (b0 := b1))
structure Wd.Ok (w : Wd) : Prop where
  db : w.i.d.b = nrmB (lastB [] w.ss)
  dp : w.i.d.past = pastB [] w.ss
  da : w.i.d.ahead = w.as.map fun e => (e.1, nrmB e.2)
  bs : ∀ e ∈ w.ss, LawB e.2 ∧ e.1.fit
  ba : ∀ e ∈ w.as, LawB e.2 ∧ e.1.fit
  n : w.ss.length + w.as.length ≤ 100
  d1 : ∀ b, (b = w.sl ∨ b = w.hl ∨ b = w.dr.a) → ¬ (b = w.i.x ∨ b = w.i.pl ∨ b = w.i.al)
  d2 : w.sl ≠ w.hl
  d3 : w.dr.a ≠ w.sl ∧ w.dr.a ≠ w.hl
theorem ntt_st {K : PySem.W.Frag} {e : List Deed × Bk} : Ntt (stT K e) := ntt_tut (mem2 ntt_is ntt_lb)
theorem ntt_stm {K : PySem.W.Frag} {es : List (List Deed × Bk)} : ∀ T ∈ es.map (stT K), Ntt T := fun T hT => by
  obtain ⟨e, _, rfl⟩ := List.mem_map.mp hT
  exact ntt_st
section
variable {K : PySem.W.Frag} {MC TC DC : Addr} {w : Wd}
theorem Wd.ntt : NttM (w.m K MC TC DC) := nttM_dk.and (nttM_draw.and ((nttM_ls ntt_stm).and (nttM_ls ntt_stm)))
theorem Wd.rb : Rb (w.m K MC TC DC) := rb_dk.and (rb_draw.and (rb_ls.and rb_ls))
theorem Wd.rbR : Rb (w.mR K) := rb_draw.and (rb_ls.and rb_ls)
theorem Wd.te : NoTE (w.m K MC TC DC) := noTE_dk.and (noTE_draw.and (noTE_ls.and noTE_ls))
theorem Wd.uR {b : Addr} (h : (w.mR K).U b) : b = w.sl ∨ b = w.hl ∨ b = w.dr.a := by
  rcases h with h | h | h
  · exact .inr (.inr h)
  · exact .inl h
  · exact .inr (.inl h)
theorem Wd.Ok.sub (h : w.Ok) : Sub (mDr K MC TC DC w.i) (w.m K MC TC DC) := Sub.andL Wd.rbR fun b hb => h.d1 b (Wd.uR hb)
theorem Wd.Ok.subD (h : w.Ok) : Sub (mDraw w.dr) (w.m K MC TC DC) := Sub.trans (Sub.andL (rb_ls.and rb_ls) fun b hb z => by
  rcases hb with hb | hb
  · exact h.d3.1 ((show b = w.dr.a from z).symm.trans hb)
  · exact h.d3.2 ((show b = w.dr.a from z).symm.trans hb)) (Sub.andR rb_dk fun b hb z => h.d1 b (Wd.uR z) hb)
end
end R60

set_option Elab.async false
set_option pp.maxSteps 400
set_option linter.all false
set_option maxRecDepth 100000
set_option maxHeartbeats 4000000
namespace R60
open PySem PySem.Spec PyProof.Rows L2
/-! _law_swung -/
abbrev NSW : List Str := ["_law_deck", "_law_back", "_law_stands", "_law_ahead", "_law_one_here", "_law_other", "_law_told", "_law_good"]
def swIf : List Stmt := match defBody s_Lswung with
  | .If _ b _ _ :: _ => b
  | _ => []
theorem atI_last {α : Type} {vs : List α} {v : α} : atI (vs ++ [v]) (-1) = some v := by
  unfold atI ixN
  rw [if_neg (by omega), if_pos (by simp; omega)]
  have e : (-1 + (((vs ++ [v]).length : Nat) : Int)).toNat = vs.length := by simp; omega
  simp only [Option.bind_some]
  rw [e]
  simp
/-- a list as it stands -/
def mLx (a : Addr) (vs : List V) : Mu where
  U b := b = a
  I F H := H a = some (.lst vs) ∧ F a = none
  st := fun F H F' H' g ⟨h1, h2⟩ => ⟨g.same _ _ h1, g.nw _ h2 (by rw [h1]; simp)⟩
  up := fun F H b ⟨h1, _⟩ hb => by rw [hb, h1]; simp
  loc := fun F H H' q ⟨h1, h2⟩ => ⟨(q _ rfl).trans h1, h2⟩
  add := fun F H p o hp f0 ⟨h1, h2⟩ => ⟨h1, by rw [upd_ne (fun z => hp z.symm)]; exact h2⟩
theorem rb_lx {a : Addr} {vs : List V} : Rb (mLx a vs) := fun U F H F' H' nU g ⟨h1, h2⟩ => ⟨g.hh _ _ (nU _ rfl) h1, g.nw _ h2 (by rw [h1]; simp)⟩
theorem go_app0 {X : Cx} {Γ : Gam} {o e : Expr} {apos cpos spos : Pos} {rest : List Stmt} {D : Ends} {σ : L2.St} {F H : Hp} {a : Addr} {Tv : Ty} {vs : List V} (ho : EvE X m0 Γ o (Vl (.ref a))) (he : EvE X m0 Γ e Tv) (g : Good m0 Γ σ F H) (hx : H a = some (.lst vs)) (hl : vs.length < 100000)
    (k : ∀ v F' H', Gr0 F H F' H' → Tv.p v F' → tSemS X rest D σ (L2.upd H' a (.lst (vs ++ [v])))) (mm : M1 X o "append" apos e cpos := by exact ⟨rfl, rfl, rfl, rfl⟩) (hs : swapsWith (.Call (.Attribute o "append" apos) [e] [] cpos) none spos.line X.env = pure false := by rfl)
    (h1 : starEach [e] X.env = [(false, eval e X.env)] := by rfl) (hpl : (backTo cpos (starEach [] X.env)).any (·.1) = false := by rfl) :
    tSemS X (.Expr (.Call (.Attribute o "append" apos) [e] [] cpos) spos :: rest) D σ H := fun pins s I =>
  (pss_cons (ps_expr (pe_bm PySem.F.plainAttrs_list PySem.F.slot_list_append PySem.F.type_list_append mt_append sem semA mm.base mm.few mm.line h1 hpl) hs) semS).run pins s σ H D I (ho σ F H g _ fun u F1 H1 g1 i1 p1 => by
    obtain rfl : u = .ref a := p1
    refine ⟨.inl ⟨rfl, vs, SqL.of (g1.same _ _ hx)⟩, (a_cons he a_nil h1) σ F1 H1 (g.next g1 i1) _ fun us F2 H2 g2 i2 p2 => ?_⟩
    obtain ⟨v, rfl, p2⟩ := one_of p2
    exact ⟨a, vs, v, rfl, rfl, g2.same _ _ (g1.same _ _ hx), Nat.lt_of_lt_of_le hl (by decide), k v F2 H2 (Gr.trans g1 g2) p2.1⟩)
section
variable {w : World} {K : PySem.W.Frag} {mg : Str → Option Value} {base : Heap} {MC TC DC : Addr}
theorem sw_tail (T : Txt w K mg MC TC DC) {f : Addr} {cdv : Value} {A : Around} {outer : List Env} {s : Shared} {H0 : Hp} {E : XK} {D : Ends} {σ : L2.St} {F H : Hp} {a one oth : Addr} {acc us vs : List V} {v : V} {d : Deed} {b' : Bk} (hr : Room 6 (cxD PG w K mg base "_law_swung" s_Lswung NSW f cdv A outer s H0 E).A)
    (g : Good m0 [none, none, none, none, some (Vl (.ref one)), some (Vl (.ref oth)), some (Vl (.ref a)), none] σ F H) (ha : H a = some (.lst acc)) (fa : F a = none) (pa : HoldsA [Is K d.d] acc F) (h1 : H one = some (.lst (us ++ [v]))) (h2 : H oth = some (.lst vs)) (f1 : F one = none) (f2 : F oth = none) (n1 : oth ≠ one) (n2 : a ≠ one) (n3 : a ≠ oth)
    (pv : (stT K ([d], b')).p v F) (hd : DOk 3 (.lst [d.d])) (hl : vs.length < 1000)
    (kk : ∀ F' H', Gr (fun b => b = one ∨ b = oth ∨ b = a) F H F' H' → H' one = some (.lst us) → H' oth = some (.lst (vs ++ [v])) → D.rt (.bl true) H') : tSemS (cxD PG w K mg base "_law_swung" s_Lswung NSW f cdv A outer s H0 E) (swIf.drop 2) D σ H := by
  refine go_appPop (d := oth) (d2 := one) (vs := vs) (us := us) (v := v) (e_var 5 rfl) (e_var 4 rfl) g h2 h1 n1 (by omega) fun F1 H1 g1 => ?_
  have gr1 : Gr (fun b => b = one ∨ b = oth ∨ b = a) F H F1 H1 := g1.weak
  have k1 : H1 one = some (.lst (us ++ [v])) := g1.same _ _ h1
  have k2 : H1 oth = some (.lst vs) := g1.same _ _ h2
  have ka : H1 a = some (.lst acc) := g1.same _ _ ha
  have q1 : F1 one = none := g1.nw _ f1 (by rw [h1]; simp)
  have q2 : F1 oth = none := g1.nw _ f2 (by rw [h2]; simp)
  have qa : F1 a = none := g1.nw _ fa (by rw [ha]; simp)
  have gr2 := Gr.at_ (o := .lst us) gr1 (.inl rfl) (by rw [k1]; simp) q1
  have gr3 := Gr.at_ (b := oth) (o := .lst (vs ++ [v])) gr2 (.inr (.inl rfl)) (by rw [upd_ne n1, k2]; simp) q2
  have ha3 : (upd (upd H1 one (.lst us)) oth (.lst (vs ++ [v]))) a = some (.lst acc) := by rw [upd_ne n3, upd_ne n2]; exact ka
  have ho3 : (upd (upd H1 one (.lst us)) oth (.lst (vs ++ [v]))) one = some (.lst us) := by rw [upd_ne (Ne.symm n1), upd_same]
  have pv1 := (stT K ([d], b')).mono _ _ _ g1.ff pv
  have gd3 : Good (mAnd (mLx oth (vs ++ [v])) (mLx a acc)) [none, none, none, none, some (Vl (.ref one)), some (Vl (.ref oth)), some (Vl (.ref a)), none] σ F1 _ := ⟨gr3.fh, ⟨⟨upd_same, q2⟩, ⟨ha3, qa⟩⟩, g.h.mono g1.ff⟩
  obtain ⟨w0, rfl, pw⟩ := one_of pa
  have mem : ∀ F H, (mAnd (mFz F1 a (.lst [w0])) (mLx oth (vs ++ [v]))).I F H → ∃ acc, H a = some (.lst acc) ∧ F a = none ∧ DAs K F [d.d] acc := fun F H q => ⟨[w0], q.1.1, q.1.2.1, (DAs.mono g1.ff pw).mono q.1.2.2⟩
  have gd4 : Good (mAnd (mFz F1 a (.lst [w0])) (mLx oth (vs ++ [v]))) [none, none, none, none, some (Vl (.ref one)), some (Vl (.ref oth)), some (Vl (.ref a)), none] σ F1 _ := ⟨gr3.fh, ⟨⟨ha3, qa, Same.refl _⟩, ⟨upd_same, q2⟩⟩, g.h.mono g1.ff⟩
  refine go_set (m := mAnd (mFz F1 a (.lst [w0])) (mLx oth (vs ++ [v]))) 7 (e_sameN (n := 3) (tl := a) (ds := [d.d]) (fl_same T 3) hr (by decide) (e_var 6 rfl) (e_ixAtT (Ts := [Is K (rowD [d]), LbT K b']) (k := 0) (e_ixM (d := oth) (P := stT K ([d], b')) (e_var 5 rfl) (e_neg e_int) fun F H q => ⟨vs ++ [v], v, q.2.1, ?_, (stT K ([d], b')).mono _ _ _ q.1.2.2 pv1⟩) e_int rfl) mem hd) gd4 (fun v5 F5 H5 g5 i5 p5 gd5 => ?_) sc_Lswung.nd
  · exact atI_last
  refine go_app0 (a := a) (vs := [w0]) (Tv := Is K (.int 0)) (e_var 6 rfl) e_int ⟨gd5.ex, trivial, gd5.h⟩ i5.1.1 (by simp) fun v6 F6 H6 g6 p6 => ?_
  have gr5 : Gr (fun b => b = one ∨ b = oth ∨ b = a) F H F5 H5 := gr3.trans (g5.wider fun b hb => hb.elim (fun z => .inr (.inr z)) fun z => .inr (.inl z))
  have gr6 := gr5.trans g6.weak
  have qa6 : F6 a = none := g6.nw _ i5.1.2.1 (by rw [i5.1.1]; simp)
  have gr7 := Gr.at_ (b := a) (o := .lst ([w0] ++ [v6])) gr6 (.inr (.inr rfl)) (by rw [g6.same _ _ i5.1.1]; simp) qa6
  refine go_ret (m := m0) (P := Is K (.bl true)) (e_var 7 rfl) ⟨gr7.fh, trivial, gd5.h.mono g6.ff⟩ fun v8 F8 H8 g8 i8 p8 => ?_
  rw [show v8 = .bl true from DAt.b p8]
  refine kk F8 H8 (gr7.trans g8.weak) (g8.same _ _ ?_) (g8.same _ _ ?_)
  · rw [upd_ne (Ne.symm n2)]
    refine g6.same _ _ (g5.hh _ _ (fun z => z.elim (fun z => n2 z.symm) fun z => n1 z.symm) ho3)
  · rw [upd_ne (Ne.symm n3)]
    exact g6.same _ _ i5.2.1
/-! what undo and redo make of it -/
noncomputable def Wd.back (w : Wd) (ss : List (Deed × Bk)) (e : Deed × Bk) : Wd := ⟨⟨w.i.x, w.i.pl, w.i.al, ⟨nrmB (lastB [] ss), pastB [] ss, w.i.d.ahead ++ [(e.1, w.i.d.b)]⟩⟩, w.dr, w.sl, w.hl, ss, w.as ++ [e]⟩
noncomputable def Wd.forth (w : Wd) (as : List (Deed × Bk)) (e : Deed × Bk) : Wd := ⟨⟨w.i.x, w.i.pl, w.i.al, ⟨nrmB e.2, w.i.d.past ++ [(e.1, w.i.d.b)], as.map fun e => (e.1, nrmB e.2)⟩⟩, w.dr, w.sl, w.hl, w.ss ++ [e], as⟩
theorem Wd.Ok.back {w : Wd} (h : w.Ok) {ss : List (Deed × Bk)} {e : Deed × Bk} (hs : w.ss = ss ++ [e]) : (w.back ss e).Ok ∧ w.i.d.past = pastB [] ss ++ [(e.1, nrmB (lastB [] ss))] := by
  refine ⟨⟨rfl, rfl, ?_, fun q hq => h.bs q (by rw [hs]; exact List.mem_append_left _ hq), fun q hq => ?_, ?_, h.d1, h.d2, h.d3⟩, ?_⟩
  · show w.i.d.ahead ++ [(e.1, w.i.d.b)] = (w.as ++ [e]).map _
    rw [List.map_append, h.da, h.db, hs, lastB_snoc] <;> rfl
  · rcases List.mem_append.mp hq with hq | hq
    · exact h.ba q hq
    · exact h.bs q (by rw [hs, List.mem_singleton.mp hq]; simp)
  · have := h.n
    rw [hs] at this
    show ss.length + (w.as ++ [e]).length ≤ 100
    simp at this ⊢
    omega
  · rw [h.dp, hs, pastB_snoc]
theorem Wd.Ok.forth {w : Wd} (h : w.Ok) {as : List (Deed × Bk)} {e : Deed × Bk} (hs : w.as = as ++ [e]) : (w.forth as e).Ok ∧ w.i.d.ahead = (as.map fun e => (e.1, nrmB e.2)) ++ [(e.1, nrmB e.2)] := by
  refine ⟨⟨?_, ?_, rfl, fun q hq => ?_, fun q hq => h.ba q (by rw [hs]; exact List.mem_append_left _ hq), ?_, h.d1, h.d2, h.d3⟩, ?_⟩
  · show nrmB e.2 = nrmB (lastB [] (w.ss ++ [e]))
    rw [lastB_snoc]
  · show w.i.d.past ++ [(e.1, w.i.d.b)] = pastB [] (w.ss ++ [e])
    rw [pastB_snoc, h.dp, h.db]
  · rcases List.mem_append.mp hq with hq | hq
    · exact h.bs q hq
    · exact h.ba q (by rw [hs, List.mem_singleton.mp hq]; simp)
  · have := h.n
    rw [hs] at this
    show (w.ss ++ [e]).length + as.length ≤ 100
    simp at this ⊢
    omega
  · rw [h.da, hs, List.map_append] <;> rfl
def p_swung (K : PySem.W.Frag) (MC TC DC : Addr) (Tb : List (Addr × Str)) : Sp := fun vs H Q _ => ∃ (w : Wd) (b : Bool) (F : Hp), vs = [.ref w.i.x, .bl b, .ref w.sl, .ref w.hl] ∧ Ex F H ∧ (w.m K MC TC DC).I F H ∧ w.Ok ∧ LamX.Tabs Tb H ∧
  ∀ (w' : Wd) F' H', w'.i.x = w.i.x → w'.dr = w.dr → w'.sl = w.sl → w'.hl = w.hl → w'.ss.length + w'.as.length = w.ss.length + w.as.length → w'.Ok → LamX.ExtN F F' → Ex F' H' → (w'.m K MC TC DC).I F' H' → LamX.Tabs Tb H' → Q (.bl true) H'
abbrev GSW (w : Wd) (K : PySem.W.Frag) (b : Bool) : Gam := [some (Vl (.ref w.i.x)), some (Is K (.bl b)), some (Vl (.ref w.sl)), some (Vl (.ref w.hl)), none, none, none, none]
theorem Wd.ins {wd : Wd} {n : Str} (h : ([("book" : Str), "elder", "past", "ahead", "under"].all fun f => !(n == f)) = true) : ∀ F H, (wd.m K MC TC DC).I F H → ∃ dx fs, H wd.i.x = some (.ins DC dx fs) ∧ fs.lookup n = none := fun F H q => dk_ins h F H q.1
theorem holds_at {T : Ty} {σ : L2.St} {F : Hp} {Γ : Gam} {i : Nat} (h : Holds Γ σ F) (e : Γ[i]? = some (some T)) : ∃ v, σ[i]? = some (some v) ∧ T.p v F := h i T e
theorem sw_undo (T : Txt w K mg MC TC DC) {Tb : List (Addr × Str)} {f : Addr} {cdv : Value} {A : Around} {outer : List Env} {s : Shared} {H0 : Hp} {E : XK} {D : Ends} {σ : L2.St} {F H : Hp} {wd : Wd} {ss : List (Deed × Bk)} {e : Deed × Bk} (hr : Room 6 (cxD PG w K mg base "_law_swung" s_Lswung NSW f cdv A outer s H0 E).A)
    (g : Good (wd.m K MC TC DC) (GSW wd K true) σ F H) (ok : wd.Ok) (tb : LamX.Tabs Tb H) (hs : wd.ss = ss ++ [e])
    (kk : ∀ F' H', Ex F F' → Ex F' H' → ((wd.back ss e).m K MC TC DC).I F' H' → LamX.Tabs Tb H' → D.rt (.bl true) H') : tSemS (cxD PG w K mg base "_law_swung" s_Lswung NSW f cdv A outer s H0 E) swIf D σ H := by
  obtain ⟨okb, hpast⟩ := ok.back hs
  have hn := ok.n
  refine go_asg (T := TuT K [Vl (.ref wd.sl), Vl (.ref wd.hl)]) (e_if (S := Eq true) (t_bl (e_var 1 rfl)) (fun _ => e_tup (a_cons (e_var 2 rfl) (a_cons (e_var 3 rfl) a_nil)) (by show 2 ≤ sizeLine; decide) fun vs F p h1 h2 => ⟨p, vs, rfl, SqT.of h2, h1⟩) (fun h => nomatch h)) (tg_tup rfl (tg_cons (tg_name 4 sc_Lswung.nd) (tg_cons (tg_name 5 sc_Lswung.nd) tg_nil)) fun v F p => p) g fun σ1 F1 H1 g1 gd1 => ?_
  refine go_setR 6 (fun hlσ => tSem_ifT (t_bl (e_var 1 rfl)) gd1 fun F2 H2 g2 i2 => ?_) sc_Lswung.nd
  have gd2 := gd1.next g2 i2
  refine tSem_meth0 (E := E) (r := wd.i.x) (f_Deck_undo T) hr (by decide) passE (e_var 0 rfl) gd2 (Wd.ins (by decide +kernel)) fun F3 H3 g3 i3 => ?_
  have gd3 := gd2.next g3 i3
  have g03 := (g1.trans g2).trans g3
  have hlp : wd.i.d.past.length ≤ 1000 := by rw [ok.dp, pastB_len]; omega
  have hla : wd.i.d.ahead.length ≤ 1000 := by rw [ok.da, List.length_map]; omega
  refine ⟨wd.i, F3, rfl, g3.fh, i3.1, hlp, hla, fun h0 => absurd (hpast.symm.trans h0) (by simp), fun ps pe hp a acc F4 H4 g4 i4 h0 f0 ha pa => ?_⟩
  obtain ⟨rfl, he⟩ := List.append_inj' (hp.symm.trans hpast) rfl
  obtain rfl := (List.cons.inj he).1
  have iR := Wd.rbR _ _ _ _ _ (fun b hb => ok.d1 b (Wd.uR hb)) g4 i3.2
  obtain ⟨iD, ⟨vs1, l1, fl1, t1⟩, ⟨vs2, l2, fl2, t2⟩⟩ := iR
  have est : wd.st.map (stT K) = ((([], []) :: ss.map fun e => ([e.1], e.2)) : List (List Deed × Bk)).map (stT K) ++ [stT K ([e.1], e.2)] := by
    unfold Wd.st
    rw [hs, List.map_append]
    simp
  rw [est] at t1
  obtain ⟨us, v, rfl, t1, pv⟩ := holdsA_unsnoc t1
  obtain ⟨⟨s1, hs1, _⟩, ⟨s2, hs2, _⟩, ⟨s3, hs3, _⟩⟩ : (∃ dx, _ ∧ True) ∧ (∃ vs, H3 wd.sl = some (.lst vs) ∧ True) ∧ (∃ vs, H3 wd.hl = some (.lst vs) ∧ True) := by
    obtain ⟨iA, ⟨x1, y1, _⟩, ⟨x2, y2, _⟩⟩ := i3.2
    obtain ⟨dx, bv, ev, p1, p2, h1, h2, h3, _⟩ := i3.1
    exact ⟨⟨_, h1, trivial⟩, ⟨x1, y1, trivial⟩, ⟨x2, y2, trivial⟩⟩
  have na1 : a ≠ wd.sl := fun z => by rw [z, hs2] at h0; cases h0
  have na2 : a ≠ wd.hl := fun z => by rw [z, hs3] at h0; cases h0
  have naU : ∀ b, (b = wd.i.x ∨ b = wd.i.pl ∨ b = wd.i.al) → b ≠ a := fun b hb z => by
    have := (mDr K MC TC DC wd.i).up _ _ b i3.1 hb
    rw [z, h0] at this
    exact this rfl
  have hfit := (ok.bs e (by rw [hs]; simp)).2
  have hlen : vs2.length < 1000 := by
    have := HoldsA.len t2
    rw [List.length_map] at this
    unfold Wd.ah at this
    rw [List.length_map] at this
    omega
  refine sw_tail T (d := e.1) (b' := e.2) (a := a) (one := wd.sl) (oth := wd.hl) hr ⟨g4.fh, trivial, ?_⟩ ha f0 pa l1 l2 fl1 fl2 (Ne.symm ok.d2) na1 na2 pv (dok_row hfit) hlen fun F5 H5 g5 h51 h52 => ?_
  · exact (((((gd3.h.mono g4.ff).set (i := 6) (T := Vl (.ref a)) (v := .ref a) hlσ rfl).lose1 (i := 0)).lose1 (i := 1)).lose1 (i := 2)).lose1 (i := 3)
  · have nU : ∀ b, (b = wd.i.x ∨ b = wd.i.pl ∨ b = wd.i.al) → ¬ (b = wd.sl ∨ b = wd.hl ∨ b = a) := fun b hb z => by
      rcases z with z | z | z
      · exact ok.d1 b (.inl z) hb
      · exact ok.d1 b (.inr (.inl z)) hb
      · exact naU b hb z
    have i5 := rb_dk _ _ _ _ _ (fun b hb => nU b hb) g5 i4
    have iD5 := rb_draw _ _ _ _ _ (fun b (hb : b = wd.dr.a) => by
      rintro (z | z | z)
      · exact ok.d3.1 (hb.symm.trans z)
      · exact ok.d3.2 (hb.symm.trans z)
      · have := (mDraw wd.dr).up _ _ b i3.2.1 hb
        rw [z, h0] at this
        exact this rfl) g5 iD
    have fn1 : F5 wd.sl = none := g5.nw _ fl1 (by rw [l1]; simp)
    have fn2 : F5 wd.hl = none := g5.nw _ fl2 (by rw [l2]; simp)
    refine kk F5 H5 (g03.ff.trans (g4.ff.trans g5.ff)) g5.fh ⟨?_, iD5, ⟨us, h51, fn1, t1.mono g5.ff⟩, ⟨vs2 ++ [v], h52, fn2, ?_⟩⟩ ?_
    · exact i5
    · have := holdsA_snoc (t2.mono g5.ff) ((stT K ([e.1], e.2)).mono _ _ _ g5.ff pv)
      unfold Wd.ah Wd.back
      unfold Wd.ah at this
      rw [List.map_append, List.map_append]
      exact this
    · refine tabs_kp tb ((Wd.te.kp g.i g03).trans ((noTE_dk.kp i3.1 g4).trans (Kp.gr g5 fun b hb o ho => ?_)))
      rcases hb with rfl | rfl | rfl
      · rw [l1] at ho; cases ho; exact id
      · rw [l2] at ho; cases ho; exact id
      · rw [ha] at ho; cases ho; exact id
theorem sw_redo (T : Txt w K mg MC TC DC) {Tb : List (Addr × Str)} {f : Addr} {cdv : Value} {A : Around} {outer : List Env} {s : Shared} {H0 : Hp} {E : XK} {D : Ends} {σ : L2.St} {F H : Hp} {wd : Wd} {as : List (Deed × Bk)} {e : Deed × Bk} (hr : Room 6 (cxD PG w K mg base "_law_swung" s_Lswung NSW f cdv A outer s H0 E).A)
    (g : Good (wd.m K MC TC DC) (GSW wd K false) σ F H) (ok : wd.Ok) (tb : LamX.Tabs Tb H) (hs : wd.as = as ++ [e])
    (kk : ∀ F' H', Ex F F' → Ex F' H' → ((wd.forth as e).m K MC TC DC).I F' H' → LamX.Tabs Tb H' → D.rt (.bl true) H') : tSemS (cxD PG w K mg base "_law_swung" s_Lswung NSW f cdv A outer s H0 E) swIf D σ H := by
  obtain ⟨okb, hpast⟩ := ok.forth hs
  have hn := ok.n
  refine go_asg (T := TuT K [Vl (.ref wd.hl), Vl (.ref wd.sl)]) (e_if (S := Eq false) (t_bl (e_var 1 rfl)) (fun h => nomatch h) (fun _ => e_tup (a_cons (e_var 3 rfl) (a_cons (e_var 2 rfl) a_nil)) (by show 2 ≤ sizeLine; decide) fun vs F p h1 h2 => ⟨p, vs, rfl, SqT.of h2, h1⟩)) (tg_tup rfl (tg_cons (tg_name 4 sc_Lswung.nd) (tg_cons (tg_name 5 sc_Lswung.nd) tg_nil)) fun v F p => p) g fun σ1 F1 H1 g1 gd1 => ?_
  refine go_setR 6 (fun hlσ => tSem_ifF (t_bl (e_var 1 rfl)) gd1 fun F2 H2 g2 i2 => ?_) sc_Lswung.nd
  have gd2 := gd1.next g2 i2
  refine tSem_meth0 (E := E) (r := wd.i.x) (f_Deck_redo T) hr (by decide) passE (e_var 0 rfl) gd2 (Wd.ins (by decide +kernel)) fun F3 H3 g3 i3 => ?_
  have gd3 := gd2.next g3 i3
  have g03 := (g1.trans g2).trans g3
  have hlp : wd.i.d.past.length ≤ 1000 := by rw [ok.dp, pastB_len]; omega
  have hla : wd.i.d.ahead.length ≤ 1000 := by rw [ok.da, List.length_map]; omega
  refine ⟨wd.i, F3, rfl, g3.fh, i3.1, hlp, hla, fun h0 => absurd (hpast.symm.trans h0) (by simp), fun ps pe hp a acc F4 H4 g4 i4 h0 f0 ha pa => ?_⟩
  obtain ⟨rfl, he⟩ := List.append_inj' (hp.symm.trans hpast) rfl
  obtain rfl := (List.cons.inj he).1
  have iR := Wd.rbR _ _ _ _ _ (fun b hb => ok.d1 b (Wd.uR hb)) g4 i3.2
  obtain ⟨iD, ⟨vs1, l1, fl1, t1⟩, ⟨vs2, l2, fl2, t2⟩⟩ := iR
  have est : wd.ah.map (stT K) = ((as.map fun e => ([e.1], e.2)) : List (List Deed × Bk)).map (stT K) ++ [stT K ([e.1], e.2)] := by
    unfold Wd.ah
    rw [hs, List.map_append]
    simp
  rw [est] at t2
  obtain ⟨us, v, rfl, t2, pv⟩ := holdsA_unsnoc t2
  obtain ⟨⟨s1, hs1, _⟩, ⟨s2, hs2, _⟩, ⟨s3, hs3, _⟩⟩ : (∃ dx, _ ∧ True) ∧ (∃ vs, H3 wd.sl = some (.lst vs) ∧ True) ∧ (∃ vs, H3 wd.hl = some (.lst vs) ∧ True) := by
    obtain ⟨iA, ⟨x1, y1, _⟩, ⟨x2, y2, _⟩⟩ := i3.2
    obtain ⟨dx, bv, ev, p1, p2, h1, h2, h3, _⟩ := i3.1
    exact ⟨⟨_, h1, trivial⟩, ⟨x1, y1, trivial⟩, ⟨x2, y2, trivial⟩⟩
  have na1 : a ≠ wd.sl := fun z => by rw [z, hs2] at h0; cases h0
  have na2 : a ≠ wd.hl := fun z => by rw [z, hs3] at h0; cases h0
  have naU : ∀ b, (b = wd.i.x ∨ b = wd.i.pl ∨ b = wd.i.al) → b ≠ a := fun b hb z => by
    have := (mDr K MC TC DC wd.i).up _ _ b i3.1 hb
    rw [z, h0] at this
    exact this rfl
  have hfit := (ok.ba e (by rw [hs]; simp)).2
  have hlen : vs1.length < 1000 := by
    have := HoldsA.len t1
    rw [List.length_map] at this
    unfold Wd.st at this
    rw [List.length_cons, List.length_map] at this
    omega
  refine sw_tail T (d := e.1) (b' := e.2) (a := a) (one := wd.hl) (oth := wd.sl) hr ⟨g4.fh, trivial, ?_⟩ ha f0 pa l2 l1 fl2 fl1 ok.d2 na2 na1 pv (dok_row hfit) hlen fun F5 H5 g5 h51 h52 => ?_
  · exact (((((gd3.h.mono g4.ff).set (i := 6) (T := Vl (.ref a)) (v := .ref a) hlσ rfl).lose1 (i := 0)).lose1 (i := 1)).lose1 (i := 2)).lose1 (i := 3)
  · have nU : ∀ b, (b = wd.i.x ∨ b = wd.i.pl ∨ b = wd.i.al) → ¬ (b = wd.hl ∨ b = wd.sl ∨ b = a) := fun b hb z => by
      rcases z with z | z | z
      · exact ok.d1 b (.inr (.inl z)) hb
      · exact ok.d1 b (.inl z) hb
      · exact naU b hb z
    have i5 := rb_dk _ _ _ _ _ (fun b hb => nU b hb) g5 i4
    have iD5 := rb_draw _ _ _ _ _ (fun b (hb : b = wd.dr.a) => by
      rintro (z | z | z)
      · exact ok.d3.2 (hb.symm.trans z)
      · exact ok.d3.1 (hb.symm.trans z)
      · have := (mDraw wd.dr).up _ _ b i3.2.1 hb
        rw [z, h0] at this
        exact this rfl) g5 iD
    have fn1 : F5 wd.sl = none := g5.nw _ fl1 (by rw [l1]; simp)
    have fn2 : F5 wd.hl = none := g5.nw _ fl2 (by rw [l2]; simp)
    refine kk F5 H5 (g03.ff.trans (g4.ff.trans g5.ff)) g5.fh ⟨?_, iD5, ⟨vs1 ++ [v], h52, fn1, ?_⟩, ⟨us, h51, fn2, t2.mono g5.ff⟩⟩ ?_
    · exact i5
    · have := holdsA_snoc (t1.mono g5.ff) ((stT K ([e.1], e.2)).mono _ _ _ g5.ff pv)
      unfold Wd.st Wd.forth
      unfold Wd.st at this
      rw [List.map_append, List.map_cons, List.map_append]
      exact this
    · refine tabs_kp tb ((Wd.te.kp g.i g03).trans ((noTE_dk.kp i3.1 g4).trans (Kp.gr g5 fun b hb o ho => ?_)))
      rcases hb with rfl | rfl | rfl
      · rw [l2] at ho; cases ho; exact id
      · rw [l1] at ho; cases ho; exact id
      · rw [ha] at ho; cases ho; exact id
end
end R60

set_option Elab.async false
set_option pp.maxSteps 400
set_option linter.all false
set_option maxRecDepth 100000
set_option maxHeartbeats 1000000
namespace R60
open PySem PySem.Spec PyProof.Rows L2
/-! _law_swung: nothing left, and the whole -/
def swRet : List Stmt := (defBody s_Lswung).drop 1
abbrev qSW : Str := "_law_swung" ++ ".<locals>." ++ "<lambda>"
def swCall : Expr := match swRet with
  | [.Return (some (.Compare a _ _ _)) _] => a
  | _ => .Constant .none 0 ⟨0, 0, 0, 0⟩
def swLam : Expr := match swCall with
  | .Call _ [a] _ _ => a
  | _ => .Constant .none 0 ⟨0, 0, 0, 0⟩
def swBody : Expr := match swLam with
  | .Lambda _ b _ _ => b
  | _ => .Constant .none 0 ⟨0, 0, 0, 0⟩
def swScope : Scope := match swLam with
  | .Lambda _ _ s _ => s
  | _ => defScope s_Lswung
def swPar : Arguments := match swLam with
  | .Lambda a _ _ _ => a
  | _ => defArgs s_Lswung
section
variable {w : World} {K : PySem.W.Frag} {mg : Str → Option Value} {base : Heap} {MC TC DC : Addr}
def tSw (K : PySem.W.Frag) (mg : Str → Option Value) (MC TC DC : Addr) (E : XK) : TE := tIf (L2.tB (tVar 1)) (tMeth DC "undo" (p_Deck_undo K mg MC TC DC) [] E (tVar 0) tNil) (tMeth DC "redo" (p_Deck_redo K mg MC TC DC) [] E (tVar 0) tNil)
theorem sw_body (T : Txt w K mg MC TC DC) {f : Addr} {cdv : Value} {A : Around} {outer : List Env} {s : Shared} {H0 : Hp} {E : XK} (A1 : Around) (outer1 : List Env) (s1 : Shared) (H1 : Hp) (E1 : XK) (f1 c1 : Addr)
    (hr : Room 4 (A1.deeper (LamX.lamEnv (cxD PG w K mg base "_law_swung" s_Lswung NSW f cdv A outer s H0 E) swScope s1.heap.objs.size f1 c1))) :
    PE (LamX.lamCx (cxD PG w K mg base "_law_swung" s_Lswung NSW f cdv A outer s H0 E) A1 outer1 s1 H1 E1 swScope f1 c1) swBody (tSw K mg MC TC DC E1) := by
  have po : Passes (L2.CX PG w) (LamX.lamCx (cxD PG w K mg base "_law_swung" s_Lswung NSW f cdv A outer s H0 E) A1 outer1 s1 H1 E1 swScope f1 c1) E1 := passes_call (takes_of rfl rfl rfl rfl) fun _ _ _ _ h => h
  refine pe_ifExp (pt_val ?_) ?_ ?_
  · exact pe_var (i := 1) rfl (.inr (.inr rfl))
  · exact pe_mx0 (f_Deck_undo T) hr (by decide) po (pe_var (i := 0) rfl (.inr (.inr rfl)))
  · exact pe_mx0 (f_Deck_redo T) hr (by decide) po (pe_var (i := 0) rfl (.inr (.inr rfl)))
theorem sw_lam (T : Txt w K mg MC TC DC) {Tb : List (Addr × Str)} {c P : Addr} (B : LamX.TabB base mg c P) (hmT : (P, qSW) ∈ Tb) (hu : ∀ p ∈ Tb, p.1 = P → p.2 = qSW) {f : Addr} {A : Around} {outer : List Env} {s : Shared} {H0 : Hp} {E : XK} (hr : Room 6 (cxD PG w K mg base "_law_swung" s_Lswung NSW f (.ref c) A outer s H0 E).A) :
    PE (cxD PG w K mg base "_law_swung" s_Lswung NSW f (.ref c) A outer s H0 E) swCall (LamX.tLam Tb (TTried K mg) (tSw K mg MC TC DC)) := by
  have h1 : LamX.LamS (cxD PG w K mg base "_law_swung" s_Lswung NSW f (.ref c) A outer s H0 E).env.scope swScope  := LamX.lamS_by (show LamX.lamSB (defScope s_Lswung) swScope = true by decide +kernel)
  have h2 : defaultsOf swPar (cxD PG w K mg base "_law_swung" s_Lswung NSW f (.ref c) A outer s H0 E).env = ([], []) := rfl
  have h3 : ∀ (q : Str) (cl : List (Str × Addr)) (pm cv ctv : Value), bindArgs (PySem.W.kla_fn "<lambda>" q swPar swBody swScope cl pm cv ctv) ⟨[], []⟩ = pure [] := fun _ _ _ _ _ => rfl
  exact pe_tried (X := cxD PG w K mg base "_law_swung" s_Lswung NSW f (.ref c) A outer s H0 E) (k := 4) (params := swPar) (body := swBody) (scope := swScope) (t := tSw K mg MC TC DC) T B rfl hmT hu hr h1 h2 h3 fun A1 outer1 s2 H2 E1 f1 c1 hr1 => sw_body T A1 outer1 s2 H2 E1 f1 c1 hr1
theorem sw_none (T : Txt w K mg MC TC DC) {Tb : List (Addr × Str)} {c P : Addr} (B : LamX.TabB base mg c P) (hmT : (P, qSW) ∈ Tb) (hu : ∀ p ∈ Tb, p.1 = P → p.2 = qSW) {f : Addr} {A : Around} {outer : List Env} {s : Shared} {H0 : Hp} {E : XK} {D : Ends} {σ : L2.St} {F H : Hp} {wd : Wd} {b : Bool} (hr : Room 6 (cxD PG w K mg base "_law_swung" s_Lswung NSW f (.ref c) A outer s H0 E).A)
    (g : Good (wd.m K MC TC DC) (GSW wd K b) σ F H) (ok : wd.Ok) (tb : LamX.Tabs Tb H) (hs : b = true → wd.ss = []) (hs2 : b = false → wd.as = [])
    (kk : ∀ F' H', LamX.ExtN F F' → Ex F' H' → (wd.m K MC TC DC).I F' H' → LamX.Tabs Tb H' → D.rt (.bl true) H') : tSemS (cxD PG w K mg base "_law_swung" s_Lswung NSW f (.ref c) A outer s H0 E) swRet D σ H := by
  have hun : (cxD PG w K mg base "_law_swung" s_Lswung NSW f (.ref c) A outer s H0 E).A.units + 64 < cLine := by
    have := hr.un
    omega
  refine go_retR (tSem_cmp (op_eqD hun) (by rfl) (fun pins s1 I => (sw_lam T B hmT hu hr).run pins s1 σ H _ I ⟨tb, fun H1 eN T1 => ?_⟩))
  have i1 : (wd.m K MC TC DC).I (noT F) H1 := Wd.ntt F H _ H1 g.i noT_x (fun b h => noT_none h) eN
  have ex1 : Ex (noT F) H1 := noT_ex g.ex eN
  have h1 : Holds (GSW wd K b) σ (noT F) := fun i T q => by
    obtain ⟨v, e, p⟩ := g.h i T q
    refine ⟨v, e, ?_⟩
    match i, q with
    | 0, q => cases q; exact p
    | 1, q => cases q; exact ntt_is _ _ _ noT_x p
    | 2, q => cases q; exact p
    | 3, q => cases q; exact p
    | 4, q => cases q
    | 5, q => cases q
    | 6, q => cases q
    | 7, q => cases q
    | j + 8, q => cases q
  obtain ⟨v0, e0, p0⟩ := h1 0 _ rfl
  obtain ⟨v1, e1, p1⟩ := h1 1 _ rfl
  obtain rfl : v0 = .ref wd.i.x := p0
  obtain rfl : v1 = .bl b := DAt.b p1
  have hn := ok.n
  have hlp : wd.i.d.past.length ≤ 1000 := by rw [ok.dp, pastB_len]; omega
  have hla : wd.i.d.ahead.length ≤ 1000 := by rw [ok.da, List.length_map]; omega
  -- what is wanted after the error
  have fin : ∀ p F2 H2, Gr (mDr K MC TC DC wd.i).U (noT F) H1 F2 H2 → (mDr K MC TC DC wd.i).I F2 H2 → H2 p = none → tSem (cxD PG w K mg base "_law_swung" s_Lswung NSW f (.ref c) A outer s H0 E) (.Tuple [.Constant .none 0 ⟨796, 87, 796, 91⟩, .Constant (.str "nothingleft") 0 ⟨796, 93, 796, 106⟩] 0 ⟨796, 86, 796, 107⟩) σ (upd H2 p (.tup [.non, .str "nothingleft"])) fun u H3 => rEqD K (.ref p) u H3 D.rt := fun p F2 H2 g2 i2 hp => by
    have gn : Gr0 F2 H2 (upd F2 p (.tup [.non, .str "nothingleft"])) (upd H2 p (.tup [.non, .str "nothingleft"])) := Gr.new g2.fh hp
    have iW := (Wd.Ok.sub (K := K) (MC := MC) (TC := TC) (DC := DC) ok).g _ _ _ _ g2 i1 i2
    have iW2 := (wd.m K MC TC DC).st _ _ _ _ gn iW.2
    refine e_tupD (m := wd.m K MC TC DC) (Γ := GSW wd K b) (ds := [.non, .str "nothingleft"]) (ad_cons e_non (ad_cons e_str ad_nil)) (by simp) σ _ _ ⟨gn.fh, iW2, h1.mono (g2.ff.trans gn.ff)⟩ _ fun u F3 H3 g3 i3 p3 => ?_
    obtain ⟨q, xs, rfl, q1, q2⟩ := DAt.t p3
    obtain ⟨x1, r1, rfl, y1, q2⟩ := q2.un
    obtain ⟨x2, r2, rfl, y2, q2⟩ := q2.un
    obtain rfl := q2.nl
    obtain rfl := y1.n
    obtain rfl := y2.s
    have dp : ∀ {r : Addr}, SqT K H3 r [.non, .str "nothingleft"] → Dp K H3 (.ref r) (.tuple [.none, .str "nothingleft"]) := fun h => .tup h (.cons .non (.cons (.str _) .nil))
    refine ⟨_, _, dp (SqT.of (g3.fh _ _ (g3.ff _ _ upd_same))), dp (ex_sqt g3.fh q1), by decide +kernel, by decide +kernel, ?_⟩
    rw [show PyData.eqv (.tuple [.none, .str "nothingleft"]) (.tuple [.none, .str "nothingleft"]) = true by decide +kernel]
    refine kk F3 H3 (noT_x.trans (.of (g2.ff.trans (gn.ff.trans g3.ff)))) g3.fh i3 ?_
    exact tabs_kp T1 ((noTE_dk.kp i1.1 g2).trans ((Kp.gr0 gn).trans (Wd.te.kp iW2 g3)))
  intro EE QQ hv he
  cases b with
  | true =>
    refine ⟨_, e1, true, rfl, _, e0, ?_⟩
    obtain ⟨dx, fs, hx, hl⟩ := Wd.ins (K := K) (MC := MC) (TC := TC) (DC := DC) (wd := wd) (n := "undo") (by decide +kernel) _ _ i1
    refine ⟨wd.i.x, dx, fs, rfl, hx, hl, wd.i, noT F, rfl, ex1, i1.1, hlp, hla, fun hp C d F2 H2 g2 i2 hC hd => he C d "nothingleft" H2 hC hd fun p hp => fin p F2 H2 g2 i2 hp, fun ps pe hp => ?_⟩
    rw [ok.dp, hs rfl] at hp
    exact absurd hp (by show ¬ ([] = ps ++ [pe]); simp)
  | false =>
    refine ⟨_, e1, false, rfl, _, e0, ?_⟩
    obtain ⟨dx, fs, hx, hl⟩ := Wd.ins (K := K) (MC := MC) (TC := TC) (DC := DC) (wd := wd) (n := "redo") (by decide +kernel) _ _ i1
    refine ⟨wd.i.x, dx, fs, rfl, hx, hl, wd.i, noT F, rfl, ex1, i1.1, hlp, hla, fun hp C d F2 H2 g2 i2 hC hd => he C d "nothingleft" H2 hC hd fun p hp => fin p F2 H2 g2 i2 hp, fun ps pe hp => ?_⟩
    rw [ok.da, hs2 rfl] at hp
    exact absurd hp (by show ¬ ([] = ps ++ [pe]); simp)
theorem fl_swung (T : Txt w K mg MC TC DC) {Tb : List (Addr × Str)} {c P : Addr} (Dt : DefT K mg "_law_swung" "_law_swung" s_Lswung c) (B : LamX.TabB base mg c P) (hmT : (P, qSW) ∈ Tb) (hu : ∀ p ∈ Tb, p.1 = P → p.2 = qSW) : CalX PG w K mg base 7 "_law_swung" (p_swung K MC TC DC Tb) := by
  refine cal_ofT Dt sc_Lswung bd_Lswung (fun vs H Q E ⟨w, b, F, h, _⟩ => by rw [h] <;> rfl) ?_
  intro f A outer s H vs Q E hr h
  obtain ⟨wd, b, F, rfl, ex, iW, ok, tb, kk⟩ := h
  refine ⟨_, semS, ?_⟩
  have gd : Good (wd.m K MC TC DC) (GSW wd K b) [some (.ref wd.i.x), some (.bl b), some (.ref wd.sl), some (.ref wd.hl), none, none, none, none] F H := ⟨ex, iW, HoldsA.holds (Ts := [Vl (.ref wd.i.x), Is K (.bl b), Vl (.ref wd.sl), Vl (.ref wd.hl)]) (vs := [.ref wd.i.x, .bl b, .ref wd.sl, .ref wd.hl]) (k := 4) ⟨rfl, .bl .nil, rfl, rfl, trivial⟩⟩
  have hst : ∀ F H, (wd.m K MC TC DC).I F H → ∃ vs, H wd.sl = some (.lst vs) ∧ vs.length = wd.st.length := fun F H q => by
    obtain ⟨_, ⟨vs, h1, _, h2⟩, _⟩ := q.2
    exact ⟨vs, h1, by rw [HoldsA.len h2, List.length_map]⟩
  have hah : ∀ F H, (wd.m K MC TC DC).I F H → ∃ vs, H wd.hl = some (.lst vs) ∧ vs.isEmpty = wd.ah.isEmpty := fun F H q => by
    obtain ⟨_, _, ⟨vs, h1, _, h2⟩⟩ := q.2
    exact ⟨vs, h1, empty_of h2⟩
  have hcond := (w_orB (X := cxD PG w K mg base "_law_swung" s_Lswung NSW f (.ref c) A outer s H E) (m := wd.m K MC TC DC) (Γ := GSW wd K b) (pos := ⟨789, 7, 789, 81⟩)
    (EvW.toT (w_andB (pos := ⟨789, 7, 789, 41⟩) (t_bl (e_var (pos := ⟨789, 7, 789, 16⟩) 1 rfl)) fun _ => w_and1 (t_gt (pos := ⟨789, 21, 789, 41⟩) (e_lenM (p := ⟨789, 21, 789, 24⟩) (pos := ⟨789, 21, 789, 37⟩) T.n_len (e_var (x := "_law_stands") (pos := ⟨789, 25, 789, 36⟩) 2 rfl) hst) (e_int (i := 1) (j := 0) (pos := ⟨789, 40, 789, 41⟩)))))
    (fun _ => w_or1 (EvW.toT (w_andB (pos := ⟨789, 46, 789, 80⟩) (t_notB (pos := ⟨789, 46, 789, 59⟩) (t_bl (e_var (pos := ⟨789, 50, 789, 59⟩) 1 rfl))) fun _ => w_and1 (t_ne0M (lp := ⟨789, 78, 789, 80⟩) (pos := ⟨789, 64, 789, 80⟩) hr (e_var (x := "_law_ahead") (pos := ⟨789, 64, 789, 74⟩) 3 rfl) hah))))).toT
  refine go_if hcond gd (fun F1 H1 g1 i1 hc => ?_) fun F1 H1 g1 i1 hc => go_end ?_
  · have gd1 := gd.next g1 i1
    have tb1 := tabs_kp tb (Wd.te.kp iW g1)
    cases b with
    | true =>
      rcases List.eq_nil_or_concat wd.ss with hs | ⟨ss, e, hs⟩
      · exfalso
        unfold Wd.st at hc
        rw [hs] at hc
        simp at hc
      · rw [List.concat_eq_append] at hs
        refine sw_undo T hr gd1 ok tb1 hs fun F2 H2 f2 x2 i2 t2 => kk (wd.back ss e) F2 H2 rfl rfl rfl rfl ?_ (ok.back hs).1 (.of (g1.ff.trans f2)) x2 i2 t2
        show ss.length + (wd.as ++ [e]).length = _
        rw [hs]
        simp
        omega
    | false =>
      rcases List.eq_nil_or_concat wd.as with hs | ⟨as, e, hs⟩
      · exfalso
        unfold Wd.ah at hc
        rw [hs] at hc
        simp at hc
      · rw [List.concat_eq_append] at hs
        refine sw_redo T hr gd1 ok tb1 hs fun F2 H2 f2 x2 i2 t2 => kk (wd.forth as e) F2 H2 rfl rfl rfl rfl ?_ (ok.forth hs).1 (.of (g1.ff.trans f2)) x2 i2 t2
        show (wd.ss ++ [e]).length + as.length = _
        rw [hs]
        simp
        omega
  · have gd1 := gd.next g1 i1
    have tb1 := tabs_kp tb (Wd.te.kp iW g1)
    refine sw_none T B hmT hu hr gd1 ok tb1 (fun hb => ?_) (fun hb => ?_) fun F2 H2 f2 x2 i2 t2 => kk wd F2 H2 rfl rfl rfl rfl rfl ok ((LamX.ExtN.of g1.ff).trans f2) x2 i2 t2
    · subst hb
      cases hss : wd.ss with
      | nil => rfl
      | cons e r =>
        exfalso
        unfold Wd.st at hc
        rw [hss] at hc
        simp at hc
        omega
    · subst hb
      cases hss : wd.as with
      | nil => rfl
      | cons e r =>
        exfalso
        unfold Wd.ah at hc
        rw [hss] at hc
        simp at hc
end
end R60

set_option Elab.async false
set_option pp.maxSteps 400
set_option linter.all false
set_option maxRecDepth 100000
set_option maxHeartbeats 1000000
namespace R60
open PySem PySem.Spec PyProof.Rows L2
/-! ### a region let go again -/
open Classical in
noncomputable def rmO (O : Addr → Prop) (F : Hp) : Hp := fun c => if O c then none else F c
theorem rmO_in {O : Addr → Prop} {F : Hp} {c : Addr} (h : O c) : rmO O F c = none := if_pos h
theorem rmO_out {O : Addr → Prop} {F : Hp} {c : Addr} (h : ¬ O c) : rmO O F c = F c := if_neg h
theorem rmO_some {O : Addr → Prop} {F : Hp} {c : Addr} {u : HO} (h : rmO O F c = some u) : F c = some u ∧ ¬ O c := by
  by_cases hc : O c
  · rw [rmO_in hc] at h; cases h
  · rw [rmO_out hc] at h; exact ⟨h, hc⟩
theorem rmO_none {O : Addr → Prop} {F : Hp} {c : Addr} (h : F c = none) : rmO O F c = none := by
  by_cases hc : O c
  · exact rmO_in hc
  · rw [rmO_out hc]; exact h
theorem Gr.unfrz {U O : Addr → Prop} {F H F' H' : Hp} (fn : ∀ c, O c → F c = none) (g : Gr U (frzO O F H) H F' H') : Gr U F H (rmO O F') H' := by
  refine ⟨fun c u q => ?_, fun c u q => g.fh _ _ (rmO_some q).1, g.hh, g.dm, fun c q n => ?_⟩
  · have hc : ¬ O c := fun z => by rw [fn c z] at q; cases q
    rw [rmO_out hc]
    exact g.ff c u (by rw [frzO_out hc]; exact q)
  · by_cases hc : O c
    · exact rmO_in hc
    · rw [rmO_out hc]
      exact g.nw c (by rw [frzO_out hc]; exact q) n
/-- data without lists -/
def TupD : Nat → R60.D → Prop
  | _, .lst _ => False
  | 0, .tup _ => False
  | n + 1, .tup xs => ∀ x ∈ xs, TupD n x
  | _, _ => True
theorem tup_leaf {n : Nat} {d : R60.D} (h : match d with | .lst _ => False | .tup _ => False | _ => True) : TupD n d := by
  cases d <;> first
    | (cases n <;> trivial)
    | exact h.elim
theorem tupD_ev {e : Ev} : TupD 1 e.d := by
  show ∀ x ∈ _, TupD 0 x
  intro x hx
  rcases List.mem_cons.mp hx with rfl | hx
  · exact tup_leaf trivial
  · rcases List.mem_cons.mp hx with rfl | hx
    · exact tup_leaf trivial
    · obtain ⟨a, _, rfl⟩ := List.mem_map.mp hx
      cases a <;> exact tup_leaf trivial
theorem tupD_deed {d : Deed} : TupD 2 d.d := by
  show ∀ x ∈ _, TupD 1 x
  intro x hx
  rcases List.mem_cons.mp hx with rfl | hx
  · exact tup_leaf trivial
  · rcases List.mem_cons.mp hx with rfl | hx
    · exact tup_leaf trivial
    · cases d <;> simp [Deed.th] at hx
      · subst hx; exact tup_leaf trivial
      · rcases hx with rfl | rfl
        · exact tup_leaf trivial
        · exact tupD_ev
      all_goals
        rcases hx with rfl | rfl
        · exact tup_leaf trivial
        · exact tup_leaf trivial
section
variable {K : PySem.W.Frag} {O : Addr → Prop} {F : Hp}
theorem das_unfrz (hO : ∀ c, O c → ∃ u, F c = some u ∧ isLD u) {ds : List R60.D} {vs : List V} (h : DAs K F ds vs) : (∀ d ∈ ds, ∃ n, TupD n d) → DAs K (rmO O F) ds vs := by
  induction h with
  | nil => exact fun _ => .nil
  | non _ ih => exact fun t => .non (ih fun d hd => t d (List.mem_cons_of_mem _ hd))
  | bl _ ih => exact fun t => .bl (ih fun d hd => t d (List.mem_cons_of_mem _ hd))
  | int _ ih => exact fun t => .int (ih fun d hd => t d (List.mem_cons_of_mem _ hd))
  | str _ ih => exact fun t => .str (ih fun d hd => t d (List.mem_cons_of_mem _ hd))
  | lst h _ _ i1 i2 =>
    intro t
    obtain ⟨n, h⟩ := t _ List.mem_cons_self
    cases n <;> exact h.elim
  | tup h _ _ i1 i2 =>
    intro t
    obtain ⟨n, t0⟩ := t _ List.mem_cons_self
    have t1 : ∃ k, n = k + 1 := by
      cases n with
      | zero => exact t0.elim
      | succ k => exact ⟨k, rfl⟩
    obtain ⟨k, rfl⟩ := t1
    refine .tup ?_ (i1 fun d hd => ⟨k, t0 d hd⟩) (i2 fun d hd => t d (List.mem_cons_of_mem _ hd))
    have no : ∀ {a : Addr} {u : HO}, F a = some u → ¬ isLD u → ¬ O a := fun {a u} e n z => by
      obtain ⟨u', e1, e2⟩ := hO a z
      rw [e] at e1
      cases e1
      exact n e2
    rcases h with (h | ⟨o, h⟩) | h
    · exact .inl (.inl (by rw [rmO_out (no h id)]; exact h))
    · exact .inl (.inr ⟨o, by rw [rmO_out (no h id)]; exact h⟩)
    · exact .inr h
/-! ### the law's own book through a lambda's making -/
variable {b : Bk} {a : Addr} {H G H' : Hp} {vs : List (L2.Key × V)}
theorem frzO_xn {S : Addr → Prop} (e : LamX.ExtN F G) (eh : LamX.ExtN H H') : LamX.ExtN (frzO S F H) (frzO S G H') := fun c u q n => by
  by_cases hc : S c
  · rw [frzO_in hc] at q ⊢
    exact eh _ _ q n
  · rw [frzO_out hc] at q ⊢
    exact e _ _ q n
theorem OwnB.xn (h : OwnB K b a O F H) (e : LamX.ExtN F G) (eh : LamX.ExtN H H') (n : ∀ c, F c = none → G c = none) : OwnB K b a O G H' := by
  obtain ⟨vs, h⟩ := h
  refine ⟨vs, fun c hc => ?_, h.oa, eh _ _ h.ha (fun _ z => nomatch z), h.kv.xn (frzO_xn e eh) fun q hq => ?_, fun nm p q => ?_⟩
  · obtain ⟨h1, u, h2, h3⟩ := h.o c hc
    exact ⟨n c h1, u, eh _ _ h2 (fun ps z => by rw [z] at h3; exact h3), h3⟩
  · unfold tk at hq
    obtain ⟨t, _, rfl⟩ := List.mem_map.mp hq
    exact ntt_lt
  · obtain ⟨l, k, t, tv, e1, o1, ne, h1, h2, h3, h4, h5⟩ := h.en nm p q
    refine ⟨l, k, t, tv, e1, o1, ne, eh _ _ h1 (fun _ z => nomatch z), eh _ _ h2 (fun _ z => nomatch z), eh _ _ h3 (fun _ z => nomatch z), h4.xn e fun T hT => ?_, fun n' p' v' q1 q2 q3 => ntt_lt _ _ _ (frzO_xn e eh) (h5 n' p' v' q1 q2 q3)⟩
    obtain ⟨t, _, rfl⟩ := List.mem_map.mp hT
    exact ntt_is
end
/-! ### what is left by the fixing of an own region -/
def FzM (m : Mu) : Prop := ∀ (O : Addr → Prop) F H F' H', (∀ b, m.U b → ¬ O b) → Fz O F H F' H' → m.I F H → m.I F' H'
theorem fz_dk {K : PySem.W.Frag} {MC TC DC x pl al : Addr} {d : Dk} {u : Int} : FzM (mDk K MC TC DC x pl al d u) := fun U F H F' H' nU g ⟨dx, bv, ev, ps, as, h1, h2, h3, ⟨f1, f2, f3⟩, ne, t1, t2, t3⟩ =>
  ⟨dx, bv, ev, ps, as, g.hh _ _ (nU _ (.inl rfl)) h1, g.hh _ _ (nU _ (.inr (.inl rfl))) h2, g.hh _ _ (nU _ (.inr (.inr rfl))) h3, ⟨g.nw _ (nU _ (.inl rfl)) f1 (by rw [h1]; simp), g.nw _ (nU _ (.inr (.inl rfl))) f2 (by rw [h2]; simp), g.nw _ (nU _ (.inr (.inr rfl))) f3 (by rw [h3]; simp)⟩, ne, (BookT K MC TC d.b).mono _ _ _ g.ff t1, t2.mono g.ff, t3.mono g.ff⟩
theorem fz_draw {d : Dr} : FzM (mDraw d) := fun U F H F' H' nU g ⟨s, h1, h2, h3, h4, h5⟩ => ⟨s, g.hh _ _ (nU _ rfl) h1, g.nw _ (nU _ rfl) h2 (by rw [h1]; simp), h3, g.ff _ _ h4, h5⟩
theorem fz_ls {a : Addr} {Ts : List Ty} : FzM (mLs a Ts) := fun U F H F' H' nU g ⟨vs, h1, h2, h3⟩ => ⟨vs, g.hh _ _ (nU _ rfl) h1, g.nw _ (nU _ rfl) h2 (by rw [h1]; simp), h3.mono g.ff⟩
theorem FzM.and {m1 m2 : Mu} (a : FzM m1) (b : FzM m2) : FzM (mAnd m1 m2) := fun U F H F' H' nU g h => ⟨a U _ _ _ _ (fun c hc => nU c (.inl hc)) g h.1, b U _ _ _ _ (fun c hc => nU c (.inr hc)) g h.2⟩
section
variable {X : Cx} {m : Mu} {E : XK} {Γ : Gam} {a b : Expr} {pos p : Pos} {j : Nat} {σ : L2.St} {F H : Hp}
theorem tSemT_or2 {S : Bool → Hp → Prop} (h : tSemT X a σ H fun k H1 => if k = true then S true H1 else tSemT X b σ H1 S) : tSemT X (.BoolOp .Or [a, b] pos) σ H S := fun pins s I => (pw_or semT (pw_or1 semT)).run _ pins s σ H S I h
/-- _law_deck_so(deck, book) -/
theorem e_deckSo {MC TC DC : Addr} {i : DkR} {bk : Bk} (c : CalX X.prog X.w X.K X.mg X.base 6 "_law_deck_so" (p_deck_so X.K MC TC DC)) (hr : Room j X.A) (hk : 6 ≤ j) (sb : Sub (mDr X.K MC TC DC i) m) (h1 : EvE X m Γ a (Vl (.ref i.x))) (h2 : EvE X m Γ b (LbT X.K bk)) (hb : BkN bk) (he : i.d.b = nrmB bk)
    (hg : Gl X "_law_deck_so" := by rfl) (hs : starEach [a, b] X.env = (false, eval a X.env) :: starEach [b] X.env := by rfl) (hs2 : starEach [b] X.env = (false, eval b X.env) :: starEach [] X.env := by rfl) (hpl : (backTo pos (starEach [b] X.env)).any (·.1) = false := by rfl) : EvE X m Γ (.Call (.Name "_law_deck_so" p) [a, b] [] pos) (Is X.K (.bl true)) :=
  EvE.of (pe_cx c hr hk hg passL (pa_cons sem (pa_cons sem pa_nil hs2) hs) (by decide) hs hpl) fun σ F H Q g q => h1 σ F H g _ fun v F1 H1 g1 i1 p1 => h2 σ F1 H1 (g.next g1 i1) _ fun u F2 H2 g2 i2 p2 => by
    obtain rfl : v = .ref i.x := p1
    exact ⟨i, bk, F2, u, rfl, g2.fh, sb.i _ _ i2, p2, hb, he, fun F' H' g' i' => q _ F' H' ((g1.trans g2).trans (sb.g _ _ _ _ g' i2 i').1) (sb.g _ _ _ _ g' i2 i').2 (.bl .nil)⟩
end
theorem Holds.xn {Γ : Gam} {σ : L2.St} {F G : Hp} (h : Holds Γ σ F) (e : LamX.ExtN F G) (n : ∀ T, some T ∈ Γ → Ntt T) : Holds Γ σ G := fun i T q => by
  obtain ⟨v, e1, p⟩ := h i T q
  exact ⟨v, e1, n T (List.mem_of_getElem? q) _ _ _ e p⟩
end R60

set_option Elab.async false
set_option pp.maxSteps 400
set_option linter.all false
set_option maxRecDepth 100000
set_option maxHeartbeats 4000000
namespace R60
open PySem PySem.Spec PyProof.Rows L2
/-! law: what is told of the deeds, and the deck looked at -/
abbrev NLW : List Str := ["_law_script", "_law_draw", "_law_names_here", "_law_stands", "_law_ahead", "_law_turn", "_law_kind", "_law_book", "_law_word_here", "_law_told", "_law_back", "_law_deck", "_law_deed", "_law_row", "_law_one_here"]
def lwTurn : List Stmt := match (defBody s_law).drop 4 with
  | .For _ _ b _ _ :: _ => b
  | _ => []
def lwTold : List Stmt := lwTurn.drop 2
def lwSw : List Stmt := match lwTurn.drop 1 with
  | .If _ b _ _ :: _ => b
  | _ => []
def lwDo : List Stmt := match lwTurn.drop 1 with
  | .If _ _ b _ :: _ => b
  | _ => []
def lwEnd : List Stmt := (defBody s_law).drop 5
def lwBack : List Stmt := match lwEnd with
  | .For _ _ b _ _ :: _ => b
  | _ => []
abbrev GLW (wd : Wd) (K : PySem.W.Frag) : Gam := [none, some (Vl (.ref wd.dr.a)), some (LsP (StrN 15) 8), some (Vl (.ref wd.sl)), some (Vl (.ref wd.hl)), none, none, none, none, none, none, some (Vl (.ref wd.i.x)), none, none, none]
def LwJ (K : PySem.W.Frag) (MC TC DC : Addr) (Tb : List (Addr × Str)) (n : Nat) (σ : L2.St) (H : Hp) : Prop := ∃ (wd : Wd) (F : Hp), Good (wd.m K MC TC DC) (GLW wd K) σ F H ∧ wd.Ok ∧ LamX.Tabs Tb H ∧ wd.ss.length + wd.as.length ≤ n
theorem lawB_nil : LawB [] := ⟨⟨fun q hq => absurd hq (by simp), .nil, Nat.zero_le _⟩, fun q hq => absurd hq (by simp [namesOf])⟩
theorem lastB_law : ∀ {ss : List (Deed × Bk)} {b0 : Bk}, LawB b0 → (∀ e ∈ ss, LawB e.2 ∧ e.1.fit) → LawB (lastB b0 ss)
  | [], _, h, _ => h
  | (d, b) :: r, _, _, h => lastB_law (ss := r) (h (d, b) List.mem_cons_self).1 fun e he => h e (List.mem_cons_of_mem _ he)
theorem Wd.Ok.last {wd : Wd} (h : wd.Ok) : LawB (lastB [] wd.ss) := lastB_law lawB_nil h.bs
theorem st_last (wd : Wd) : ∃ l ds, wd.st = l ++ [(ds, lastB [] wd.ss)] := by
  unfold Wd.st
  rcases List.eq_nil_or_concat wd.ss with hs | ⟨ss, e, hs⟩
  · exact ⟨[], [], by rw [hs] <;> rfl⟩
  · rw [List.concat_eq_append] at hs
    refine ⟨([], []) :: ss.map fun e => ([e.1], e.2), [e.1], ?_⟩
    rw [hs, lastB_snoc, List.map_append] <;> rfl
def rowsD (ss : List (Deed × Bk)) : List R60.D := ss.map fun e => rowD [e.1]
section
variable {w : World} {K : PySem.W.Frag} {mg : Str → Option Value} {base : Heap} {MC TC DC : Addr}
theorem wd_last (wd : Wd) : ∃ ds, ∀ F H, (wd.m K MC TC DC).I F H → ∃ vs v, H wd.sl = some (.lst vs) ∧ atI vs (-1) = some v ∧ (stT K (ds, lastB [] wd.ss)).p v F := by
  obtain ⟨l, ds, hl⟩ := st_last wd
  refine ⟨ds, fun F H q => ?_⟩
  obtain ⟨_, ⟨vs, h1, _, h2⟩, _⟩ := q.2
  rw [hl, List.map_append] at h2
  obtain ⟨us, v, rfl, _, p⟩ := holdsA_unsnoc h2
  exact ⟨_, v, h1, atI_last, p⟩
/-- stands[-1][1] -/
theorem e_lastBook {X : Cx} {m : Mu} {Γ : Gam} {p1 p2 p3 p4 p5 : Pos} {j1 j2} {wd : Wd} {ds : List Deed} {o : Expr} (ho : EvE X m Γ o (Vl (.ref wd.sl))) (h : ∀ F H, m.I F H → ∃ vs v, H wd.sl = some (.lst vs) ∧ atI vs (-1) = some v ∧ (stT X.K (ds, lastB [] wd.ss)).p v F) :
    EvE X m Γ (.Subscript (.Subscript o (.UnaryOp .USub (.Constant (.int 1) j1 p1) p2) p3) (.Constant (.int 1) j2 p4) p5) (LbT X.K (lastB [] wd.ss)) :=
  e_ixAtT (Ts := [Is X.K (rowD ds), LbT X.K (lastB [] wd.ss)]) (k := 1) (e_ixM (d := wd.sl) (P := stT X.K (ds, lastB [] wd.ss)) ho (e_neg e_int) h) e_int rfl
theorem lw_told (T : Txt w K mg MC TC DC) {Tb : List (Addr × Str)} {f : Addr} {cdv : Value} {A : Around} {outer : List Env} {s : Shared} {H0 : Hp} {E : XK} {D : Ends} {σ : L2.St} {H : Hp} {n : Nat} (hr : Room 20 (cxD PG w K mg base "law" s_law NLW f cdv A outer s H0 E).A)
    (hJ : LwJ K MC TC DC Tb n σ H) (nx : ∀ σ' H', LwJ K MC TC DC Tb n σ' H' → D.nx σ' H') : tSemS (cxD PG w K mg base "law" s_law NLW f cdv A outer s H0 E) lwTold D σ H := by
  obtain ⟨wd, F, gd, ok, tb, hn⟩ := hJ
  have hok := ok.n
  have hlp : wd.i.d.past.length ≤ 1000 := by rw [ok.dp, pastB_len]; omega
  have hrows : wd.i.d.past.map (fun e => Is K (.lst [e.1.d])) = (rowsD wd.ss).map (Is K) := by
    rw [ok.dp]
    generalize ([] : Bk) = b0
    revert b0
    generalize wd.ss = ss
    induction ss with
    | nil => intro b0; rfl
    | cons e r ih => intro b0; exact congrArg (Is K (rowD [e.1]) :: ·) (ih e.2)
  refine go_setR 9 (fun h9 => tSem_meth0 (E := E) (r := wd.i.x) (f_Deck_deeds T) hr (by decide) passE (e_var 11 rfl) gd (Wd.ins (by decide +kernel)) fun F1 H1 g1 i1 => ?_) sc_law.nd
  refine ⟨⟨wd.i, hlp⟩, F1, g1.fh, i1.1, ⟨rfl, trivial⟩, fun a acc F2 H2 g2 i2 h0 f0 ha pa => ?_⟩
  have gd1 := gd.next g1 i1
  obtain ⟨g2', iW⟩ := ok.sub.g _ _ _ _ g2 i1 i2
  have g02 := g1.trans g2'
  have nU : ¬ (wd.m K MC TC DC).U a := fun z => (wd.m K MC TC DC).up F1 H1 a i1 z h0
  obtain ⟨dsl, hlast⟩ := wd_last (K := K) (MC := MC) (TC := TC) (DC := DC) wd
  replace pa : HoldsA (wd.i.d.past.map fun e => Is K (.lst [e.1.d])) acc F2 := pa
  rw [hrows] at pa
  have pa' : DAs K F2 (rowsD wd.ss) acc := das_of pa
  have gd2 : Good (mAnd (mFz F2 a (.lst acc)) (wd.m K MC TC DC)) ((GLW wd K).set 9 (some (Vl (.ref a)))) (σ.set 9 (some (.ref a))) F2 H2 := ⟨g2.fh, ⟨⟨ha, f0, Same.refl _⟩, iW⟩, (gd.h.mono g02.ff).set h9 rfl⟩
  have hfit : ∀ e ∈ wd.ss, e.1.fit := fun e he => (ok.bs e he).2
  have hdok : DOk 4 (.lst (rowsD wd.ss)) := ⟨by unfold rowsD; rw [List.length_map]; omega, fun x hx => by
    unfold rowsD at hx
    obtain ⟨e, he, rfl⟩ := List.mem_map.mp hx
    exact dok_row (hfit e he)⟩
  refine go_ifF (m := mAnd (mFz F2 a (.lst acc)) (wd.m K MC TC DC)) (EvT.eq (w_orB (k := false) (k' := false) (t_notB (k := true) (t_bl (e_deckSo (MC := MC) (TC := TC) (DC := DC) (i := wd.i) (bk := lastB [] wd.ss) (fl_deck_so T) hr (by decide) (Sub.trans ok.sub (Sub.fz nU)) (e_var 11 rfl) (e_lastBook (wd := wd) (ds := dsl) (e_var 3 rfl) fun F H q => hlast F H q.2) ok.last.n ok.db))) (fun _ => w_or1 (t_notB (k := true) (t_bl (e_sameN (n := 4) (tl := a) (ds := rowsD wd.ss) (fl_same T 4) hr (by decide) (e_var 9 rfl) ?_ (fun F H q => ⟨acc, q.1.1, q.1.2.1, pa'.mono q.1.2.2⟩) hdok))))).toT rfl) gd2 fun F3 H3 g3 i3 => ?_
  · refine EvE.eq (e_lcAll (xs := wd.ss.map fun e => (([e.1], e.2) : List Deed × Bk)) (fun e => ((GLW wd K).set 9 (some (Vl (.ref a)))).set 13 (some (Is K (rowD e.1))) |>.set 14 (some (LbT K e.2))) [13, 14] (fun e => rowD e.1) rfl sc_law.nd (i_list (xs := wd.ss.map fun e => (([e.1], e.2) : List Deed × Bk)) (enc := stT K) (e_slM (d := wd.sl) (Ts := wd.st.map (stT K)) (kl := 1) (e_var 3 rfl) e_int fun F H q => ?_)) (by rw [List.length_map]; omega)
      (blkOk_by (own := [("_law_row", 13), ("_law_one_here", 14)]) (N := NLW) (sc := defScope s_law) (by decide +kernel)) (fun k e he _ _ _ _ _ => tgY he (tg_tup rfl (tg_cons (tg_name 13 sc_law.nd) (tg_cons (tg_name 14 sc_law.nd) tg_nil)) fun v F p => p)) (fun e he _ _ _ _ _ => e_var 13 rfl)) ?_
    · obtain ⟨_, ⟨vs, h1, _, h2⟩, _⟩ := q.2.2
      exact ⟨vs, h1, h2⟩
    · unfold rowsD
      rw [List.map_map] <;> rfl
  · have gd3 := gd2.next g3 i3
    have hacc : acc.length < 100000 := by
      have := HoldsA.len pa
      unfold rowsD at this
      rw [List.length_map, List.length_map] at this
      omega
    refine go_app0 (a := a) (vs := acc) (Tv := Is K (.int 0)) (e_var 9 rfl) e_int ⟨gd3.ex, trivial, gd3.h⟩ i3.1.1 hacc fun v4 F4 H4 g4 p4 => go_end (nx _ _ ?_)
    have i4 := (mAnd (mFz F2 a (.lst acc)) (wd.m K MC TC DC)).st _ _ _ _ g4 i3
    have gr5 := Gr.at_ (U := fun b => b = a) (b := a) (o := .lst (acc ++ [v4])) g4.weak rfl (by rw [i4.1.1]; simp) i4.1.2.1
    refine ⟨wd, F4, ⟨gr5.fh, (wd.m K MC TC DC).loc _ _ _ (fun b hb => upd_ne (fun z => nU (by rw [← z]; exact hb))) i4.2, ?_⟩, ok, ?_, hn⟩
    · exact (((gd3.h.mono g4.ff).lose1 (i := 9)))
    · refine tabs_kp tb ((Wd.te.kp gd.i g1).trans ((noTE_dk.kp i1.1 g2).trans ((Kp.gr g3 fun b hb o ho => ?_).trans ((Kp.gr0 g4).trans (Kp.upd i4.1.1 id)))))
      rcases hb with rfl | hb
      · rw [ha] at ho; cases ho; exact id
      · exact Wd.te _ _ b o iW hb ho
end
end R60

set_option Elab.async false
set_option pp.maxSteps 400
set_option linter.all false
set_option maxRecDepth 100000
set_option maxHeartbeats 4000000
namespace R60
open PySem PySem.Spec PyProof.Rows L2
/-! law: swung in the loop, and the last loop -/
theorem ntt_glw {wd : Wd} {K : PySem.W.Frag} : ∀ T, some T ∈ GLW wd K → Ntt T := fun T hT => by
  have hs : Ntt (LsP (StrN 15) 8) := ntt_lsP fun v F G e p => p
  simp only [GLW, List.mem_cons, List.not_mem_nil, or_false, reduceCtorEq, false_or, Option.some.injEq] at hT
  rcases hT with rfl | rfl | rfl | rfl | rfl
  · exact ntt_vl
  · exact hs
  · exact ntt_vl
  · exact ntt_vl
  · exact ntt_vl
theorem glw_eq {wd w' : Wd} {K : PySem.W.Frag} (e1 : w'.i.x = wd.i.x) (e2 : w'.dr = wd.dr) (e3 : w'.sl = wd.sl) (e4 : w'.hl = wd.hl) : GLW w' K = GLW wd K := by
  unfold GLW
  rw [e1, e2, e3, e4]
section
variable {w : World} {K : PySem.W.Frag} {mg : Str → Option Value} {base : Heap} {MC TC DC : Addr}
theorem lw_sw {Tb : List (Addr × Str)} (hsw : CalX PG w K mg base 7 "_law_swung" (p_swung K MC TC DC Tb)) {f : Addr} {cdv : Value} {A : Around} {outer : List Env} {s : Shared} {H0 : Hp} {E : XK} {D : Ends} {σ : L2.St} {F H : Hp} {n : Nat} {wd : Wd} {r : Int} (hr : Room 20 (cxD PG w K mg base "law" s_law NLW f cdv A outer s H0 E).A)
    (gd : Good (wd.m K MC TC DC) ((GLW wd K).set 6 (some (Is K (.int r)))) σ F H) (ok : wd.Ok) (tb : LamX.Tabs Tb H) (hn : wd.ss.length + wd.as.length ≤ n) (nx : ∀ σ' H', LwJ K MC TC DC Tb n σ' H' → D.nx σ' H') : tSemS (cxD PG w K mg base "law" s_law NLW f cdv A outer s H0 E) lwSw D σ H := by
  refine go_ifR (tSemT_not (tSemT_val (tSem_call (E := E) hsw hr (by decide) passE (a_cons (e_var 11 rfl) (a_cons (e_lt (e_var 6 rfl) e_int) (a_cons (e_var 3 rfl) (a_cons (e_var 4 rfl) a_nil)))) gd fun vs F1 H1 g1 i1 pvs => ?_)))
  match vs, pvs with
  | [v1, v2, v3, v4], ⟨p1, p2, p3, p4, _⟩ =>
    obtain rfl : v1 = .ref wd.i.x := p1
    obtain rfl := DAt.b p2
    obtain rfl : v3 = .ref wd.sl := p3
    obtain rfl : v4 = .ref wd.hl := p4
    refine ⟨wd, decide (r < 2), F1, rfl, g1.fh, i1, ok, tabs_kp tb (Wd.te.kp gd.i g1), fun w' F' H' e1 e2 e3 e4 en ok' xn ex' i' tb' => ⟨true, rfl, ?_⟩⟩
    show tSemS (cxD PG w K mg base "law" s_law NLW f cdv A outer s H0 E) [] _ σ H'
    refine go_end (go_end (nx σ H' ⟨w', F', ⟨ex', i', ?_⟩, ok', tb', by omega⟩))
    rw [glw_eq e1 e2 e3 e4]
    exact Holds.xn (((gd.h.mono g1.ff).lose1 (i := 6))) xn ntt_glw
theorem lw_end (T : Txt w K mg MC TC DC) {Tb : List (Addr × Str)} (hsw : CalX PG w K mg base 7 "_law_swung" (p_swung K MC TC DC Tb)) {f : Addr} {cdv : Value} {A : Around} {outer : List Env} {s : Shared} {H0 : Hp} {E : XK} {D : Ends} {σ : L2.St} {H : Hp} {n : Nat} (hr : Room 20 (cxD PG w K mg base "law" s_law NLW f cdv A outer s H0 E).A)
    (hJ : LwJ K MC TC DC Tb n σ H) (rt : ∀ H', D.rt (.bl true) H') : tSemS (cxD PG w K mg base "law" s_law NLW f cdv A outer s H0 E) lwEnd D σ H := by
  obtain ⟨wd, F, gd, ok, tb, hn⟩ := hJ
  have hok := ok.n
  have hst : ∀ F H, (wd.m K MC TC DC).I F H → ∃ vs, H wd.sl = some (.lst vs) ∧ vs.length = wd.st.length := fun F H q => by
    obtain ⟨_, ⟨vs, h1, _, h2⟩, _⟩ := q.2
    exact ⟨vs, h1, by rw [HoldsA.len h2, List.length_map]⟩
  have hah : ∀ F H, (wd.m K MC TC DC).I F H → ∃ vs, H wd.hl = some (.lst vs) ∧ vs.length = wd.ah.length := fun F H q => by
    obtain ⟨_, _, ⟨vs, h1, _, h2⟩⟩ := q.2
    exact ⟨vs, h1, by rw [HoldsA.len h2, List.length_map]⟩
  have ls : wd.st.length ≤ 200 := by unfold Wd.st; rw [List.length_cons, List.length_map]; omega
  have la : wd.ah.length ≤ 200 := by unfold Wd.ah; rw [List.length_map]; omega
  obtain ⟨bs, hbs⟩ : ∃ bs, bs = List.replicate wd.st.length true ++ List.replicate (wd.st.length + wd.ah.length) false := ⟨_, rfl⟩
  refine go_forL (bs := bs) (passes_of rfl) rfl (EvE.eq (e_cat (e_mulB (n := wd.st.length) (x := .bl true) (e_lstD (ad_cons e_bl ad_nil)) (e_lenM T.n_len (e_var 3 rfl) hst) (by omega)) (e_mulB (n := wd.st.length + wd.ah.length) (x := .bl false) (e_lstD (ad_cons e_bl ad_nil)) (EvE.eq (e_add (e_lenM T.n_len (e_var 3 rfl) hst) (e_lenM T.n_len (e_var 4 rfl) hah)) (by show R60.D.int _ = R60.D.int _; congr 1)) (by omega)) (by simp; omega)) (by rw [hbs, List.map_append, List.map_replicate, List.map_replicate])) gd fun r F1 H1 g1 i1 h1 => ?_
  refine ⟨fun i σ' H' => ∃ (wd : Wd) (F : Hp), Good (wd.m K MC TC DC) (GLW wd K) σ' F H' ∧ wd.Ok ∧ LamX.Tabs Tb H' ∧ F r = some (.lst (bs.map V.bl)), ?_, ?_, ?_, ?_⟩
  · exact ⟨wd, F1, gd.next g1 i1, ok, tabs_kp tb (Wd.te.kp gd.i g1), h1⟩
  · rintro i σ' H' ⟨w1, F2, gd2, _, _, h2⟩
    exact gd2.ex _ _ h2
  · rintro i b σ' H' hb ⟨w1, F2, gd2, ok2, tb2, h2⟩
    refine go_tg (T := Is K (.bl b)) gd2 (.bl .nil) (tg_name 10 sc_law.nd) fun σ3 F3 H3 g3 gd3 => ?_
    have h3 := g3.ff _ _ h2
    have tb3 := tabs_kp tb2 (Kp.gr0 g3)
    refine go_ifR (tSemT_or2 (tSemT_not (tSemT_val (tSem_call (E := E) hsw hr (by decide) passE (a_cons (e_var 11 rfl) (a_cons (e_var 10 rfl) (a_cons (e_var 3 rfl) (a_cons (e_var 4 rfl) a_nil)))) gd3 fun vs F4 H4 g4 i4 pvs => ?_))))
    match vs, pvs with
    | [v1, v2, v3, v4], ⟨p1, p2, p3, p4, _⟩ =>
      obtain rfl : v1 = .ref w1.i.x := p1
      obtain rfl := DAt.b p2
      obtain rfl : v3 = .ref w1.sl := p3
      obtain rfl : v4 = .ref w1.hl := p4
      refine ⟨w1, b, F4, rfl, g4.fh, i4, ok2, tabs_kp tb3 (Wd.te.kp gd3.i g4), fun w' F' H' e1 e2 e3 e4 en ok' xn ex' i' tb' => ⟨true, rfl, ?_⟩⟩
      have gd5 : Good (w'.m K MC TC DC) (GLW w' K) σ3 F' H' := ⟨ex', i', by
        rw [glw_eq e1 e2 e3 e4]
        exact Holds.xn (((gd3.h.mono g4.ff).lose1 (i := 10))) xn ntt_glw⟩
      obtain ⟨dsl, hlast⟩ := wd_last (K := K) (MC := MC) (TC := TC) (DC := DC) w'
      refine (t_notB (k := true) (t_bl (e_deckSo (MC := MC) (TC := TC) (DC := DC) (i := w'.i) (bk := lastB [] w'.ss) (fl_deck_so T) hr (by decide) ok'.sub (e_var 11 rfl) (e_lastBook (wd := w') (ds := dsl) (e_var 3 rfl) hlast) ok'.last.n ok'.db))) σ3 F' H' gd5 _ fun k F6 H6 g6 i6 hk => ?_
      subst hk
      show tSemS (cxD PG w K mg base "law" s_law NLW f cdv A outer s H0 E) [] _ σ3 H6
      exact go_end (go_end ⟨w', F6, gd5.next g6 i6, ok', tabs_kp tb' (Wd.te.kp i' g6), g6.ff _ _ (xn _ _ (g4.ff _ _ h3) fun _ z => nomatch z)⟩)
  · rintro i σ' H' ⟨w1, F2, gd2, _, _, _⟩
    refine go_ret (P := Is K (.bl true)) e_bl gd2 fun v F3 H3 g3 i3 p3 => ?_
    rw [show v = .bl true from DAt.b p3]
    exact rt H3
end
end R60

set_option Elab.async false
set_option pp.maxSteps 400
set_option linter.all false
set_option maxRecDepth 100000
set_option maxHeartbeats 2000000
namespace R60
open PySem PySem.Spec PyProof.Rows L2
/-! law: the deck does a deed, in a try -/
abbrev qLW : Str := "law" ++ ".<locals>." ++ "<lambda>"
def lwIf3 : Expr := match lwDo.drop 3 with
  | .If (.UnaryOp _ a _) _ _ _ :: _ => a
  | _ => .Constant .none 0 ⟨0, 0, 0, 0⟩
def lwCall : Expr := match lwIf3 with
  | .Call _ [a, _] _ _ => a
  | _ => .Constant .none 0 ⟨0, 0, 0, 0⟩
def lwLam : Expr := match lwCall with
  | .Call _ [a] _ _ => a
  | _ => .Constant .none 0 ⟨0, 0, 0, 0⟩
def lwBody : Expr := match lwLam with
  | .Lambda _ b _ _ => b
  | _ => .Constant .none 0 ⟨0, 0, 0, 0⟩
def lwScope : Scope := match lwLam with
  | .Lambda _ _ s _ => s
  | _ => defScope s_law
def lwPar : Arguments := match lwLam with
  | .Lambda a _ _ _ => a
  | _ => defArgs s_law
abbrev GDO (wd : Wd) (K : PySem.W.Frag) (fa : Addr) (d : Deed) (z : Str) : Gam := (((GLW wd K).set 7 (some (Vl (.ref fa)))).set 8 (some (Is K (.str z)))).set 12 (some (Is K d.d))
section
variable {w : World} {K : PySem.W.Frag} {mg : Str → Option Value} {base : Heap} {MC TC DC : Addr}
def tLw (K : PySem.W.Frag) (mg : Str → Option Value) (MC TC DC : Addr) (E : XK) : TE := tMeth DC "do" (p_Deck_do K mg MC TC DC) [] E (tVar 11) (tCons (tVar 12) tNil)
theorem lw_body (T : Txt w K mg MC TC DC) {f : Addr} {cdv : Value} {A : Around} {outer : List Env} {s : Shared} {H0 : Hp} {E : XK} (A1 : Around) (outer1 : List Env) (s1 : Shared) (H1 : Hp) (E1 : XK) (f1 c1 : Addr)
    (hr : Room 18 (A1.deeper (LamX.lamEnv (cxD PG w K mg base "law" s_law NLW f cdv A outer s H0 E) lwScope s1.heap.objs.size f1 c1))) :
    PE (LamX.lamCx (cxD PG w K mg base "law" s_law NLW f cdv A outer s H0 E) A1 outer1 s1 H1 E1 lwScope f1 c1) lwBody (tLw K mg MC TC DC E1) := by
  have po : Passes (L2.CX PG w) (LamX.lamCx (cxD PG w K mg base "law" s_law NLW f cdv A outer s H0 E) A1 outer1 s1 H1 E1 lwScope f1 c1) E1 := passes_call (takes_of rfl rfl rfl rfl) fun _ _ _ _ h => h
  refine pe_mx (f_Deck_do T) hr (by decide) po ?_ (pa_cons ?_ pa_nil)
  · exact pe_var (i := 11) rfl (.inr (.inr rfl))
  · exact pe_var (i := 12) rfl (.inr (.inr rfl))
theorem lw_lam (T : Txt w K mg MC TC DC) {Tb : List (Addr × Str)} {c P : Addr} (B : LamX.TabB base mg c P) (hmT : (P, qLW) ∈ Tb) (hu : ∀ p ∈ Tb, p.1 = P → p.2 = qLW) {f : Addr} {A : Around} {outer : List Env} {s : Shared} {H0 : Hp} {E : XK} (hr : Room 20 (cxD PG w K mg base "law" s_law NLW f (.ref c) A outer s H0 E).A) :
    PE (cxD PG w K mg base "law" s_law NLW f (.ref c) A outer s H0 E) lwCall (LamX.tLam Tb (TTried K mg) (tLw K mg MC TC DC)) := by
  have h1 : LamX.LamS (cxD PG w K mg base "law" s_law NLW f (.ref c) A outer s H0 E).env.scope lwScope := LamX.lamS_by (show LamX.lamSB (defScope s_law) lwScope = true by decide +kernel)
  have h2 : defaultsOf lwPar (cxD PG w K mg base "law" s_law NLW f (.ref c) A outer s H0 E).env = ([], []) := rfl
  have h3 : ∀ (q : Str) (cl : List (Str × Addr)) (pm cv ctv : Value), bindArgs (PySem.W.kla_fn "<lambda>" q lwPar lwBody lwScope cl pm cv ctv) ⟨[], []⟩ = pure [] := fun _ _ _ _ _ => rfl
  exact pe_tried (X := cxD PG w K mg base "law" s_law NLW f (.ref c) A outer s H0 E) (k := 18) (params := lwPar) (body := lwBody) (scope := lwScope) (t := tLw K mg MC TC DC) T B rfl hmT hu hr h1 h2 h3 fun A1 outer1 s2 H2 E1 f1 c1 hr1 => lw_body T A1 outer1 s2 H2 E1 f1 c1 hr1
theorem lw_try (T : Txt w K mg MC TC DC) {Tb : List (Addr × Str)} {c P : Addr} (B : LamX.TabB base mg c P) (hmT : (P, qLW) ∈ Tb) (hu : ∀ p ∈ Tb, p.1 = P → p.2 = qLW) {f : Addr} {A : Around} {outer : List Env} {s : Shared} {H0 : Hp} {E : XK} {D : Ends} {σ : L2.St} {F H : Hp} {wd : Wd} {fa : Addr} {d : Deed} (hr : Room 20 (cxD PG w K mg base "law" s_law NLW f (.ref c) A outer s H0 E).A)
    (g : Good (wd.m K MC TC DC) (GDO wd K fa d (wordL (lastB [] wd.ss) d)) σ F H) (ok : wd.Ok) (tb : LamX.Tabs Tb H) (fit : d.fit)
    (kok : wordL (lastB [] wd.ss) d = "" → ∀ F7 H7 al' F9 H9, LamX.ExtN F F7 → (∀ b, F b = none → F7 b = none) → LamX.ExtN H H7 → (wd.m K MC TC DC).I F7 H7 → Gr (mDr K MC TC DC wd.i).U F7 H7 F9 H9 → H7 al' = none → (mDk K MC TC DC wd.i.x wd.i.pl al' ⟨nrmB (doneL (lastB [] wd.ss) d), wd.i.d.past ++ [(d, wd.i.d.b)], []⟩ 0).I F9 H9 → LamX.Tabs Tb H9 → tSemS (cxD PG w K mg base "law" s_law NLW f (.ref c) A outer s H0 E) (lwDo.drop 4) D σ H9)
    (ker : wordL (lastB [] wd.ss) d ≠ "" → ∀ F7 H7 F9 H9, LamX.ExtN F F7 → (∀ b, F b = none → F7 b = none) → LamX.ExtN H H7 → (wd.m K MC TC DC).I F7 H7 → Gr (mDr K MC TC DC wd.i).U F7 H7 F9 H9 → (mDr K MC TC DC wd.i).I F9 H9 → LamX.Tabs Tb H9 → tSemS (cxD PG w K mg base "law" s_law NLW f (.ref c) A outer s H0 E) (lwDo.drop 4) D σ H9) : tSemS (cxD PG w K mg base "law" s_law NLW f (.ref c) A outer s H0 E) (lwDo.drop 3) D σ H := by
  refine go_ifR (tSemT_not (tSemT_val (tSem_call2 (E := E) (fl_same T 1) hr (by decide) passE (fun pins s1 I => (lw_lam T B hmT hu hr).run pins s1 σ H _ I ⟨tb, fun H1 eN T1 => ?_⟩))))
  have i1 : (wd.m K MC TC DC).I (noT F) H1 := Wd.ntt F H _ H1 g.i noT_x (fun b h => noT_none h) eN
  have ex1 : Ex (noT F) H1 := noT_ex g.ex eN
  obtain ⟨v0, e0, p0⟩ := g.h 11 _ rfl
  obtain ⟨v1, e1, p1⟩ := g.h 12 _ rfl
  obtain ⟨v8, e8, p8⟩ := g.h 8 _ rfl
  obtain rfl : v0 = .ref wd.i.x := p0
  obtain rfl : v8 = .str (wordL (lastB [] wd.ss) d) := DAt.s p8
  have hn := ok.n
  have hlp : wd.i.d.past.length ≤ 1000 := by rw [ok.dp, pastB_len]; omega
  have hdo : DoH wd.i.d.b d wd.i.d.past.length := ⟨by rw [ok.db]; exact nrmB_ok ok.last.n.ok, fit, by rw [ok.db, nrmB_len]; have := ok.last.n.n; omega, hlp⟩
  -- what is wanted afterwards
  have fin : ∀ (J : Hp → Hp → Prop) p F2 H2, (∀ F H F' H', Gr0 F H F' H' → J F H → J F' H') → Ex F2 H2 → J F2 H2 → H2 p = none → (∀ F9 H9, Gr0 F2 H2 F9 H9 → J F9 H9 → tSemS (cxD PG w K mg base "law" s_law NLW f (.ref c) A outer s H0 E) (lwDo.drop 4) D σ H9) →
      tSem (cxD PG w K mg base "law" s_law NLW f (.ref c) A outer s H0 E) (.Tuple [.Constant .none 0 ⟨811, 75, 811, 79⟩, .Name "_law_word_here" ⟨811, 81, 811, 95⟩] 0 ⟨811, 74, 811, 96⟩) σ (upd H2 p (.tup [.non, .str (wordL (lastB [] wd.ss) d)])) fun u H3 => p_same K mg 1 [.ref p, u] H3 (fun v H' => ∃ b, v = .bl b ∧ if (!b) = true then tSemS (cxD PG w K mg base "law" s_law NLW f (.ref c) A outer s H0 E) [.Return (some (.Constant (.bool false) 0 ⟨812, 23, 812, 28⟩)) ⟨812, 16, 812, 28⟩] { D with nx := tSemS (cxD PG w K mg base "law" s_law NLW f (.ref c) A outer s H0 E) (lwDo.drop 4) D } σ H' else tSemS (cxD PG w K mg base "law" s_law NLW f (.ref c) A outer s H0 E) [] { D with nx := tSemS (cxD PG w K mg base "law" s_law NLW f (.ref c) A outer s H0 E) (lwDo.drop 4) D } σ H') E := fun J p F2 H2 hst x2 j2 hp k9 => by
    have gn : Gr0 F2 H2 (upd F2 p (.tup [.non, .str (wordL (lastB [] wd.ss) d)])) (upd H2 p (.tup [.non, .str (wordL (lastB [] wd.ss) d)])) := Gr.new x2 hp
    refine e_tupD (m := m0) (Γ := [none, none, none, none, none, none, none, none, some (Is K (.str (wordL (lastB [] wd.ss) d)))]) (ds := [.non, .str (wordL (lastB [] wd.ss) d)]) (ad_cons e_non (ad_cons (e_var 8 rfl) ad_nil)) (by simp) σ _ _ ⟨gn.fh, trivial, ?_⟩ _ fun u F3 H3 g3 i3 p3 => ?_
    · intro i S q
      match i, q with
      | 0, q => cases q
      | 1, q => cases q
      | 2, q => cases q
      | 3, q => cases q
      | 4, q => cases q
      | 5, q => cases q
      | 6, q => cases q
      | 7, q => cases q
      | 8, q => cases q; exact ⟨_, e8, .str .nil⟩
      | i + 9, q => simp at q
    · have hp3 : (Is K (.tup [.non, .str (wordL (lastB [] wd.ss) d)])).p (.ref p) F3 := .tup (SqT.of (g3.ff _ _ upd_same)) (.non (.str .nil)) .nil
      refine ⟨⟨.tup [.non, .str (wordL (lastB [] wd.ss) d)], by simp, fun x hx => ?_⟩, F3, g3.fh, trivial, ⟨hp3, p3, trivial⟩, fun v F4 H4 g4 _ p4 => ⟨true, DAt.b p4, go_end ?_⟩⟩
      · rcases List.mem_cons.mp hx with rfl | hx
        · exact dok_leaf trivial
        · rw [List.mem_singleton.mp hx]; exact dok_leaf trivial
      · have g24 := (gn.trans g3).trans g4
        exact k9 F4 H4 g24 (hst _ _ _ _ g24 j2)
  intro EE QQ hv he
  obtain ⟨dx, fs, hx, hl⟩ := Wd.ins (K := K) (MC := MC) (TC := TC) (DC := DC) (wd := wd) (n := "do") (by decide +kernel) _ _ i1
  refine ⟨_, e0, wd.i.x, dx, fs, rfl, hx, hl, _, e1, ?_⟩
  refine ⟨wd.i, d, noT F, v1, rfl, ex1, i1.1, ntt_is _ _ _ noT_x p1, hdo, fun b' hb' al' F8 H8 g8 h0 i8 => ?_, fun z hz C dd F8 H8 g8 i8 em ed => ?_⟩
  · rw [ok.db] at hb'
    by_cases hw : wordL (lastB [] wd.ss) d = ""
    · obtain ⟨hb2, _⟩ := (aft ok.last d).ok hw
      rw [hb2] at hb'
      cases hb'
      refine hv _ _ fun p hp => ?_
      have := fin (mDk K MC TC DC wd.i.x wd.i.pl al' ⟨nrmB (doneL (lastB [] wd.ss) d), wd.i.d.past ++ [(d, wd.i.d.b)], []⟩ 0).I p F8 H8 (mDk K MC TC DC wd.i.x wd.i.pl al' ⟨nrmB (doneL (lastB [] wd.ss) d), wd.i.d.past ++ [(d, wd.i.d.b)], []⟩ 0).st g8.fh i8 hp fun F9 H9 g9 i9 => kok hw (noT F) H1 al' F9 H9 noT_x (fun b h => noT_none h) eN i1 (g8.trans g9.weak) h0 i9 (tabs_kp T1 ((noTE_dk.kp i1.1 g8).trans (Kp.gr0 g9)))
      rw [hw] at this
      exact this
    · rw [(aft ok.last d).er hw] at hb'
      cases hb'
  · rw [ok.db] at hz
    by_cases hw : wordL (lastB [] wd.ss) d = ""
    · rw [((aft ok.last d).ok hw).1] at hz
      cases hz
    · rw [(aft ok.last d).er hw] at hz
      cases hz
      exact he C dd _ H8 em ed fun p hp => fin (mDr K MC TC DC wd.i).I p F8 H8 (mDr K MC TC DC wd.i).st g8.fh i8 hp fun F9 H9 g9 i9 => ker hw (noT F) H1 F9 H9 noT_x (fun b h => noT_none h) eN i1 (g8.trans g9.weak) i9 (tabs_kp T1 ((noTE_dk.kp i1.1 g8).trans (Kp.gr0 g9)))
end
end R60

set_option Elab.async false
set_option pp.maxSteps 400
set_option linter.all false
set_option maxRecDepth 100000
set_option maxHeartbeats 2000000
namespace R60
open PySem PySem.Spec PyProof.Rows L2
/-! law: a deed drawn and done -/
theorem ntt_gdo {wd : Wd} {K : PySem.W.Frag} {fa : Addr} {d : Deed} {z : Str} : ∀ T, some T ∈ GDO wd K fa d z → Ntt T := fun T hT => by
  have hs : Ntt (LsP (StrN 15) 8) := ntt_lsP fun v F G e p => p
  simp only [GDO, GLW, List.set, List.mem_cons, List.not_mem_nil, or_false, reduceCtorEq, false_or, Option.some.injEq] at hT
  rcases hT with rfl | rfl | rfl | rfl | rfl | rfl | rfl | rfl
  · exact ntt_vl
  · exact hs
  · exact ntt_vl
  · exact ntt_vl
  · exact ntt_vl
  · exact ntt_is
  · exact ntt_vl
  · exact ntt_is
theorem holds_re {Γ : Gam} {σ : L2.St} {F : Hp} {i : Nat} {T : Ty} {v : V} (h : Holds Γ σ F) (e : σ[i]? = some (some v)) (p : T.p v F) : Holds (Γ.set i (some T)) σ F := by
  have := h.set (i := i) (T := T) (v := v) (List.getElem?_eq_some_iff.mp e).1 p
  rw [set_self e] at this
  exact this
section
variable {w : World} {K : PySem.W.Frag} {mg : Str → Option Value} {base : Heap} {MC TC DC : Addr}
theorem lw_do (T : Txt w K mg MC TC DC) {Tb : List (Addr × Str)} {c P : Addr} (B : LamX.TabB base mg c P) (hmT : (P, qLW) ∈ Tb) (hu : ∀ p ∈ Tb, p.1 = P → p.2 = qLW) {f : Addr} {A : Around} {outer : List Env} {s : Shared} {H0 : Hp} {E : XK} {D : Ends} {σ : L2.St} {F H : Hp} {n : Nat} {wd : Wd} (hr : Room 20 (cxD PG w K mg base "law" s_law NLW f (.ref c) A outer s H0 E).A)
    (gd : Good (wd.m K MC TC DC) (GLW wd K) σ F H) (ok : wd.Ok) (tb : LamX.Tabs Tb H) (hn : wd.ss.length + wd.as.length ≤ n) (hn9 : n ≤ 90) (nx : ∀ σ' H', LwJ K MC TC DC Tb (n + 1) σ' H' → D.nx σ' H') : tSemS (cxD PG w K mg base "law" s_law NLW f (.ref c) A outer s H0 E) lwDo D σ H := by
  obtain ⟨dsl, hlast⟩ := wd_last (K := K) (MC := MC) (TC := TC) (DC := DC) wd
  have lb := ok.last
  have lb6 := lb.n.n
  refine go_setR 7 (fun h7 => tSem_call (E := E) (fl_book_copy T) hr (by decide) passE (a_cons (e_lastBook (wd := wd) (ds := dsl) (e_var 3 rfl) hlast) a_nil) gd fun vs F1 H1 g1 i1 pvs => ?_) sc_law.nd
  obtain ⟨v, rfl, pv⟩ := one_of pvs
  refine ⟨lastB [] wd.ss, F1, v, rfl, g1.fh, pv, lb.n.ok, lb.n.d, by omega, fun fa O F2 H2 g2 hO own => ?_⟩
  obtain ⟨ovs, ow⟩ := id own
  have i2 := (wd.m K MC TC DC).st _ _ _ _ g2 i1
  have fnO : ∀ c, O c → F2 c = none := fun c hc => (ow.o c hc).1
  have nUO : ∀ c, O c → ¬ (wd.m K MC TC DC).U c := fun c hc z => (wd.m K MC TC DC).up F1 H1 c i1 z (hO c hc)
  have nDO : ¬ O wd.dr.a := fun z => nUO _ z (.inr (.inl rfl))
  obtain ⟨ds2, d21, d22, d23, d24, d25⟩ := id i2.2.1
  have nCO : ¬ O wd.dr.cl := fun z => by
    have := fnO _ z
    rw [← d25, d24] at this
    cases this
  have iD3 : DrI wd.dr (frzO O F2 H2) H2 := ⟨ds2, d21, by rw [frzO_out nDO]; exact d22, d23, frzO_ff fnO _ _ d24, d25⟩
  have plb := ow.frz
  have ff2 := g1.ff.trans g2.ff
  have gd3 : Good (mDraw wd.dr) ((GLW wd K).set 7 (some (LbT K (lastB [] wd.ss)))) (σ.set 7 (some (.ref fa))) (frzO O F2 H2) H2 := ⟨frzO_fh g2.fh, iD3, (gd.h.mono (ff2.trans (frzO_ff fnO))).set h7 plb⟩
  refine go_set 12 (e_call (ι := Dr × { b : Bk // LkOk b }) (α := Unit) (v := ()) (wd.dr, ⟨lastB [] wd.ss, lb.lk⟩) (fl_slim_deed T) hr (by decide) Sub.refl rfl (a_cons (e_var 1 rfl) (a_cons (e_var 7 rfl) (a_cons (e_var 2 rfl) a_nil))) rfl) gd3 (fun v4 F4 H4 g4 i4 p4 gd4 => ?_) sc_law.nd
  obtain ⟨d, fit, pd⟩ := p4
  have h12 : 12 < (σ.set 7 (some (V.ref fa))).length := by
    obtain ⟨u, e, _⟩ := gd4.h 12 _ rfl
    have := (List.getElem?_eq_some_iff.mp e).1
    rw [List.length_set] at this
    exact this
  have gd4' : Good (mDraw wd.dr) (((GLW wd K).set 7 (some (LbT K (lastB [] wd.ss)))).set 12 (some (Is K d.d))) ((σ.set 7 (some (.ref fa))).set 12 (some v4)) F4 H4 := ⟨gd4.ex, gd4.i, (gd3.h.mono g4.ff).set h12 pd⟩
  refine go_set 8 (e_call (ι := ιW2) (α := Unit) (v := ()) ⟨(lastB [] wd.ss, d), lb.n.ok, fit⟩ (fl_slim_word T) hr (by decide) Sub.zero rfl (a_cons (e_var 7 rfl) (a_cons (e_var 12 rfl) a_nil)) rfl) gd4' (fun v5 F5 H5 g5 i5 p5 gd5 => ?_) sc_law.nd
  have g25 := g4.trans g5
  have gU : Gr (mDraw wd.dr).U F2 H2 (rmO O F5) H5 := Gr.unfrz fnO g25
  have hO5 : ∀ c, O c → ∃ u, F5 c = some u ∧ isLD u := fun c hc => by
    obtain ⟨_, u, e1, e2⟩ := ow.o c hc
    exact ⟨u, g25.ff c u (by rw [frzO_in hc]; exact e1), e2⟩
  have own6 : OwnB K (lastB [] wd.ss) fa O (rmO O F5) H5 := own.next gU.ff (fun c u hc e => gU.hh c u (fun z => nDO (by rw [← show c = wd.dr.a from z]; exact hc)) e) fun c hc => rmO_in hc
  have pd6 : DAs K (rmO O F5) [d.d] [v4] := das_unfrz hO5 (DAs.mono g5.ff pd) fun x hx => ⟨2, by rw [List.mem_singleton.mp hx]; exact tupD_deed⟩
  obtain ⟨ds5, d51, d52, d53, d54, d55⟩ := id i5
  have iD6 : DrI wd.dr (rmO O F5) H5 := ⟨ds5, d51, rmO_none d52, d53, by rw [rmO_out (by rw [d55]; exact nCO)]; exact d54, d55⟩
  obtain ⟨g6, i6⟩ := (Wd.Ok.subD (K := K) (MC := MC) (TC := TC) (DC := DC) ok).g F2 H2 (rmO O F5) H5 gU i2 iD6
  have h8 : 8 < ((σ.set 7 (some (V.ref fa))).set 12 (some v4)).length := by
    obtain ⟨u, e, _⟩ := gd5.h 8 _ rfl
    have := (List.getElem?_eq_some_iff.mp e).1
    rw [List.length_set] at this
    exact this
  have gd6 : Good (wd.m K MC TC DC) (GDO wd K fa d (wordL (lastB [] wd.ss) d)) (((σ.set 7 (some (.ref fa))).set 12 (some v4)).set 8 (some v5)) (rmO O F5) H5 := ⟨g6.fh, i6, by
    have q := (((gd.h.mono (ff2.trans g6.ff)).set (i := 7) (T := Vl (.ref fa)) h7 rfl).set (i := 12) (T := Is K d.d) h12 pd6).set (i := 8) (T := Is K (.str (wordL (lastB [] wd.ss) d))) (v := v5) h8 (by rw [show v5 = .str (wordL (lastB [] wd.ss) d) from DAt.s p5]; exact .str .nil)
    exact q⟩
  have tb6 := tabs_kp tb ((Wd.te.kp gd.i g1).trans ((Kp.gr0 g2).trans (noTE_draw.kp i2.2.1 gU)))
  refine lw_try T B hmT hu hr gd6 ok tb6 fit (fun hw F7 H7 al' F9 H9 x7 n7 xh7 i7 g9 h0 i9 t9 => ?_) (fun hw F7 H7 F9 H9 x7 n7 xh7 i7 g9 i9 t9 => ?_)
  · have own7 : OwnB K (lastB [] wd.ss) fa O F7 H7 := own6.xn x7 xh7 n7
    have hO7 : ∀ c, O c → H7 c ≠ none := fun c hc => by
      obtain ⟨_, q⟩ := own7
      obtain ⟨_, u, e, _⟩ := q.o c hc
      rw [e]
      simp
    have fO7 : ∀ c, O c → F7 c = none := fun c hc => by
      obtain ⟨_, q⟩ := own7
      exact (q.o c hc).1
    have nUx : ∀ c, O c → ¬ (mDr K MC TC DC wd.i).U c := fun c hc z => nUO c hc (.inl z)
    have own9 : OwnB K (lastB [] wd.ss) fa O F9 H9 := own7.next g9.ff (fun c u hc e => g9.hh c u (nUx c hc) e) fun c hc => g9.nw c (fO7 c hc) (hO7 c hc)
    have iR9 := Wd.rbR (K := K) (w := wd) _ _ _ _ _ (fun b hb => ok.d1 b (Wd.uR hb)) g9 i7.2
    have nU' : ∀ b, (b = wd.i.x ∨ b = wd.i.pl ∨ b = al') → ¬ (wd.mR K).U b := fun b hb z => by
      rcases hb with hb | hb | hb
      · exact ok.d1 b (Wd.uR z) (.inl hb)
      · exact ok.d1 b (Wd.uR z) (.inr (.inl hb))
      · have := (wd.mR K).up F7 H7 b i7.2 z
        rw [hb, h0] at this
        exact this rfl
    have nO' : ∀ b, (b = wd.i.x ∨ b = wd.i.pl ∨ b = al') → ¬ O b := fun b hb z => by
      rcases hb with hb | hb | hb
      · exact nUx b z (.inl hb)
      · exact nUx b z (.inr (.inl hb))
      · exact hO7 b z (by rw [hb]; exact h0)
    have gd9 : Good m0 (GDO wd K fa d (wordL (lastB [] wd.ss) d)) (((σ.set 7 (some (.ref fa))).set 12 (some v4)).set 8 (some v5)) F9 H9 := ⟨g9.fh, trivial, (Holds.xn gd6.h x7 ntt_gdo).mono g9.ff⟩
    refine go_ifT (m := m0) (EvT.eq (t_eqs (e_var 8 rfl) e_str) (decide_eq_true hw)) gd9 fun F10 H10 g10 _ => ?_
    have gd10 := gd9.next g10 trivial
    refine go_exprR (tSem_call (E := E) (fl_slim_done T) hr (by decide) passE (a_cons (e_var 7 rfl) (a_cons (e_var 12 rfl) a_nil)) gd10 fun vs F11 H11 g11 _ pvs => ?_)
    obtain ⟨u7, u12, rfl, q7, q12⟩ := two_of pvs
    obtain rfl : u7 = .ref fa := q7
    have g911 : Gr0 F9 H9 F11 H11 := Gr.trans g10 g11
    have own11 : OwnB K (lastB [] wd.ss) fa O F11 H11 := own9.next g911.ff (fun c u hc e => g911.same _ _ e) fun c hc => by
      obtain ⟨_, q⟩ := own9
      obtain ⟨e0, u, e, _⟩ := q.o c hc
      exact g911.nw c e0 (by rw [e]; simp)
    have lO : ∀ c, O c → H11 c ≠ none ∧ ∀ u, H11 c = some u → isLD u := fun c hc => by
      obtain ⟨_, q⟩ := own11
      obtain ⟨_, u, e, h⟩ := q.o c hc
      refine ⟨by rw [e]; simp, fun u' e' => ?_⟩
      rw [e] at e'
      cases e'
      exact h
    have i11 := (mDk K MC TC DC wd.i.x wd.i.pl al' ⟨nrmB (doneL (lastB [] wd.ss) d), wd.i.d.past ++ [(d, wd.i.d.b)], []⟩ 0).st _ _ _ _ g911 i9
    have iR11 := (wd.mR K).st _ _ _ _ g911 iR9
    refine ⟨lastB [] wd.ss, d, F11, fa, O, u12, rfl, g11.fh, own11, q12, fit, lb.n.ok, lb.n.d, by omega, hw, fun F12 H12 fz plb2 => ?_⟩
    have i12 := fz_dk O _ _ _ _ nO' fz i11
    have iR12 := (fz_draw.and (fz_ls.and fz_ls) : FzM (wd.mR K)) O _ _ _ _ (fun b hb z => nUO b z (.inr hb)) fz iR11
    have gd11 := gd10.next g11 trivial
    have e7 : (((σ.set 7 (some (V.ref fa))).set 12 (some v4)).set 8 (some v5))[7]? = some (some (.ref fa)) := by
      obtain ⟨u, e, p⟩ := gd11.h 7 _ rfl
      rw [e, show u = .ref fa from p]
    have gd12 : Good m0 ((GDO wd K fa d (wordL (lastB [] wd.ss) d)).set 7 (some (LbT K (doneL (lastB [] wd.ss) d)))) (((σ.set 7 (some (.ref fa))).set 12 (some v4)).set 8 (some v5)) F12 H12 := ⟨fz.fh, trivial, holds_re (gd11.h.mono fz.ff) e7 plb2⟩
    obtain ⟨iD12, ⟨svs, s1, s2, s3⟩, ⟨hvs, hl1, hl2, hl3⟩⟩ := id iR12
    have hsl : svs.length < 100000 := by
      have := HoldsA.len s3
      unfold Wd.st at this
      rw [List.length_map, List.length_cons, List.length_map] at this
      omega
    refine go_app0 (a := wd.sl) (vs := svs) (Tv := stT K ([d], doneL (lastB [] wd.ss) d)) (e_var 3 rfl) (e_tup (Ps := [Is K (rowD [d]), LbT K (doneL (lastB [] wd.ss) d)]) (a_cons (e_lstD (ds := [d.d]) (ad_cons (e_var 12 rfl) ad_nil)) (a_cons (e_var 7 rfl) a_nil)) (by show 2 ≤ sizeLine; decide) fun vs F p h1 h2 => ⟨p, vs, rfl, SqT.of h2, h1⟩) gd12 s1 hsl fun v13 F13 H13 g13 p13 => ?_
    refine go_setR 4 (fun h4 => fun pins s' I => (pe_lst pa_nil).run pins s' _ _ _ I ⟨Nat.zero_le _, fun p hp => ?_⟩) sc_law.nd
    have i13 := (mDk K MC TC DC wd.i.x wd.i.pl al' ⟨nrmB (doneL (lastB [] wd.ss) d), wd.i.d.past ++ [(d, wd.i.d.b)], []⟩ 0).st _ _ _ _ g13 i12
    have iR13 := (wd.mR K).st _ _ _ _ g13 iR12
    obtain ⟨iD13, ⟨svs', t1, t2, t3⟩, ⟨hvs', u1, u2, u3⟩⟩ := id iR13
    have f1 : F13 wd.sl = none := t2
    have hs13 : H13 wd.sl = some (.lst svs) := g13.same _ _ s1
    have pne : p ≠ wd.sl := fun z => by
      rw [z, upd_same] at hp
      cases hp
    have hp13 : H13 p = none := by rw [upd_ne pne] at hp; exact hp
    have x14 : Ex F13 (upd H13 wd.sl (.lst (svs ++ [v13]))) := ex_at g13.fh f1
    have fp : F13 p = none := Same.free x14 hp
    have x15 : Ex F13 (upd (upd H13 wd.sl (.lst (svs ++ [v13]))) p (.lst [])) := ex_at x14 fp
    have same : ∀ b, b ≠ wd.sl → H13 b ≠ none → (upd (upd H13 wd.sl (.lst (svs ++ [v13]))) p (.lst [])) b = H13 b := fun b hb hn => by
      rw [upd_ne (fun z => hn (by rw [z]; exact hp13)), upd_ne hb]
    refine go_end (go_end (nx _ _ ⟨⟨⟨wd.i.x, wd.i.pl, al', ⟨nrmB (doneL (lastB [] wd.ss) d), wd.i.d.past ++ [(d, wd.i.d.b)], []⟩⟩, wd.dr, wd.sl, p, wd.ss ++ [(d, doneL (lastB [] wd.ss) d)], []⟩, F13, ⟨x15, ⟨?_, ?_, ⟨svs ++ [v13], ?_, f1, ?_⟩, ⟨[], upd_same, fp, trivial⟩⟩, ?_⟩, ?_, ?_, ?_⟩))
    · exact (mDk K MC TC DC wd.i.x wd.i.pl al' ⟨nrmB (doneL (lastB [] wd.ss) d), wd.i.d.past ++ [(d, wd.i.d.b)], []⟩ 0).loc _ _ _ (fun b hb => same b (fun z => nU' b hb (.inr (.inl z))) ((mDk K MC TC DC wd.i.x wd.i.pl al' ⟨nrmB (doneL (lastB [] wd.ss) d), wd.i.d.past ++ [(d, wd.i.d.b)], []⟩ 0).up _ _ b i13 hb)) i13
    · exact (mDraw wd.dr).loc _ _ _ (fun b hb => same b (fun z => ok.d3.1 ((show b = wd.dr.a from hb).symm.trans z)) ((mDraw wd.dr).up _ _ b iD13 hb)) iD13
    · rw [upd_ne (Ne.symm pne), upd_same]
    · have q : HoldsA (wd.st.map (stT K) ++ [stT K ([d], doneL (lastB [] wd.ss) d)]) (svs ++ [v13]) F13 := holdsA_snoc (s3.mono g13.ff) p13
      unfold Wd.st at q ⊢
      rw [List.map_append, List.map_cons, List.map_append]
      exact q
    · have q := (((((gd12.h.mono g13.ff).lose1 (i := 7)).lose1 (i := 8)).lose1 (i := 12)).set (i := 4) (T := Vl (.ref p)) (v := .ref p) h4 rfl)
      exact q
    · refine ⟨?_, ?_, rfl, fun e he => ?_, fun e he => absurd he (by simp), ?_, fun b hb z => ?_, Ne.symm pne, ?_⟩
      · show nrmB _ = nrmB (lastB [] (wd.ss ++ [(d, doneL (lastB [] wd.ss) d)]))
        rw [lastB_snoc]
      · show wd.i.d.past ++ [(d, wd.i.d.b)] = pastB [] (wd.ss ++ [(d, doneL (lastB [] wd.ss) d)])
        rw [pastB_snoc, ok.dp, ok.db]
      · rcases List.mem_append.mp he with he | he
        · exact ok.bs e he
        · rw [List.mem_singleton.mp he]
          exact ⟨((aft lb d).ok hw).2, fit⟩
      · have := ok.n
        show (wd.ss ++ [(d, doneL (lastB [] wd.ss) d)]).length + ([] : List (Deed × Bk)).length ≤ 100
        simp
        omega
      · have z : b = wd.i.x ∨ b = wd.i.pl ∨ b = al' := z
        rcases hb with hb | hb | hb
        · exact nU' b z (.inr (.inl hb))
        · have := (mDk K MC TC DC wd.i.x wd.i.pl al' ⟨nrmB (doneL (lastB [] wd.ss) d), wd.i.d.past ++ [(d, wd.i.d.b)], []⟩ 0).up _ _ b i13 z
          rw [show b = p from hb] at this
          exact this hp13
        · exact nU' b z (.inl hb)
      · refine ⟨ok.d3.1, fun z => ?_⟩
        have := (mDraw wd.dr).up _ _ wd.dr.a iD13 rfl
        rw [show wd.dr.a = p from z] at this
        exact this hp13
    · refine tabs_kp t9 ((Kp.gr0 g911).trans (Kp.trans (fun b o e t => fz.hh b o (fun z => ?_) e) ((Kp.gr0 g13).trans ((Kp.upd hs13 id).trans (Kp.new hp)))))
      have := (lO b z).2 o e
      cases o <;> first | exact this | exact t
    · show (wd.ss ++ [(d, doneL (lastB [] wd.ss) d)]).length + ([] : List (Deed × Bk)).length ≤ n + 1
      simp
      omega
  · have gd9 : Good (wd.m K MC TC DC) (GDO wd K fa d (wordL (lastB [] wd.ss) d)) _ F9 H9 := ⟨g9.fh, (ok.sub.g _ _ _ _ g9 i7 i9).2, (Holds.xn gd6.h x7 ntt_gdo).mono g9.ff⟩
    refine go_ifF (EvT.eq (t_eqs (e_var 8 rfl) e_str) (decide_eq_false hw)) gd9 fun F10 H10 g10 i10 => go_end (nx _ _ ⟨wd, F10, ⟨g10.fh, i10, ?_⟩, ok, tabs_kp t9 (Wd.te.kp gd9.i g10), by omega⟩)
    exact (((gd9.h.mono g10.ff).lose1 (i := 7)).lose1 (i := 8)).lose1 (i := 12)
end
end R60

set_option Elab.async false
set_option pp.maxSteps 400
set_option linter.all false
set_option maxRecDepth 100000
set_option maxHeartbeats 2000000
namespace R60
open PySem PySem.Spec PyProof.Rows L2
/-! law: the whole -/
section
variable {w : World} {K : PySem.W.Frag} {mg : Str → Option Value} {base : Heap} {MC TC DC : Addr}
theorem lw_turn (T : Txt w K mg MC TC DC) {Tb : List (Addr × Str)} {c P : Addr} (B : LamX.TabB base mg c P) (hmT : (P, qLW) ∈ Tb) (hu : ∀ p ∈ Tb, p.1 = P → p.2 = qLW) (hsw : CalX PG w K mg base 7 "_law_swung" (p_swung K MC TC DC Tb)) {f : Addr} {A : Around} {outer : List Env} {s : Shared} {H0 : Hp} {E : XK} {D : Ends} {σ : L2.St} {F H : Hp} {n i : Nat} {wd : Wd} (hr : Room 20 (cxD PG w K mg base "law" s_law NLW f (.ref c) A outer s H0 E).A)
    (gd : Good (wd.m K MC TC DC) ((GLW wd K).set 5 (some (Is K (.int (i : Nat))))) σ F H) (ok : wd.Ok) (tb : LamX.Tabs Tb H) (hn : wd.ss.length + wd.as.length ≤ n) (hn9 : n ≤ 90) (nx : ∀ σ' H', LwJ K MC TC DC Tb (n + 1) σ' H' → D.nx σ' H') : tSemS (cxD PG w K mg base "law" s_law NLW f (.ref c) A outer s H0 E) lwTurn D σ H := by
  refine go_set 6 (P := IntS fun r => 0 ≤ r ∧ r < 6) (e_if (t_gt (e_var 5 rfl) e_int) (fun _ => e_pick (d := wd.dr) (n := 6) (f_pick T) hr (by decide) ok.subD (by decide) (e_var 1 rfl) e_int) (fun _ => EvE.imp e_int fun v F p => ⟨5, DAt.i p, by decide⟩)) gd (fun v F1 H1 g1 i1 p1 gd1 => ?_) sc_law.nd
  obtain ⟨r, rfl, hr1⟩ := p1
  have e6 : (σ.set 6 (some (V.int r)))[6]? = some (some (.int r)) := by
    obtain ⟨u, e, ⟨r', e', _⟩⟩ := gd1.h 6 _ rfl
    rw [List.getElem?_set_self (by
      have := (List.getElem?_eq_some_iff.mp e).1
      rwa [List.length_set] at this)]
  have gd2 : Good (wd.m K MC TC DC) (((GLW wd K).set 5 (some (Is K (.int (i : Nat))))).set 6 (some (Is K (.int r)))) (σ.set 6 (some (.int r))) F1 H1 := ⟨gd1.ex, gd1.i, by
    have q := holds_re (T := Is K (.int r)) gd1.h e6 (.int .nil)
    exact q⟩
  have tb1 := tabs_kp tb (Wd.te.kp gd.i g1)
  refine go_ifJ (fun σ' H' => LwJ K MC TC DC Tb (n + 1) σ' H') (S := Eq (decide (r < 3))) (t_lt (e_var 6 rfl) e_int) gd2 (fun F2 H2 g2 i2 _ => ?_) (fun F2 H2 g2 i2 _ => ?_) (fun σ' H' hJ => lw_told T hr hJ nx)
  · have gd3 := gd2.next g2 i2
    exact lw_sw hsw hr (r := r) ⟨gd3.ex, gd3.i, gd3.h.lose1 (i := 5)⟩ ok (tabs_kp tb1 (Wd.te.kp gd2.i g2)) (by omega) fun _ _ h => h
  · have gd3 := gd2.next g2 i2
    exact lw_do T B hmT hu hr ⟨gd3.ex, gd3.i, (gd3.h.lose1 (i := 5)).lose1 (i := 6)⟩ ok (tabs_kp tb1 (Wd.te.kp gd2.i g2)) hn hn9 fun _ _ h => h
def p_law (K : PySem.W.Frag) (Tb : List (Addr × Str)) : Sp := fun vs H Q _ => ∃ (a : Addr) (ns : List Int), vs = [.ref a] ∧ SqL K H a (ns.map .int) ∧ ns.length ≤ 63 ∧ LamX.Tabs Tb H ∧ ∀ H', Q (.bl true) H'
theorem lw_all (T : Txt w K mg MC TC DC) {Tb : List (Addr × Str)} {c P : Addr} (B : LamX.TabB base mg c P) (hmT : (P, qLW) ∈ Tb) (hu : ∀ p ∈ Tb, p.1 = P → p.2 = qLW) (hsw : CalX PG w K mg base 7 "_law_swung" (p_swung K MC TC DC Tb)) {f : Addr} {A : Around} {outer : List Env} {s : Shared} {H : Hp} {E : XK} {vs : List V} {Q : VK} (hr : Room 20 (cxD PG w K mg base "law" s_law NLW f (.ref c) A outer s H E).A)
    (h : p_law K Tb vs H Q E) : tSemS (cxD PG w K mg base "law" s_law NLW f (.ref c) A outer s H E) (defBody s_law) { nx := fun _ H' => Q .non H', rt := Q } (start NLW vs) H := by
  obtain ⟨a, ns, rfl, hsq, hlen, tb, q⟩ := h
  have gd0 : Good m0 [some (Vl (.ref a)), none, none, none, none, none, none, none, none, none, none, none, none, none, none] (start NLW [.ref a]) (fun _ => none) H := ⟨fun b u z => (by cases z), trivial, HoldsA.holds (Ts := [Vl (.ref a)]) (vs := [.ref a]) (k := 14) ⟨rfl, trivial⟩⟩
  refine go_setR 1 (fun h1 => tSem_call (E := E) (fl_begin T) hr (by decide) passE (a_cons (e_var 0 rfl) a_nil) gd0 fun us F1 H1 g1 i1 pvs => ?_) sc_law.nd
  obtain ⟨u, rfl, pu⟩ := one_of pvs
  obtain rfl : u = .ref a := pu
  refine ⟨a, ns, F1, rfl, Same.seq g1.same hsq, hlen, g1.fh, fun dr cl F2 H2 g2 hd fd hl hcl => ?_⟩
  have iD2 : DrI ⟨dr, cl⟩ F2 H2 := ⟨⟨cl, ns, 0, 0, 1, 0⟩, hl, fd, ⟨by show (0 : Int) ≤ 0; decide, by show (0 : Int) ≤ 1; decide, by show (1 : Int) < 1000000007; decide, by show ns.length ≤ 1000; omega⟩, hcl, rfl⟩
  have g02 : Gr0 _ H F2 H2 := Gr.trans g1 g2
  have gd2 : Good (mDraw ⟨dr, cl⟩) [none, some (Vl (.ref dr)), none, none, none, none, none, none, none, none, none, none, none, none, none] ((start NLW [.ref a]).set 1 (some (.ref dr))) F2 H2 := ⟨g2.fh, iD2, (((gd0.h.mono g02.ff).set (i := 1) (T := Vl (.ref dr)) h1 rfl).lose1 (i := 0))⟩
  refine go_set 2 (e_call (ι := Dr) (α := Unit) (v := ()) ⟨dr, cl⟩ (fl_names T) hr (by decide) Sub.refl rfl (a_cons (e_var 1 rfl) a_nil) rfl) gd2 (fun v3 F3 H3 g3 i3 p3 gd3 => ?_) sc_law.nd
  refine go_setR 11 (fun h11 => tSem_make0 (E := E) (f_Deck_init T) hr (by decide) passE fun y dx hy hdx hne => ?_) sc_law.nd
  have gn1 : Gr0 F3 H3 F3 (upd H3 dx (.own y)) := Gr.scratch gd3.ex hdx
  have hy1 : (upd H3 dx (.own y)) y = none := by rw [upd_ne (Ne.symm hne)]; exact hy
  have gn2 : Gr0 F3 (upd H3 dx (.own y)) F3 (upd (upd H3 dx (.own y)) y (.ins DC dx [])) := Gr.scratch gn1.fh hy1
  have gn : Gr0 F3 H3 F3 (upd (upd H3 dx (.own y)) y (.ins DC dx [])) := Gr.trans gn1 gn2
  have iDn := (mDraw ⟨dr, cl⟩).st _ _ _ _ gn gd3.i
  have ny : dr ≠ y := fun z => by
    have := (mDraw ⟨dr, cl⟩).up _ _ dr gd3.i rfl
    rw [z] at this
    exact this hy
  refine ⟨y, dx, F3, rfl, gn.fh, upd_same, Same.free gd3.ex hy, fun pl al F4 H4 g4 hpl hal i4 => ⟨rfl, ?_⟩⟩
  have iD4 := rb_draw (d := ⟨dr, cl⟩) _ _ _ _ _ (fun b (hb : b = dr) z => ny (hb.symm.trans z)) g4 iDn
  have tb4 : LamX.Tabs Tb H4 := tabs_kp tb ((Kp.gr0 g02).trans ((noTE_draw.kp iD2 g3).trans ((Kp.gr0 gn).trans (Kp.gr g4 fun b hb o ho => by
    rw [show b = y from hb, upd_same] at ho
    cases ho
    exact id))))
  have gd4 : Good m0 [none, some (Vl (.ref dr)), some (LsP (StrN 15) 8), none, none, none, none, none, none, none, none, some (Vl (.ref y)), none, none, none] ((((start NLW [.ref a]).set 1 (some (.ref dr))).set 2 (some v3)).set 11 (some (.ref y))) F4 H4 := ⟨g4.fh, trivial, by
    have q := ((gd3.h.mono (gn.ff.trans g4.ff)).set (i := 11) (T := Vl (.ref y)) (v := .ref y) h11 rfl)
    exact q⟩
  refine go_parR 3 4 (fun h3 h4 => fun pins s1 I => (pe_lst (pa_cons sem pa_nil)).run pins s1 _ _ _ I (e_tup (P := stT K ([], [])) (Ps := [Is K (rowD []), LbT K []]) (a_cons (e_lstD ad_nil) (a_cons e_dnew a_nil)) (by show 2 ≤ sizeLine; decide) (fun vs F p h1 h2 => ⟨p, vs, rfl, SqT.of h2, h1⟩) _ F4 H4 gd4 _ fun v5 F5 H5 g5 _ p5 => ⟨by show 1 ≤ sizeLine; decide, fun sl hsl => ?_⟩)) sc_law.nd
  refine fun pins s1 I => (pe_lst pa_nil).run pins s1 _ _ _ I ⟨Nat.zero_le _, fun hl hhl => ?_⟩
  have gn6 : Gr0 F5 H5 F5 (upd H5 sl (.lst [v5])) := Gr.scratch g5.fh hsl
  have gn7 : Gr0 F5 (upd H5 sl (.lst [v5])) F5 (upd (upd H5 sl (.lst [v5])) hl (.lst [])) := Gr.scratch gn6.fh hhl
  have g57 : Gr0 F5 H5 F5 (upd (upd H5 sl (.lst [v5])) hl (.lst [])) := Gr.trans gn6 gn7
  have g47 : Gr0 F4 H4 F5 (upd (upd H5 sl (.lst [v5])) hl (.lst [])) := Gr.trans g5 g57
  have i5 := (mDk K MC TC DC y pl al ⟨[], [], []⟩ 0).st _ _ _ _ g5 i4
  have i6 := (mDk K MC TC DC y pl al ⟨[], [], []⟩ 0).st _ _ _ _ gn6 i5
  have i7 := (mDk K MC TC DC y pl al ⟨[], [], []⟩ 0).st _ _ _ _ gn7 i6
  have iD5 := (mDraw ⟨dr, cl⟩).st _ _ _ _ g5 iD4
  have iD6 := (mDraw ⟨dr, cl⟩).st _ _ _ _ gn6 iD5
  have iD7 := (mDraw ⟨dr, cl⟩).st _ _ _ _ gn7 iD6
  have nsh : sl ≠ hl := fun z => by
    rw [← z, upd_same] at hhl
    cases hhl
  have f5s : F5 sl = none := Same.free g5.fh hsl
  have f5h : F5 hl = none := Same.free gn6.fh hhl
  obtain ⟨wd, hwd⟩ : ∃ wd : Wd, wd = ⟨⟨y, pl, al, ⟨[], [], []⟩⟩, ⟨dr, cl⟩, sl, hl, [], []⟩ := ⟨_, rfl⟩
  have gdW : Good (wd.m K MC TC DC) (GLW wd K) ((((((start NLW [.ref a]).set 1 (some (.ref dr))).set 2 (some v3)).set 11 (some (.ref y))).set 3 (some (.ref sl))).set 4 (some (.ref hl))) F5 (upd (upd H5 sl (.lst [v5])) hl (.lst [])) := by
    subst hwd
    refine ⟨g57.fh, ⟨i7, iD7, ⟨[v5], by rw [upd_ne nsh, upd_same], f5s, p5, trivial⟩, ⟨[], upd_same, f5h, trivial⟩⟩, ?_⟩
    have q := (((gd4.h.mono g5.ff).set (i := 3) (T := Vl (.ref sl)) (v := .ref sl) h3 rfl).set (i := 4) (T := Vl (.ref hl)) (v := .ref hl) (by rw [List.length_set]; exact h4) rfl)
    exact q
  have ndp : ∀ b, H4 b = none → b ≠ dr := fun b hb z => by
    have := (mDraw ⟨dr, cl⟩).up _ _ dr iD4 rfl
    rw [z] at hb
    exact this hb
  have okW : wd.Ok := by
    subst hwd
    refine ⟨rfl, rfl, rfl, fun e he => absurd he (by simp), fun e he => absurd he (by simp), by show 0 + 0 ≤ 100; omega, fun b hb z => ?_, nsh, fun z => ?_, fun z => ?_⟩
    · rcases hb with hb | hb | hb
      · exact (mDk K MC TC DC y pl al ⟨[], [], []⟩ 0).up _ _ b i5 z (by rw [show b = sl from hb]; exact hsl)
      · exact (mDk K MC TC DC y pl al ⟨[], [], []⟩ 0).up _ _ b i6 z (by rw [show b = hl from hb]; exact hhl)
      · have hup := (mDraw ⟨dr, cl⟩).up _ _ dr iDn rfl
        rcases z with z | z | z
        · exact ny ((show b = dr from hb).symm.trans z)
        · rw [show dr = pl from (show b = dr from hb).symm.trans z] at hup
          exact hup hpl
        · rw [show dr = al from (show b = dr from hb).symm.trans z] at hup
          exact hup hal
    · have := (mDraw ⟨dr, cl⟩).up _ _ dr iD5 rfl
      rw [show dr = sl from z] at this
      exact this hsl
    · have := (mDraw ⟨dr, cl⟩).up _ _ dr iD6 rfl
      rw [show dr = hl from z] at this
      exact this hhl
  have tbW := tabs_kp tb4 (Kp.gr0 g47)
  have hl0 : wd.ss.length + wd.as.length = 0 := by rw [hwd] <;> rfl
  refine go_forR (N := 20) (fun i σ' H' => LwJ K MC TC DC Tb i σ' H') (passes_of rfl) rfl T.n_range (e_addS (φ := fun i => i = 4) (e_is e_int) (e_pick (d := wd.dr) (n := 17) (f_pick T) hr (by decide) okW.subD (by decide) (e_var 1 rfl) e_int) (fun i j hi hj => by subst hi; omega)) (by decide) gdW (fun F8 H8 g8 i8 => ⟨wd, F8, gdW.next g8 i8, okW, tabs_kp tbW (Wd.te.kp gdW.i g8), by omega⟩) (fun i σ' H' hi hJ => ?_) (fun i σ' H' hi hJ => lw_end T hsw hr hJ q)
  obtain ⟨w1, F9, gd9, ok9, tb9, hn9⟩ := hJ
  exact go_tg (T := Is K (.int (i : Nat))) gd9 (.int .nil) (tg_name 5 sc_law.nd) fun σ2 F2 H2 g2 gd2 => lw_turn T B hmT hu hsw hr gd2 ok9 (tabs_kp tb9 (Kp.gr0 g2)) hn9 (by omega) fun _ _ h => h
end
end R60

set_option Elab.async false
set_option pp.maxSteps 400
set_option linter.all false
set_option maxRecDepth 100000
set_option maxHeartbeats 2000000
namespace R60
open PySem PySem.Spec PyProof.Rows L2
structure ErrL (K : PySem.W.Frag) (x t1 t2 : Str) (bm : List Value) (nw : String) : Prop where
  ei : PySem.W.excInitIn K (He.ga K x) bm nw = true
  eo : PySem.W.excOver K (He.ga K x) bm = true
  sa : PySem.W.findIn K (.ref (He.ga K x)) "__setattr__" = some (some (.builtin "object.__setattr__"))
  ga : PySem.W.findIn K (.ref (He.ga K x)) "__getattribute__" = some (some (.builtin "BaseException.__getattribute__"))
  gg : PySem.W.findIn K (.ref (He.ga K x)) "__getattr__" = some none
  noN : PySem.W.findIn K (.ref (He.ga K x)) "called" = some none
  iC : PySem.W.findIn K (.ref (He.ga K x)) "__init__" = some (some (.ref (He.ma K (He.ga K x) "__init__")))
  tC : PySem.W.typeIn K (.ref (He.ma K (He.ga K x) "__init__")) = some (.type "function")
  kC : PySem.W.keepIn K (.ref (He.ga K x)) = true
  exC : PySem.W.subIn K (.ref (He.ga K x)) (.type "BaseException") = some true
  tyC : PySem.W.typeIn K (.ref (He.ga K x)) = some (.type "type")
  hdC : PySem.W.hasDictIn K (He.ga K x) = true
  fam : PySem.W.exmOne K (.ref (He.ga K x)) (.ref (He.ga K t1)) = some true ∨ (PySem.W.exmOne K (.ref (He.ga K x)) (.ref (He.ga K t1)) = some false ∧ PySem.W.exmOne K (.ref (He.ga K x)) (.ref (He.ga K t2)) = some true)
theorem errB_ok {K : PySem.W.Frag} {x t1 t2 : Str} {bm : List Value} {nw : String} (h : errB K x t1 t2 bm nw = true) : ErrL K x t1 t2 bm nw := by
  unfold errB at h
  obtain ⟨h1, h⟩ := He.ba h
  obtain ⟨h2, h⟩ := He.ba h
  obtain ⟨h3, h⟩ := He.ba h
  obtain ⟨h4, h⟩ := He.ba h
  obtain ⟨h5, h⟩ := He.ba h
  obtain ⟨h6, h⟩ := He.ba h
  obtain ⟨h7, h⟩ := He.ba h
  obtain ⟨h8, h⟩ := He.ba h
  obtain ⟨h9, h⟩ := He.ba h
  obtain ⟨h10, h⟩ := He.ba h
  obtain ⟨h11, h⟩ := He.ba h
  obtain ⟨h12, h⟩ := He.ba h
  refine ⟨h1, h2, He.eqO_ok h3, He.eqO_ok h4, He.eqO_ok h5, He.eqO_ok h6, He.eqO_ok h7, of_decide_eq_true h8, h9, of_decide_eq_true h10, of_decide_eq_true h11, h12, ?_⟩
  rcases Bool.or_eq_true_iff.mp h with h | h
  · exact .inl (of_decide_eq_true h)
  · obtain ⟨a, b⟩ := He.ba h
    exact .inr ⟨of_decide_eq_true a, of_decide_eq_true b⟩
theorem dB_ok {K : PySem.W.Frag} : ∀ (n : Nat) (d : R60.D) (u : Value), dB K n d u = true → ∃ v, RelV v u ∧ DAt K (fun _ => none) d v := by
  intro n
  induction n with
  | zero =>
    intro d u h
    cases d with
    | int i =>
      cases u with
      | int j t =>
        unfold dB at h
        have e : i = j := of_decide_eq_true h
        exact ⟨.int i, ⟨t, by rw [e]⟩, .int .nil⟩
      | _ => simp [dB] at h
    | str i =>
      cases u with
      | str j t =>
        unfold dB at h
        have e : i = j := of_decide_eq_true h
        exact ⟨.str i, ⟨t, by rw [e]⟩, .str .nil⟩
      | _ => simp [dB] at h
    | _ => cases u <;> simp [dB] at h
  | succ n ih =>
    intro d u h
    cases d with
    | int i =>
      cases u with
      | int j t =>
        unfold dB at h
        have e : i = j := of_decide_eq_true h
        exact ⟨.int i, ⟨t, by rw [e]⟩, .int .nil⟩
      | _ => simp [dB] at h
    | str i =>
      cases u with
      | str j t =>
        unfold dB at h
        have e : i = j := of_decide_eq_true h
        exact ⟨.str i, ⟨t, by rw [e]⟩, .str .nil⟩
      | _ => simp [dB] at h
    | tup ds =>
      cases u with
      | ref a =>
        unfold dB at h
        have hgo : ∀ (ds : List R60.D) (us : List Value), dB.go K n ds us = true → ∃ vs, Vals vs us ∧ DAs K (fun _ => none) ds vs := by
          intro ds
          induction ds with
          | nil =>
            intro us h
            cases us with
            | nil => exact ⟨[], .nil, .nil⟩
            | cons _ _ => simp [dB.go] at h
          | cons d ds ih2 =>
            intro us h
            cases us with
            | nil => simp [dB.go] at h
            | cons u us =>
              unfold dB.go at h
              obtain ⟨h1, h2⟩ := He.ba h
              obtain ⟨v, r1, p1⟩ := ih d u h1
              obtain ⟨vs, r2, p2⟩ := ih2 us h2
              exact ⟨v :: vs, .cons r1 r2, DAs.cons p1 p2⟩
        cases q : K.lookup a with
        | none => rw [q] at h; cases h
        | some o =>
          obtain ⟨oc, od, dt, osl⟩ := o
          rw [q] at h
          cases oc with
          | type c =>
            cases dt with
            | seq its k =>
              have h' : (decide (c = "tuple") && (decide (its.size ≤ sizeLine) && dB.go K n ds its.toList)) = true := h
              obtain ⟨h1, h'⟩ := He.ba h'
              obtain ⟨h2, h3⟩ := He.ba h'
              obtain ⟨vs, r, p⟩ := hgo ds its.toList h3
              exact ⟨.ref a, rfl, .tup (.inr ⟨_, its, k, q, congrArg Value.type (of_decide_eq_true h1), rfl, of_decide_eq_true h2, r⟩) p .nil⟩
            | _ => simp at h
          | _ => cases dt <;> simp at h
      | _ => simp [dB] at h
    | _ => cases u <;> simp [dB] at h
theorem ex_none {F : Hp} : Ex (fun _ => none) F := fun _ _ z => nomatch z
theorem tabB_ok {K : PySem.W.Frag} {w : World} {a : Addr} {k : Str} {d : R60.D} {es : Array DictEntry} {n : Nat} (D : KDict K w a es n) (h : tabB K a k d = true) : ∃ t : Addr, KDct K w a k (.ref t) ∧ ∀ F, DAt K F d (.ref t) := by
  unfold tabB at h
  cases q : PySem.W.nsIn K a k with
  | none => rw [q] at h; cases h
  | some r =>
    rw [q] at h
    cases r with
    | none => cases h
    | some u =>
      cases u with
      | ref t =>
        obtain ⟨v, rv, p⟩ := dB_ok 3 d (.ref t) h
        have hv : v = .ref t := by
          cases v with
          | ref b =>
            have : Value.ref t = Value.ref b := rv
            cases this
            rfl
          | int i => obtain ⟨_, z⟩ := (show ∃ t', Value.ref t = Value.int i t' from rv); cases z
          | str i => obtain ⟨_, z⟩ := (show ∃ t', Value.ref t = Value.str i t' from rv); cases z
          | byt i => obtain ⟨_, z⟩ := (show ∃ t', Value.ref t = Value.bytes i t' from rv); cases z
          | flt i => obtain ⟨_, z⟩ := (show ∃ t', Value.ref t = Value.float i t' from rv); cases z
          | _ => cases rv
        subst hv
        exact ⟨t, ⟨es, n, _, D.at_, D.lit, q, rfl⟩, fun F => p.mono ex_none⟩
      | _ => cases h
theorem kdct_of {K : PySem.W.Frag} {w : World} {a : Addr} {kvs : List (Str × He.Dv)} {es : Array DictEntry} {n : Nat} (D : KDict K w a es n) (h : He.valsB K a kvs = true) {k : Str} {d : He.Dv} (hq : (k, d) ∈ kvs) : KDct K w a k (d.v K) := by
  obtain ⟨u, e, r⟩ := He.valsB_ok h hq
  exact ⟨es, n, u, D.at_, D.lit, e, r⟩
/-! ### from the looks to what the proofs ask -/
section
variable {K : PySem.W.Frag} {h : Heap} {mg : Str → Option Value}
theorem fun_of {x qual : Str} {st : Stmt} {f : Addr} {fd : FuncData} (F : FunD K x qual (defArgs st) (defBody st) (defScope st) [] [] f fd) : Fun K x qual st f fd := by
  obtain ⟨oc, od, dV, kV, doc, pm, an, cdv, ct, osl, e, lk, hcd, dv, kv⟩ := F.ex
  have : dV = .none := by
    rcases dv with ⟨_, e⟩ | ⟨z, _⟩
    · exact e
    · exact absurd rfl z
  subst this
  exact ⟨⟨oc, od, kV, doc, pm, an, cdv, ct, osl, e, lk, hcd⟩, F.kp⟩
theorem dd_fun {fa : List He.Fa} {fn : List He.DefD} (c : He.SaysD fa fn K) {at_ : Str × Option Str} {x qual : Str} {st : Stmt} (hd : dd at_ x qual st ∈ fn) : ∃ fd, Fun K x qual st (He.fAd K at_) fd := by
  obtain ⟨fd, F⟩ := c.defs hd
  exact ⟨fd, fun_of F⟩
theorem dd_def {fa : List He.Fa} {fn : List He.DefD} (c : He.SaysD fa fn K) (X : K.In h) (G : h.Ns mainGlobals mg) {y x qual : Str} {st : Stmt} (hd : dd (y, none) x qual st ∈ fn) (hg : He.Fa.glo y ∈ fa) : DefX K mg y x qual st := by
  obtain ⟨fd, F⟩ := dd_fun c hd
  exact ⟨He.ga K y, fd, He.glo_ok X G (c.facts hg), F⟩
theorem dd_meth {fa : List He.Fa} {fn : List He.DefD} (c : He.SaysD fa fn K) {C m qual : Str} {st : Stmt} (hd : dd (C, some m) m qual st ∈ fn) (hc : He.Fa.cls C ∈ fa) (hm : He.Fa.meth C m ∈ fa) : DefM K (He.ga K C) m qual st := by
  obtain ⟨fd, F⟩ := dd_fun c hd
  exact ⟨He.ma K (He.ga K C) m, fd, He.cls_ok (c.facts hc), He.meth_ok (c.facts hm), F⟩
theorem dd_err {fa : List He.Fa} {fn : List He.DefD} (c : He.SaysD fa fn K) (X : K.In h) (G : h.Ns mainGlobals mg) {x z q : Str} {st : Stmt} {B newId initId : String} {bm : List Value} {p1 q1 q2 q3 q4 : Pos} (hd : dd (x, some "__init__") "__init__" q st ∈ fn) (hg : He.Fa.glo x ∈ fa) (h1 : He.Fa.glo "TapeError" ∈ fa) (h2 : He.Fa.glo "MissingError" ∈ fa)
    (hb : PySem.ErX.Base B newId initId bm) (he : errB K x "TapeError" "MissingError" bm newId = true) (ea : defArgs st = PySem.ErX.iA p1) (eb : defBody st = PySem.ErX.iB q1 q2 q3 q4 z) (es : defScope st = PySem.ErX.iS) : ErrN K mg x z := by
  obtain ⟨fd, F⟩ := dd_fun c hd
  obtain ⟨oc, od, kV, doc, pm, an, cdv, ct, osl, rfl, lk, hcd⟩ := F.ex
  have L := errB_ok he
  rw [ea, eb, es] at lk
  exact ⟨He.ga K "TapeError", He.ga K "MissingError", He.glo_ok X G (c.facts h1), He.glo_ok X G (c.facts h2), ⟨He.ga K x, He.ma K (He.ga K x) "__init__", q, He.glo_ok X G (c.facts hg),
    ⟨⟨B, newId, initId, bm, hb, L.ei, L.eo⟩, L.sa, L.ga, L.gg, L.noN, L.iC, L.tC, L.kC, L.exC, L.tyC, L.hdC, ⟨oc, od, kV, doc, pm, an, cdv, ct, osl, p1, q1, q2, q3, q4, lk, hcd⟩⟩, ⟨L.ga, L.gg, L.noN, L.exC, L.hdC, L.fam⟩⟩⟩
theorem dd_T {fa : List He.Fa} {fn : List He.DefD} (c : He.SaysD fa fn K) (X : K.In h) (G : h.Ns mainGlobals mg) {x : Str} {st : Stmt} (hd : dd (x, none) x x st ∈ fn) (hg : He.Fa.glo x ∈ fa) : DefT K mg x x st (He.codeOf K (x, none)) := by
  obtain ⟨fd, F⟩ := dd_fun c hd
  obtain ⟨oc, od, kV, doc, pm, an, cdv, ct, osl, rfl, lk, hcd⟩ := F.ex
  obtain ⟨c0, rfl⟩ := He.codeIn_ref hcd
  have e := He.codeOf_eq (p := (x, none)) lk rfl
  rw [e]
  exact ⟨He.ga K x, oc, od, kV, doc, pm, an, ct, osl, He.glo_ok X G (c.facts hg), lk, hcd, F.kp⟩
theorem int_c {fa : List He.Fa} {fn : List He.DefD} (c : He.SaysD fa fn K) (X : K.In h) (G : h.Ns mainGlobals mg) {x : Str} {i : Int} (hg : He.Fa.int x i ∈ fa) : GloV mg x (.int i) := by
  obtain ⟨t, e⟩ := He.int_ok X G (c.facts hg)
  exact ⟨_, e, t, rfl⟩
theorem str_c {fa : List He.Fa} {fn : List He.DefD} (c : He.SaysD fa fn K) (X : K.In h) (G : h.Ns mainGlobals mg) {x z : Str} (hg : He.Fa.str x z ∈ fa) : GloV mg x (.str z) := by
  obtain ⟨t, e⟩ := He.str_ok X G (c.facts hg)
  exact ⟨_, e, t, rfl⟩
end
end R60

set_option Elab.async false
set_option pp.maxSteps 400
set_option linter.all false
set_option maxRecDepth 100000
set_option maxHeartbeats 2000000
namespace R60
open PySem PySem.Spec PyProof.Rows L2

theorem inl {α : Type} {l : List α} {x : α} (i : Nat) (h : l[i]? = some x := by rfl) : x ∈ l := List.mem_of_getElem? h
theorem ex_at' {K : PySem.W.Frag} (h : hEx K = true) (i : Nat) {b : Bool} (e : (hExs K)[i]? = some b := by rfl) : b = true := List.all_eq_true.mp h b (List.mem_of_getElem? e)
section
variable {K : PySem.W.Frag} {h : Heap} {mg : Str → Option Value} {w : World}
theorem hTxt (X : K.In h) (G : h.Ns mainGlobals mg) (S : He.SaysX hFa hFn hTs hTf hEx w h K) : Txt w K mg (He.ga K "Map") (He.ga K "Tape") (He.ga K "Deck") := by
  have c : He.SaysD hFa hFn K := S.t.d
  have gT : He.Fa.glo "TapeError" ∈ hFa := inl 13
  have gM : He.Fa.glo "MissingError" ∈ hFa := inl 14
  exact {
    n_len := He.free_ok X G (c.facts (inl 0))
    n_all := He.free_ok X G (c.facts (inl 1))
    n_zip := He.free_ok X G (c.facts (inl 2))
    n_list := He.free_ok X G (c.facts (inl 3))
    n_dict := He.free_ok X G (c.facts (inl 4))
    n_sorted := He.free_ok X G (c.facts (inl 5))
    n_isinstance := He.free_ok X G (c.facts (inl 6))
    n_int := He.free_ok X G (c.facts (inl 7))
    n_str := He.free_ok X G (c.facts (inl 8))
    n_bool := He.free_ok X G (c.facts (inl 9))
    n_tuple := He.free_ok X G (c.facts (inl 10))
    n_range := He.free_ok X G (c.facts (inl 11))
    n_enumerate := He.free_ok X G (c.facts (inl 12))
    e_BadEvent := dd_err (st := s_eBadEvent) c X G (inl 74) (inl 15) gT gM PySem.ErX.base_VE (ex_at' S.more 0) rfl rfl rfl
    e_BadBeat := dd_err (st := s_eBadBeat) c X G (inl 75) (inl 16) gT gM PySem.ErX.base_VE (ex_at' S.more 1) rfl rfl rfl
    e_BadPace := dd_err (st := s_eBadPace) c X G (inl 76) (inl 17) gT gM PySem.ErX.base_VE (ex_at' S.more 2) rfl rfl rfl
    e_BadTick := dd_err (st := s_eBadTick) c X G (inl 77) (inl 18) gT gM PySem.ErX.base_VE (ex_at' S.more 3) rfl rfl rfl
    e_BadChannel := dd_err (st := s_eBadChannel) c X G (inl 78) (inl 19) gT gM PySem.ErX.base_VE (ex_at' S.more 4) rfl rfl rfl
    e_BadName := dd_err (st := s_eBadName) c X G (inl 79) (inl 20) gT gM PySem.ErX.base_VE (ex_at' S.more 5) rfl rfl rfl
    e_Taken := dd_err (st := s_eTaken) c X G (inl 80) (inl 21) gT gM PySem.ErX.base_VE (ex_at' S.more 6) rfl rfl rfl
    e_Full := dd_err (st := s_eFull) c X G (inl 81) (inl 22) gT gM PySem.ErX.base_VE (ex_at' S.more 7) rfl rfl rfl
    e_NothingLeft := dd_err (st := s_eNothingLeft) c X G (inl 82) (inl 23) gT gM PySem.ErX.base_VE (ex_at' S.more 8) rfl rfl rfl
    e_NoTape := dd_err (st := s_eNoTape) c X G (inl 83) (inl 24) gT gM PySem.ErX.base_LE (ex_at' S.more 9) rfl rfl rfl
    e_NoTrack := dd_err (st := s_eNoTrack) c X G (inl 84) (inl 25) gT gM PySem.ErX.base_LE (ex_at' S.more 10) rfl rfl rfl
    e_NoEvent := dd_err (st := s_eNoEvent) c X G (inl 85) (inl 26) gT gM PySem.ErX.base_LE (ex_at' S.more 11) rfl rfl rfl
    c_MOST_TICK := int_c c X G (inl 27)
    c_MOST_EVENTS := int_c c X G (inl 28)
    c_MOST_SIGNS_events := int_c c X G (inl 29)
    c_MOST_BEAT := int_c c X G (inl 30)
    c_MOST_PACE := int_c c X G (inl 31)
    c_MOST_PACES := int_c c X G (inl 32)
    c_MOST_TRACKS := int_c c X G (inl 33)
    c_MOST_TAPES := int_c c X G (inl 34)
    c_MOST_SIGNS_deeds := int_c c X G (inl 35)
    c_SIGNS := str_c c X G (inl 36)
    c_LETTERS := str_c c X G (inl 37)
    d_is_between := dd_def c X G (inl 0) (inl 38)
    d_is_text := dd_def c X G (inl 1) (inl 39)
    d_is_event := dd_def c X G (inl 2) (inl 40)
    d_need_track := dd_def c X G (inl 3) (inl 41)
    d_need_tick := dd_def c X G (inl 4) (inl 42)
    d_later := dd_def c X G (inl 5) (inl 43)
    d_put_in := dd_def c X G (inl 6) (inl 44)
    d_need_beat := dd_def c X G (inl 7) (inl 45)
    d_need_pace := dd_def c X G (inl 8) (inl 46)
    d_is_of := dd_def c X G (inl 9) (inl 47)
    d_apart := dd_def c X G (inl 10) (inl 48)
    d_need_new := dd_def c X G (inl 11) (inl 49)
    d_tape_of := dd_def c X G (inl 12) (inl 50)
    d_track_of := dd_def c X G (inl 13) (inl 51)
    d_with_track := dd_def c X G (inl 14) (inl 52)
    d_do_new := dd_def c X G (inl 15) (inl 53)
    d_do_add := dd_def c X G (inl 16) (inl 54)
    d_do_put := dd_def c X G (inl 17) (inl 55)
    d_do_take := dd_def c X G (inl 18) (inl 56)
    d_do_pace := dd_def c X G (inl 19) (inl 57)
    d_do_later := dd_def c X G (inl 20) (inl 58)
    d_do_part := dd_def c X G (inl 21) (inl 59)
    d_after := dd_def c X G (inl 22) (inl 60)
    d_need_room_e := dd_def c X G (inl 23) (inl 61)
    d_need_room_d := dd_def c X G (inl 24) (inl 62)
    d_Lsame := dd_def c X G (inl 25) (inl 63)
    d_Ltried := dd_def c X G (inl 26) (inl 64)
    d_Lbegin := dd_def c X G (inl 27) (inl 65)
    d_Lpick := dd_def c X G (inl 28) (inl 66)
    d_Lnames := dd_def c X G (inl 29) (inl 67)
    d_Lbook_copy := dd_def c X G (inl 30) (inl 68)
    d_Lone := dd_def c X G (inl 31) (inl 69)
    d_Lbeat := dd_def c X G (inl 32) (inl 70)
    d_Ltick := dd_def c X G (inl 33) (inl 71)
    d_Lchannel := dd_def c X G (inl 34) (inl 72)
    d_Lkey := dd_def c X G (inl 35) (inl 73)
    d_Lword := dd_def c X G (inl 36) (inl 74)
    d_Lthing := dd_def c X G (inl 37) (inl 75)
    d_Lsome_event := dd_def c X G (inl 38) (inl 76)
    d_Lpace := dd_def c X G (inl 39) (inl 77)
    d_Lslim_deed := dd_def c X G (inl 40) (inl 78)
    d_Lslim_sizes := dd_def c X G (inl 41) (inl 79)
    d_Lname_word := dd_def c X G (inl 42) (inl 80)
    d_Lwithin := dd_def c X G (inl 43) (inl 81)
    d_Levent_good := dd_def c X G (inl 44) (inl 82)
    d_Lslim_track_word := dd_def c X G (inl 45) (inl 83)
    d_Lslim_word := dd_def c X G (inl 46) (inl 84)
    d_Lput_in := dd_def c X G (inl 47) (inl 85)
    d_Llane := dd_def c X G (inl 48) (inl 86)
    d_Lslim_done := dd_def c X G (inl 49) (inl 87)
    d_Lpairs := dd_def c X G (inl 50) (inl 88)
    d_Ldeck_so := dd_def c X G (inl 51) (inl 89)
    m_Map_put := dd_meth c (inl 54) (inl 93) (inl 110)
    m_Map_beat := dd_meth c (inl 55) (inl 93) (inl 111)
    m_Map_paces := dd_meth c (inl 56) (inl 93) (inl 112)
    m_Map_twin := dd_meth c (inl 57) (inl 93) (inl 113)
    m_Tape_beat := dd_meth c (inl 58) (inl 96) (inl 114)
    m_Tape_tracks := dd_meth c (inl 59) (inl 96) (inl 115)
    m_Tape_paces := dd_meth c (inl 60) (inl 96) (inl 116)
    m_Tape_paced := dd_meth c (inl 61) (inl 96) (inl 117)
    m_Deck_do := dd_meth c (inl 62) (inl 99) (inl 118)
    m_Deck_do_all := dd_meth c (inl 63) (inl 99) (inl 119)
    m_Deck_busy := dd_meth c (inl 64) (inl 99) (inl 120)
    m_Deck_undo := dd_meth c (inl 65) (inl 99) (inl 121)
    m_Deck_redo := dd_meth c (inl 66) (inl 99) (inl 122)
    m_Deck_deeds := dd_meth c (inl 67) (inl 99) (inl 123)
    m_Deck_names := dd_meth c (inl 68) (inl 99) (inl 124)
    m_Deck_tape := dd_meth c (inl 69) (inl 99) (inl 125)
    m_Deck_len := dd_meth c (inl 70) (inl 99) (inl 126)
    cl_Map := He.cls_ok (c.facts (inl 93))
    cl_Tape := He.cls_ok (c.facts (inl 96))
    cl_Deck := He.cls_ok (c.facts (inl 99))
    na_Map_ticks := He.noat_ok (c.facts (inl 101))
    na_Map_known := He.noat_ok (c.facts (inl 102))
    na_Tape_own := He.noat_ok (c.facts (inl 103))
    na_Tape_rows := He.noat_ok (c.facts (inl 104))
    na_Deck_book := He.noat_ok (c.facts (inl 105))
    na_Deck_elder := He.noat_ok (c.facts (inl 106))
    na_Deck_past := He.noat_ok (c.facts (inl 107))
    na_Deck_ahead := He.noat_ok (c.facts (inl 108))
    na_Deck_under := He.noat_ok (c.facts (inl 109))
    x_TapeError := ⟨_, He.glo_ok X G (c.facts gT)⟩
    x_MissingError := ⟨_, He.glo_ok X G (c.facts gM)⟩
    i_Deck := by
      obtain ⟨fd, F⟩ := dd_fun c (at_ := ("Deck", some "__init__")) (st := s_Deck_init) (inl 71)
      exact ⟨_, fd, He.glo_ok X G (c.facts (inl 98)), He.mkr_ok (c.facts (inl 100)), F⟩
    i_Map := by
      obtain ⟨fd, F⟩ := c.defs (d := ⟨("Map", some "__init__"), "__init__", "Map.__init__", defArgs s_Map_init, defBody s_Map_init, defScope s_Map_init, [.adr (He.dflAt ("Map", some "__init__") 0)], []⟩) (inl 72)
      exact ⟨_, fd, _, He.glo_ok X G (c.facts (inl 92)), He.mkr_ok (c.facts (inl 94)), F⟩
    i_Tape := by
      obtain ⟨fd, F⟩ := c.defs (d := ⟨("Tape", some "__init__"), "__init__", "Tape.__init__", defArgs s_Tape_init, defBody s_Tape_init, defScope s_Tape_init, [.int 96, .adr (He.dflAt ("Tape", some "__init__") 1)], [("paces", .adr (kwAt ("Tape", some "__init__") "paces"))]⟩) (inl 73)
      obtain ⟨v1, r1, p1⟩ := dB_ok 3 _ _ (ex_at' S.more 12)
      obtain ⟨v2, r2, p2⟩ := dB_ok 3 _ _ (ex_at' S.more 13)
      obtain ⟨a1, xs1, rfl, t1, q1⟩ := DAt.t p1
      obtain ⟨u, r, rfl, qu, q1⟩ := q1.un
      obtain rfl := q1.nl
      obtain ⟨e0, xs0, rfl, t0, q0⟩ := DAt.t qu
      obtain rfl := q0.nl
      obtain ⟨a2, xs2, rfl, t2, q2⟩ := DAt.t p2
      obtain rfl := q2.nl
      obtain rfl : He.dflAt ("Tape", some "__init__") 1 K = a1 := Value.ref.inj r1
      obtain rfl : kwAt ("Tape", some "__init__") "paces" K = a2 := Value.ref.inj r2
      exact ⟨_, fd, _, e0, _, He.glo_ok X G (c.facts (inl 95)), He.mkr_ok (c.facts (inl 97)), F, fun F => ex_sqt ex_none t1, fun F => ex_sqt ex_none t0, fun F => ex_sqt ex_none t2⟩
    k_SIZES := by
      obtain ⟨es, n, D⟩ := S.t.tab 0
      have hv := ex_at' S.more 14
      exact ⟨_, He.glo_ok X G (c.facts (inl 127)), D.low, kdct_of D hv (d := .int 3) (inl 0), kdct_of D hv (d := .int 2) (inl 1), kdct_of D hv (d := .int 2) (inl 2), kdct_of D hv (d := .int 4) (inl 3), kdct_of D hv (d := .int 4) (inl 4), kdct_of D hv (d := .int 4) (inl 5), kdct_of D hv (d := .int 4) (inl 6), kdct_of D hv (d := .int 4) (inl 7)⟩
    k_DEEDS := by
      obtain ⟨es, n, D⟩ := S.t.tab 1
      have hv := ex_at' S.more 15
      exact ⟨_, He.glo_ok X G (c.facts (inl 128)), ⟨_, kdct_of D hv (d := .glo "do_new") (inl 0), He.glo_ok X G (c.facts (inl 53))⟩, ⟨_, kdct_of D hv (d := .glo "do_add") (inl 1), He.glo_ok X G (c.facts (inl 54))⟩, ⟨_, kdct_of D hv (d := .glo "do_put") (inl 2), He.glo_ok X G (c.facts (inl 55))⟩, ⟨_, kdct_of D hv (d := .glo "do_take") (inl 3), He.glo_ok X G (c.facts (inl 56))⟩, ⟨_, kdct_of D hv (d := .glo "do_pace") (inl 4), He.glo_ok X G (c.facts (inl 57))⟩, ⟨_, kdct_of D hv (d := .glo "do_later") (inl 5), He.glo_ok X G (c.facts (inl 58))⟩, ⟨_, kdct_of D hv (d := .glo "do_part") (inl 6), He.glo_ok X G (c.facts (inl 59))⟩⟩
    k_FORMS := by
      obtain ⟨es, n, D⟩ := S.t.tab 2
      exact ⟨_, He.glo_ok X G (c.facts (inl 129)), D.low, tabB_ok D (ex_at' S.more 16), tabB_ok D (ex_at' S.more 17), tabB_ok D (ex_at' S.more 18), tabB_ok D (ex_at' S.more 19)⟩
  }
theorem hNe (S : He.SaysX hFa hFn hTs hTf hEx w h K) : (He.cT K ("_law_swung", none)).2 ≠ (He.cT K ("law", none)).2 := by
  have q := ex_at' S.more 20
  intro z
  rw [decide_eq_true z] at q
  cases q
theorem hDsw (X : K.In h) (G : h.Ns mainGlobals mg) (S : He.SaysX hFa hFn hTs hTf hEx w h K) : DefT K mg "_law_swung" "_law_swung" s_Lswung (He.cT K ("_law_swung", none)).1 := dd_T S.t.d X G (inl 52) (inl 90)
theorem hDlw (X : K.In h) (G : h.Ns mainGlobals mg) (S : He.SaysX hFa hFn hTs hTf hEx w h K) : DefT K mg "law" "law" s_law (He.cT K ("law", none)).1 := dd_T S.t.d X G (inl 53) (inl 91)
end
end R60

set_option Elab.async false
set_option pp.maxSteps 400
set_option linter.all false
set_option maxRecDepth 100000
set_option maxHeartbeats 2000000
namespace R60
open PySem PySem.Spec PyProof.Rows L2
/-! the end: the law over what the top has left -/
theorem hLaw {w : World} {K : PySem.W.Frag} {h : Heap} {mg : Str → Option Value} {fa : Addr} (X : K.In h) (G : h.Ns mainGlobals mg) (hfa : mg "law" = some (.ref fa)) (S : He.SaysX hFa hFn hTs hTf hEx w h K) :
    LamX.LawAtS PySem.Challenge.rw_reedtapes_k60_whole_decks_back_and_again w K (L2.CX PG w) 21 63 "_law_script" mg fa h := by
  obtain ⟨f, oc, od, kV, doc, pm, an, ct, osl, h1, lk, hcd, hk⟩ := hDlw X G S
  obtain rfl : f = fa := Value.ref.inj (Option.some.inj (h1.symm.trans hfa))
  have T := hTxt X G S
  have Dsw := hDsw X G S
  have hne := hNe S
  have m0 : (("_law_swung", none) : He.Defn) ∈ hTf := List.mem_cons_self
  have m1 : (("law", none) : He.Defn) ∈ hTf := List.mem_cons_of_mem _ List.mem_cons_self
  refine ⟨PySem.W.fnOf "law" "law" (defArgs s_law) (defBody s_law) (defScope s_law) .none kV doc pm an (.ref (He.cT K ("law", none)).1) ct, [He.cT K ("_law_swung", none), He.cT K ("law", none)], p_law K [((He.cT K ("_law_swung", none)).2, qSW), ((He.cT K ("law", none)).2, qLW)], ?_, ?_, ?_, ?_, ?_, ?_⟩
  · intro p hp
    rcases List.mem_cons.mp hp with rfl | hp
    · exact S.empty _ m0
    · rw [List.mem_singleton.mp hp]
      exact S.empty _ m1
  · intro p hp
    rcases List.mem_cons.mp hp with rfl | hp
    · exact S.out _ m0
    · rw [List.mem_singleton.mp hp]
      exact S.out _ m1
  · intro p hp
    rcases List.mem_cons.mp hp with rfl | hp
    · exact PySem.W.codeHd_of_K X (S.hd _ m0)
    · rw [List.mem_singleton.mp hp]
      exact PySem.W.codeHd_of_K X (S.hd _ m1)
  · exact fun s u => (fun us hu => match us, hu with | [_], _ => .of_eq rfl : ∀ us : List Value, us.length = 1 → BindsTo s (PySem.W.fnOf "law" "law" (defArgs s_law) (defBody s_law) (defScope s_law) .none kV doc pm an (.ref (He.cT K ("law", none)).1) ct) ⟨us, []⟩ ((["_law_script"] : List Str).zip us)) [u] rfl
  · intro H a ns hl _ hT hS
    refine ⟨a, ns, rfl, hS, hl, fun p hp => ?_, fun _ => rfl⟩
    rcases List.mem_cons.mp hp with rfl | hp
    · exact LamX.TabS.nil (hT _ List.mem_cons_self)
    · rw [List.mem_singleton.mp hp]
      exact LamX.TabS.nil (hT _ (List.mem_cons_of_mem _ List.mem_cons_self))
  · intro base _ _ hB
    have B0 := hB _ (List.mem_cons_self (a := He.cT K ("_law_swung", none)) (l := [He.cT K ("law", none)]))
    have B1 := hB (He.cT K ("law", none)) (List.mem_cons_of_mem _ List.mem_cons_self)
    have u0 : ∀ p ∈ [((He.cT K ("_law_swung", none)).2, qSW), ((He.cT K ("law", none)).2, qLW)], p.1 = (He.cT K ("_law_swung", none)).2 → p.2 = qSW := fun p hp e => by
      rcases List.mem_cons.mp hp with rfl | hp
      · rfl
      · rw [List.mem_singleton.mp hp] at e
        exact absurd e.symm hne
    have u1 : ∀ p ∈ [((He.cT K ("_law_swung", none)).2, qSW), ((He.cT K ("law", none)).2, qLW)], p.1 = (He.cT K ("law", none)).2 → p.2 = qLW := fun p hp e => by
      rcases List.mem_cons.mp hp with rfl | hp
      · exact absurd e hne
      · rw [List.mem_singleton.mp hp]
    have hsw := fl_swung (base := base) T Dsw B0 (List.mem_cons_self) u0
    exact fn_of lk hcd sc_law (fun vs H Q E ⟨a, ns, e, _⟩ => by rw [e] <;> rfl) fun A outer s H vs Q E hr hp => ⟨_, semS, lw_all T B1 (List.mem_cons_of_mem _ List.mem_cons_self) u1 hsw hr hp⟩
end R60

set_option Elab.async false
set_option pp.maxSteps 400
set_option linter.all false
set_option maxRecDepth 100000
set_option maxHeartbeats 0
open PySem PySem.W PySem.Calls PyProof.Rows
theorem PySem.Challenge.cw_reedtapes_k60_whole_decks_back_and_again_holds : PySem.Challenge.rw_reedtapes_k60_whole_decks_back_and_again.Holds := by
  w_on; o_law
  refine HandSHeadRun.head_any (r := R60.RR) (q := view R60.RR.prog [131]) (H := R60.hHk) (ob := R60.hOb) (M := 30000) (loose := R60.hNames) (d := HandSHeadRun.topDef R60.RR.prog 131) (kwd := []) R60.hOb_eq
    (by kernel_rfl) (fun s => by kernel_rfl) R60.hRun (by kernel_rfl) (by kernel_rfl) (by kernel_rfl) (by rfl) (by first | assumption | decide +kernel) (by decide +kernel) ⟨rfl, rfl, rfl, rfl, rfl, by decide +kernel⟩ ?hw ?hc
  case hw => w_witness2
  case hc =>
    refine LamX.walk_ofTsE (l := PySem.Challenge.rw_reedtapes_k60_whole_decks_back_and_again) (n := 63) (k := 21) (x := "_law_script") (CX := L2.CX R60.PG) rfl (by decide) (by kernel_rfl) ⟨rfl, by decide, by decide⟩ ?F (fun _ _ _ _ _ ⟨_, _, _, _, _, _, _, _, _, _, _, _, z⟩ => z)
    intro w mg fa h Y G hmg0
    obtain ⟨K, KX, c⟩ := Y
    have hmg : mg ("law" : PySem.Str) = some (.ref fa) := by
      have e : (HandSHeadRun.topDef R60.RR.prog 131).name = ("law" : PySem.Str) := by kernel_rfl
      rw [← e]
      exact hmg0
    exact ⟨K, KX, R60.hLaw KX G hmg c⟩

